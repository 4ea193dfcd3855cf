import PyProof.Rows.All
import Wide.All
import OpenK.AllK
import Wide.FinOn
import HandS.ForMost
import HandS.Exc
import HandS.IsInst
import HandS.Defaults
import HandS.Wide
import HandS.Zip
import HandS.TupAny
import HandS.TupMul
import HandS.Style
import HandS.Conv
import PySem.Challenge.RW_halvedloads_k00_digits_there_and_back
-- DLA
set_option Elab.async false
set_option linter.all false
set_option maxRecDepth 100000
/-! # DL: data in place of the heap. D: plain data; DR: the data that a value bears in an abstract heap; a state is a list of slots of data. -/
namespace L2.DL
open PySem PySem.Spec PyProof.Rows

inductive D where
  | non | bl (b : Bool) | int (i : Int) | str (x : Str)
  | lst (ds : List D) | tup (ds : List D) | frz (ds : List D)
  | ins (C : Addr) (ns : List Str) (ds : List D)
  | dct (ks : List Key) (ds : List D)
  | dcT (ks : List (List Key)) (ds : List D)
  | val (v : V)
  deriving Inhabited

/-- a tuple that stands in the abstract heap or in the written part -/
def TupAt (K : PySem.W.Frag) (H : Hp) (a : Addr) (xs : List V) : Prop :=
  H a = some (.tup xs) ∨ ∃ (o : Obj) (its : Array Value) (n : Nat), K.lookup a = some o ∧ o.cls = .type "tuple" ∧ o.data = .seq its n ∧ its.size ≤ sizeLine ∧ Vals xs its.toList
theorem TupAt.sq {K : PySem.W.Frag} {H : Hp} {a : Addr} {xs : List V} (h : TupAt K H a xs) : SqT K H a xs := by
  rcases h with h | h
  · exact .inl (.inl h)
  · exact .inr h
theorem TupAt.up {K : PySem.W.Frag} {H H' : Hp} {a : Addr} {xs : List V} (e : Same H H') (h : TupAt K H a xs) : TupAt K H' a xs := by
  rcases h with h | h
  · exact .inl (e _ _ h)
  · exact .inr h
mutual
inductive DR (K : PySem.W.Frag) (H : Hp) : V → D → Prop
  | non : DR K H .non .non
  | bl (b : Bool) : DR K H (.bl b) (.bl b)
  | int (i : Int) : DR K H (.int i) (.int i)
  | str (x : Str) : DR K H (.str x) (.str x)
  | lst {a : Addr} {xs : List V} {ds : List D} : H a = some (.lst xs) → xs.length ≤ sizeLine → DRs K H xs ds → DR K H (.ref a) (.lst ds)
  | frz {a : Addr} {xs : List V} {ds : List D} : SqL K H a xs → xs.length ≤ sizeLine → DRs K H xs ds → DR K H (.ref a) (.frz ds)
  | tup {a : Addr} {xs : List V} {ds : List D} : TupAt K H a xs → xs.length ≤ sizeLine → DRs K H xs ds → DR K H (.ref a) (.tup ds)
  | ins {a C dx : Addr} {fs : List (Str × V)} {ns : List Str} {ds : List D} : H a = some (.ins C dx fs) → fs.map (·.1) = ns → DRs K H (fs.map (·.2)) ds → DR K H (.ref a) (.ins C ns ds)
  | dct {a : Addr} {kvs : List (Key × V)} {ks : List Key} {ds : List D} : H a = some (.dK kvs) → kvs.map (·.1) = ks → kvs.length ≤ sizeLine → DRs K H (kvs.map (·.2)) ds → DR K H (.ref a) (.dct ks ds)
  | dcT {a : Addr} {kvs : List (List Key × V)} {ks : List (List Key)} {ds : List D} : H a = some (.dT kvs) → kvs.map (·.1) = ks → kvs.length ≤ sizeLine → DRs K H (kvs.map (·.2)) ds → DR K H (.ref a) (.dcT ks ds)
  | val (v : V) : DR K H v (.val v)
inductive DRs (K : PySem.W.Frag) (H : Hp) : List V → List D → Prop
  | nil : DRs K H [] []
  | cons {v : V} {vs : List V} {d : D} {ds : List D} : DR K H v d → DRs K H vs ds → DRs K H (v :: vs) (d :: ds)
end

mutual
theorem DR.up {K : PySem.W.Frag} {H H' : Hp} (e : Same H H') : ∀ (d : D) (v : V), DR K H v d → DR K H' v d
  | .non, _, h => by cases h; exact .non
  | .bl b, _, h => by cases h; exact .bl b
  | .int i, _, h => by cases h; exact .int i
  | .str x, _, h => by cases h; exact .str x
  | .val v, _, h => by cases h; exact .val v
  | .lst ds, _, h => by
    cases h with
    | lst h1 h2 h3 => exact .lst (e _ _ h1) h2 (DRs.up e ds _ h3)
  | .frz ds, _, h => by
    cases h with
    | frz h1 h2 h3 => exact .frz (e.seq h1) h2 (DRs.up e ds _ h3)
  | .tup ds, _, h => by
    cases h with
    | tup h1 h2 h3 => exact .tup (h1.up e) h2 (DRs.up e ds _ h3)
  | .ins C ns ds, _, h => by
    cases h with
    | ins h1 h2 h3 => exact .ins (e _ _ h1) h2 (DRs.up e ds _ h3)
  | .dct ks ds, _, h => by
    cases h with
    | dct h1 h2 h3 h4 => exact .dct (e _ _ h1) h2 h3 (DRs.up e ds _ h4)
  | .dcT ks ds, _, h => by
    cases h with
    | dcT h1 h2 h3 h4 => exact .dcT (e _ _ h1) h2 h3 (DRs.up e ds _ h4)
theorem DRs.up {K : PySem.W.Frag} {H H' : Hp} (e : Same H H') : ∀ (ds : List D) (vs : List V), DRs K H vs ds → DRs K H' vs ds
  | [], _, h => by cases h; exact .nil
  | d :: ds, _, h => by
    cases h with
    | cons h1 h2 => exact .cons (DR.up e d _ h1) (DRs.up e ds _ h2)
end
theorem DRs.length {K : PySem.W.Frag} {H : Hp} : ∀ {vs : List V} {ds : List D}, DRs K H vs ds → vs.length = ds.length
  | _, _, .nil => rfl
  | _, _, .cons _ h => congrArg Nat.succ h.length
theorem DRs.get {K : PySem.W.Frag} {H : Hp} : ∀ {vs : List V} {ds : List D} {i : Nat} {v : V}, DRs K H vs ds → vs[i]? = some v → ∃ d, ds[i]? = some d ∧ DR K H v d
  | _, _, _, _, .nil, e => by simp at e
  | _, _, 0, _, .cons r _, e => by simp at e; subst e; exact ⟨_, rfl, r⟩
  | _, _, i + 1, x, .cons _ t, e => by
    obtain ⟨u, h1, h2⟩ := DRs.get (i := i) (v := x) t (by simpa using e)
    exact ⟨u, by simpa using h1, h2⟩
theorem DRs.get' {K : PySem.W.Frag} {H : Hp} : ∀ {vs : List V} {ds : List D} {i : Nat} {d : D}, DRs K H vs ds → ds[i]? = some d → ∃ v, vs[i]? = some v ∧ DR K H v d
  | _, _, _, _, .nil, e => by simp at e
  | _, _, 0, _, .cons r _, e => by simp at e; subst e; exact ⟨_, rfl, r⟩
  | _, _, i + 1, x, .cons _ t, e => by
    obtain ⟨u, h1, h2⟩ := DRs.get' (i := i) (d := x) t (by simpa using e)
    exact ⟨u, by simpa using h1, h2⟩
theorem DRs.append {K : PySem.W.Frag} {H : Hp} : ∀ {vs ws : List V} {ds es : List D}, DRs K H vs ds → DRs K H ws es → DRs K H (vs ++ ws) (ds ++ es)
  | _, _, _, _, .nil, h => h
  | _, _, _, _, .cons r t, h => .cons r (t.append h)
theorem DRs.take {K : PySem.W.Frag} {H : Hp} : ∀ {vs : List V} {ds : List D} (n : Nat), DRs K H vs ds → DRs K H (vs.take n) (ds.take n)
  | _, _, 0, _ => .nil
  | _, _, _ + 1, .nil => .nil
  | _, _, n + 1, .cons r t => .cons r (DRs.take n t)
theorem DRs.drop {K : PySem.W.Frag} {H : Hp} : ∀ {vs : List V} {ds : List D} (n : Nat), DRs K H vs ds → DRs K H (vs.drop n) (ds.drop n)
  | _, _, 0, r => r
  | _, _, _ + 1, .nil => .nil
  | _, _, n + 1, .cons _ t => DRs.drop n t
theorem DRs.rev {K : PySem.W.Frag} {H : Hp} : ∀ {vs : List V} {ds : List D}, DRs K H vs ds → DRs K H vs.reverse ds.reverse
  | _, _, .nil => .nil
  | _, _, .cons r t => by
    rw [List.reverse_cons, List.reverse_cons]
    exact (DRs.rev t).append (.cons r .nil)
theorem DRs.set {K : PySem.W.Frag} {H : Hp} {v : V} {d : D} (r : DR K H v d) : ∀ {vs : List V} {ds : List D} (n : Nat), DRs K H vs ds → DRs K H (vs.set n v) (ds.set n d)
  | _, _, _, .nil => .nil
  | _, _, 0, .cons _ t => .cons r t
  | _, _, n + 1, .cons q t => .cons q (DRs.set r n t)
theorem DRs.rep {K : PySem.W.Frag} {H : Hp} {vs : List V} {ds : List D} (h : DRs K H vs ds) : ∀ n : Nat, DRs K H (List.replicate n vs).flatten (List.replicate n ds).flatten
  | 0 => .nil
  | n + 1 => by
    rw [List.replicate_succ, List.replicate_succ, List.flatten_cons, List.flatten_cons]
    exact h.append (DRs.rep h n)
theorem DRs.ints {K : PySem.W.Frag} {H : Hp} : ∀ {ns : List Int} {vs : List V}, DRs K H vs (ns.map D.int) → vs = ns.map V.int
  | [], _, h => by cases h; rfl
  | n :: ns, _, h => by
    cases h with
    | cons r t =>
      cases r
      rw [DRs.ints t]
      rfl
theorem DRs.ofInts {K : PySem.W.Frag} {H : Hp} : ∀ (ns : List Int), DRs K H (ns.map V.int) (ns.map D.int)
  | [] => .nil
  | n :: ns => .cons (.int n) (DRs.ofInts ns)
theorem DRs.bls {K : PySem.W.Frag} {H : Hp} : ∀ {ns : List Bool} {vs : List V}, DRs K H vs (ns.map D.bl) → vs = ns.map V.bl
  | [], _, h => by cases h; rfl
  | n :: ns, _, h => by
    cases h with
    | cons r t =>
      cases r
      rw [DRs.bls t]
      rfl

/-! ### the state: what is seen (Hb), what is there (H) -/
structure Grow (Hb H Hb' H' : Hp) : Prop where
  all : Same H H'
  vis : Same Hb Hb'
  sub : Same Hb' H'
  hid : ∀ b, H b ≠ none → Hb b = none → Hb' b = none
theorem Grow.refl {Hb H : Hp} (e : Same Hb H) : Grow Hb H Hb H := ⟨Same.refl _, Same.refl _, e, fun _ _ h => h⟩
theorem Grow.trans {A B A' B' A'' B'' : Hp} (g : Grow A B A' B') (g' : Grow A' B' A'' B'') : Grow A B A'' B'' :=
  ⟨g.all.trans g'.all, g.vis.trans g'.vis, g'.sub, fun b h n => g'.hid b (fun z => by
    cases q : B b with
    | none => exact h q
    | some o => rw [g.all b o q] at z; cases z) (g.hid b h n)⟩
/-- a new object is laid and seen -/
theorem Grow.lay {Hb H : Hp} (e : Same Hb H) {p : Addr} {o : HO} (hp : H p = none) : Grow Hb H (upd Hb p o) (upd H p o) := by
  have hb : Hb p = none := e.free hp
  refine ⟨fun b u q => ?_, fun b u q => ?_, fun b u q => ?_, fun b h n => ?_⟩
  · rw [upd_ne (ne_of_none q hp)]; exact q
  · rw [upd_ne (ne_of_none q hb)]; exact q
  · by_cases z : b = p
    · subst z; rw [upd_same] at q ⊢; exact q
    · rw [upd_ne z] at q ⊢; exact e b u q
  · rw [upd_ne (fun z => h (by rw [z]; exact hp))]; exact n
/-- a new object is laid and not seen -/
theorem Grow.hide {Hb H : Hp} (e : Same Hb H) {p : Addr} {o : HO} (hp : H p = none) : Grow Hb H Hb (upd H p o) := by
  refine ⟨fun b u q => ?_, Same.refl _, fun b u q => ?_, fun b h n => n⟩
  · rw [upd_ne (ne_of_none q hp)]; exact q
  · rw [upd_ne (ne_of_none q (e.free hp))]; exact e b u q

inductive DS where
  | no | val (d : D) | own (d : D)
  deriving Inhabited
abbrev Env := List DS
/-- what an owned object holds -/
inductive OR (K : PySem.W.Frag) (Hb : Hp) : HO → D → Prop
  | lst {xs : List V} {ds : List D} : xs.length ≤ sizeLine → DRs K Hb xs ds → OR K Hb (.lst xs) (.lst ds)
  | dct {kvs : List (Key × V)} {ks : List Key} {ds : List D} : kvs.map (·.1) = ks → kvs.length ≤ sizeLine → DRs K Hb (kvs.map (·.2)) ds → OR K Hb (.dK kvs) (.dct ks ds)
  | dcT {kvs : List (List Key × V)} {ks : List (List Key)} {ds : List D} : kvs.map (·.1) = ks → kvs.length ≤ sizeLine → DRs K Hb (kvs.map (·.2)) ds → OR K Hb (.dT kvs) (.dcT ks ds)
  | ins {C dx : Addr} {fs : List (Str × V)} {ns : List Str} {ds : List D} : fs.map (·.1) = ns → DRs K Hb (fs.map (·.2)) ds → OR K Hb (.ins C dx fs) (.ins C ns ds)
theorem OR.up {K : PySem.W.Frag} {H H' : Hp} (e : Same H H') {o : HO} {d : D} (h : OR K H o d) : OR K H' o d := by
  cases h with
  | lst a b => exact .lst a (DRs.up e _ _ b)
  | dct a b c => exact .dct a b (DRs.up e _ _ c)
  | dcT a b c => exact .dcT a b (DRs.up e _ _ c)
  | ins a b => exact .ins a (DRs.up e _ _ b)
theorem OR.dr {K : PySem.W.Frag} {H : Hp} {l : Addr} {o : HO} {d : D} (h : OR K H o d) (e : H l = some o) : DR K H (.ref l) d := by
  cases h with
  | lst a b => exact .lst e a b
  | dct a b c => exact .dct e a b c
  | dcT a b c => exact .dcT e a b c
  | ins a b => exact .ins e a b

structure Slots (K : PySem.W.Frag) (H0 Hb H : Hp) (σ : St) (δ : Env) : Prop where
  len : σ.length = δ.length
  val : ∀ (i : Nat) (d : D), δ[i]? = some (.val d) → ∃ v, σ[i]? = some (some v) ∧ DR K Hb v d
  own : ∀ (i : Nat) (d : D), δ[i]? = some (.own d) → ∃ l o, σ[i]? = some (some (.ref l)) ∧ H0 l = none ∧ Hb l = none ∧ H l = some o ∧ OR K Hb o d
  apart : ∀ (i j : Nat) (d e : D) (l : Addr), i ≠ j → δ[i]? = some (.own d) → δ[j]? = some (.own e) → σ[i]? = some (some (.ref l)) → σ[j]? = some (some (.ref l)) → False
theorem Slots.grow {K : PySem.W.Frag} {H0 Hb H Hb' H' : Hp} {σ : St} {δ : Env} (S : Slots K H0 Hb H σ δ) (g : Grow Hb H Hb' H') : Slots K H0 Hb' H' σ δ :=
  ⟨S.len, fun i d e => by
    obtain ⟨v, h1, h2⟩ := S.val i d e
    exact ⟨v, h1, DR.up g.vis _ _ h2⟩, fun i d e => by
    obtain ⟨l, o, h1, h2, h3, h4, h5⟩ := S.own i d e
    exact ⟨l, o, h1, h2, g.hid l (by rw [h4]; exact fun z => nomatch z) h3, g.all _ _ h4, h5.up g.vis⟩, S.apart⟩
/-- a slot is set to a seen value -/
theorem Slots.put {K : PySem.W.Frag} {H0 Hb H : Hp} {σ : St} {δ : Env} (S : Slots K H0 Hb H σ δ) {v : V} {d : D} (r : DR K Hb v d) (i : Nat) : Slots K H0 Hb H (σ.set i (some v)) (δ.set i (.val d)) := by
  have hl := S.len
  refine ⟨by rw [List.length_set, List.length_set]; exact hl, fun j d' e => ?_, fun j d' e => ?_, fun j k d1 d2 l hne e1 e2 e3 e4 => ?_⟩
  · by_cases hj : i = j
    · subst hj
      rw [List.getElem?_set] at e
      simp only [if_true] at e
      split at e
      · injection e with e; injection e with e; subst e
        exact ⟨v, by rw [List.getElem?_set]; simp only [if_true]; rw [if_pos (by omega)], r⟩
      · cases e
    · rw [List.getElem?_set_ne hj] at e
      obtain ⟨v', h1, h2⟩ := S.val j d' e
      exact ⟨v', by rw [List.getElem?_set_ne hj]; exact h1, h2⟩
  · by_cases hj : i = j
    · subst hj
      rw [List.getElem?_set] at e
      simp only [if_true] at e
      split at e
      · injection e with e; cases e
      · cases e
    · rw [List.getElem?_set_ne hj] at e
      rw [List.getElem?_set_ne hj]
      exact S.own j d' e
  · have f : ∀ (j : Nat) (d' : D), (δ.set i (.val d))[j]? = some (.own d') → i ≠ j := fun j d' e z => by
      subst z
      rw [List.getElem?_set] at e
      simp only [if_true] at e
      split at e
      · injection e with e; cases e
      · cases e
    have hj := f j d1 e1
    have hk := f k d2 e2
    rw [List.getElem?_set_ne hj] at e1 e3
    rw [List.getElem?_set_ne hk] at e2 e4
    exact S.apart j k d1 d2 l hne e1 e2 e3 e4
/-- less is known -/
theorem Slots.weak {K : PySem.W.Frag} {H0 Hb H : Hp} {σ σ' : St} {δ δ' : Env} (S : Slots K H0 Hb H σ δ) (hl : σ'.length = δ'.length) (h : ∀ (i : Nat) (s : DS), δ'[i]? = some s → s = .no ∨ (δ[i]? = some s ∧ σ'[i]? = σ[i]?)) : Slots K H0 Hb H σ' δ' := by
  refine ⟨hl, fun i d e => ?_, fun i d e => ?_, fun i j d1 d2 l hne e1 e2 e3 e4 => ?_⟩
  · rcases h i _ e with z | ⟨z, w⟩
    · cases z
    · rw [w]; exact S.val i d z
  · rcases h i _ e with z | ⟨z, w⟩
    · cases z
    · rw [w]; exact S.own i d z
  · rcases h i _ e1 with z | ⟨z, w⟩
    · cases z
    · rcases h j _ e2 with z' | ⟨z', w'⟩
      · cases z'
      · rw [w] at e3; rw [w'] at e4; exact S.apart i j d1 d2 l hne z z' e3 e4

/-- an exception as data: its class, its fields -/
structure XD where
  C : Addr
  ns : List Str
  ds : List D
/-- how it lies -/
def XR (K : PySem.W.Frag) (Hb H : Hp) (c : Value) (dd : Option Addr) (x : XD) : Prop :=
  c = .ref x.C ∧ ((x.ns = [] ∧ dd = none) ∨ ∃ a fs, dd = some a ∧ H a = some (.xd fs) ∧ fs.map (·.1) = x.ns ∧ DRs K Hb (fs.map (·.2)) x.ds)
/-- in a def's body: the entry (Hb0, H0), now (Hb, H) -/
structure Body (K : PySem.W.Frag) (Hb0 H0 Hb H : Hp) (σ : St) (δ : Env) : Prop where
  g : Grow Hb0 H0 Hb H
  s : Slots K H0 Hb H σ δ
theorem Body.grow {K : PySem.W.Frag} {Hb0 H0 Hb H Hb' H' : Hp} {σ : St} {δ : Env} (B : Body K Hb0 H0 Hb H σ δ) (g : Grow Hb H Hb' H') : Body K Hb0 H0 Hb' H' σ δ := ⟨B.g.trans g, B.s.grow g⟩
end L2.DL

-- DLB
set_option Elab.async false
set_option linter.all false
set_option maxRecDepth 100000
/-! # DL, expressions: EOk X W e t f says of the expression e: its reading t follows from f over data. -/
namespace L2.DL
open PySem PySem.Spec PyProof.Rows

abbrev DP := D → Prop
abbrev XP := XD → Prop
abbrev DE := Env → DP → XP → Prop
abbrev DT := Env → (Bool → Prop) → XP → Prop
abbrev DA := Env → (List D → Prop) → XP → Prop

/-- what a reading may use of the wish W where an exception x is foreseen -/
abbrev XW (K : PySem.W.Frag) (W : WX) (Hb H : Hp) (σ : St) (Xd : XP) : Prop := ∀ x c dd Hb' H', Xd x → Grow Hb H Hb' H' → XR K Hb' H' c dd x → W c dd σ H'
abbrev QW (K : PySem.W.Frag) (Hb H : Hp) (Q : VK) (Qd : DP) : Prop := ∀ d v Hb' H', Qd d → Grow Hb H Hb' H' → DR K Hb' v d → Q v H'
theorem QW.grow {K : PySem.W.Frag} {Hb H Hb' H' : Hp} {Q : VK} {Qd : DP} (h : QW K Hb H Q Qd) (g : Grow Hb H Hb' H') : QW K Hb' H' Q Qd := fun d v B' C' q g' r => h d v B' C' q (g.trans g') r
theorem XW.grow {K : PySem.W.Frag} {W : WX} {Hb H Hb' H' : Hp} {σ : St} {Xd : XP} (h : XW K W Hb H σ Xd) (g : Grow Hb H Hb' H') : XW K W Hb' H' σ Xd := fun x c dd B' C' q g' r => h x c dd B' C' q (g.trans g') r

def ER (K : PySem.W.Frag) (W : WX) (t : TE) (f : DE) : Prop := ∀ (H0 Hb H : Hp) (σ : St) (δ : Env) (Q : VK) (Qd : DP) (Xd : XP),
  Slots K H0 Hb H σ δ → Same Hb H → f δ Qd Xd → QW K Hb H Q Qd → XW K W Hb H σ Xd → t σ H Q
def TR (K : PySem.W.Frag) (W : WX) (t : TT) (f : DT) : Prop := ∀ (H0 Hb H : Hp) (σ : St) (δ : Env) (Q : Bool → Hp → Prop) (Qd : Bool → Prop) (Xd : XP),
  Slots K H0 Hb H σ δ → Same Hb H → f δ Qd Xd → (∀ b Hb' H', Qd b → Grow Hb H Hb' H' → Q b H') → XW K W Hb H σ Xd → t σ H Q
def AR (K : PySem.W.Frag) (W : WX) (t : TA) (f : DA) : Prop := ∀ (H0 Hb H : Hp) (σ : St) (δ : Env) (Q : List V → Hp → Prop) (Qd : List D → Prop) (Xd : XP),
  Slots K H0 Hb H σ δ → Same Hb H → f δ Qd Xd → (∀ ds vs Hb' H', Qd ds → Grow Hb H Hb' H' → DRs K Hb' vs ds → Q vs H') → XW K W Hb H σ Xd → t σ H Q
structure EOk (X : Cx) (W : WX) (e : Expr) (t : TE) (f : DE) : Prop where
  pe : PE X e t
  er : ER X.K W t f
structure TOk (X : Cx) (W : WX) (e : Expr) (t : TT) (f : DT) : Prop where
  pt : PT X e t
  tr : TR X.K W t f
structure WOk (X : Cx) (W : WX) (e : Expr) (t : TT) (f : DT) : Prop where
  pw : PW X e t
  tr : TR X.K W t f
structure AOk (X : Cx) (W : WX) (es : List Expr) (t : TA) (f : DA) : Prop where
  pa : PA X es t
  ar : AR X.K W t f
structure KOk (X : Cx) (W : WX) (es : List Keyword) (t : TA) (f : DA) : Prop where
  pk : PK X es t
  ar : AR X.K W t f

/-! ### by values -/
abbrev G1 := D → DP → Prop
abbrev G2 := D → D → DP → Prop
def R1D (K : PySem.W.Frag) (r : V → Hp → VK → Prop) (g : G1) : Prop := ∀ (Hb H : Hp) (x : V) (dx : D) (Q : VK) (Qd : DP), Same Hb H → DR K Hb x dx → g dx Qd → QW K Hb H Q Qd → r x H Q
def R2D (K : PySem.W.Frag) (r : R2) (g : G2) : Prop := ∀ (Hb H : Hp) (x y : V) (dx dy : D) (Q : VK) (Qd : DP), Same Hb H → DR K Hb x dx → DR K Hb y dy → g dx dy Qd → QW K Hb H Q Qd → r x y H Q
def RLD (K : PySem.W.Frag) (r : List V → Hp → VK → Prop) (g : List D → DP → Prop) : Prop := ∀ (Hb H : Hp) (xs : List V) (ds : List D) (Q : VK) (Qd : DP), Same Hb H → DRs K Hb xs ds → g ds Qd → QW K Hb H Q Qd → r xs H Q
structure Op2 (X : Cx) (f : Value → Value → Sem Value) (r : R2) (g : G2) : Prop where
  op : OpR X f r
  rd : R2D X.K r g
structure Op1 (X : Cx) (f : Value → Sem Value) (r : V → Hp → VK → Prop) (g : G1) : Prop where
  op : UnR X f r
  rd : R1D X.K r g
structure OpL (X : Cx) (f : Value) (r : List V → Hp → VK → Prop) (g : List D → DP → Prop) : Prop where
  op : CallR X f r
  rd : RLD X.K r g
theorem OpR.or2 {X : Cx} {f : Value → Value → Sem Value} {r r' : R2} (h : OpR X f r) (h' : OpR X f r') : OpR X f (fun x y H Q => r x y H Q ∨ r' x y H Q) := by
  intro pins s σ H x y v u Q I rx ry q
  rcases q with q | q
  · exact h pins s σ H x y v u Q I rx ry q
  · exact h' pins s σ H x y v u Q I rx ry q
theorem CallR.or2 {X : Cx} {f : Value} {r r' : List V → Hp → VK → Prop} (h : CallR X f r) (h' : CallR X f r') : CallR X f (fun x H Q => r x H Q ∨ r' x H Q) := by
  intro pins s σ H xs us Q I rx q
  rcases q with q | q
  · exact h pins s σ H xs us Q I rx q
  · exact h' pins s σ H xs us Q I rx q
theorem QW.here {K : PySem.W.Frag} {Hb H : Hp} {Q : VK} {Qd : DP} (h : QW K Hb H Q Qd) (e : Same Hb H) {d : D} {v : V} (q : Qd d) (r : DR K Hb v d) : Q v H := h d v Hb H q (Grow.refl e) r
theorem QW.lay {K : PySem.W.Frag} {Hb H : Hp} {Q : VK} {Qd : DP} (h : QW K Hb H Q Qd) (e : Same Hb H) {d : D} {p : Addr} {o : HO} (hp : H p = none) (q : Qd d) (r : OR K Hb o d) : Q (.ref p) (upd H p o) :=
  h d _ _ _ q (Grow.lay e hp) ((r.up (fun b u z => by rw [upd_ne (ne_of_none z (e.free hp))]; exact z)).dr upd_same)
theorem same_lay {Hb H : Hp} (e : Same Hb H) {p : Addr} {o : HO} (hp : H p = none) : Same Hb (upd Hb p o) := fun b u z => by rw [upd_ne (ne_of_none z (e.free hp))]; exact z
theorem QW.layT {K : PySem.W.Frag} {Hb H : Hp} {Q : VK} {Qd : DP} (h : QW K Hb H Q Qd) (e : Same Hb H) {ds : List D} {xs : List V} {p : Addr} (hp : H p = none) (q : Qd (.tup ds)) (hl : xs.length ≤ sizeLine) (r : DRs K Hb xs ds) : Q (.ref p) (upd H p (.tup xs)) :=
  h _ _ _ _ q (Grow.lay e hp) (.tup (.inl upd_same) hl (DRs.up (same_lay e hp) _ _ r))

section
variable {X : Cx} {W : WX} {a b : Expr} {ta tb : TE} {fa fb : DE} {pos : Pos}

/-! ### names, constants -/
def dVar (i : Nat) : DE := fun δ Q _ => match δ[i]? with
  | some (.val d) => Q d
  | _ => False
def dC (d : D) : DE := fun _ Q _ => Q d
theorem er_var {K : PySem.W.Frag} (i : Nat) : ER K W (tVar i) (dVar i) := by
  intro H0 Hb H σ δ Q Qd Xd S e h q x
  unfold dVar at h
  split at h
  · rename_i d hd
    obtain ⟨v, hv, r⟩ := S.val i d hd
    exact ⟨v, hv, q.here e h r⟩
  · exact h.elim
theorem er_c {K : PySem.W.Frag} {v : V} {d : D} (r : ∀ H, DR K H v d) : ER K W (tC v) (dC d) := fun H0 Hb H σ δ Q Qd Xd S e h q x => q.here e h (r Hb)
theorem ev (i : Nat) {x : Str} (hN : X.N[i]? = some x := by rfl) (hv : Vis X.env.scope x := by first | exact Or.inl rfl | exact Or.inr (Or.inl rfl) | exact Or.inr (Or.inr rfl)) (hd : (x == ("__debug__" : Str)) = false := by decide)
    (hcd : (x == ("__classdict__" : Str)) = false := by decide) : EOk X W (.Name x pos) (tVar i) (dVar i) := ⟨pe_var hN hv hd hcd, er_var i⟩
theorem e_int {i : Int} {j} : EOk X W (.Constant (.int i) j pos) (tC (.int i)) (dC (.int i)) := ⟨pe_int, er_c fun _ => .int i⟩
theorem e_bl {b : Bool} {j} : EOk X W (.Constant (.bool b) j pos) (tC (.bl b)) (dC (.bl b)) := ⟨pe_bl, er_c fun _ => .bl b⟩
theorem e_non {j} : EOk X W (.Constant .none j pos) (tC .non) (dC .non) := ⟨pe_non, er_c fun _ => .non⟩
theorem e_str {x : Str} {j} : EOk X W (.Constant (.str x) j pos) (tC (.str x)) (dC (.str x)) := ⟨pe_str, er_c fun _ => .str x⟩

/-! ### operators -/
def dOp (g : G2) (fa fb : DE) : DE := fun δ Q Xd => fa δ (fun x => fb δ (fun y => g x y Q) Xd) Xd
def dUn (g : G1) (fa : DE) : DE := fun δ Q Xd => fa δ (fun x => g x Q) Xd
theorem er_op {K : PySem.W.Frag} {r : R2} {g : G2} (hr : R2D K r g) (ha : ER K W ta fa) (hb : ER K W tb fb) : ER K W (tOp r ta tb) (dOp g fa fb) := by
  intro H0 Hb H σ δ Q Qd Xd S e h q x
  refine ha H0 Hb H σ δ _ _ Xd S e h (fun dx v B1 C1 h1 g1 r1 => ?_) x
  refine hb H0 B1 C1 σ δ _ _ Xd (S.grow g1) g1.sub h1 (fun dy u B2 C2 h2 g2 r2 => ?_) (x.grow g1)
  exact hr B2 C2 v u dx dy Q Qd g2.sub (DR.up g2.vis _ _ r1) r2 h2 ((q.grow g1).grow g2)
theorem er_un {K : PySem.W.Frag} {r : V → Hp → VK → Prop} {g : G1} (hr : R1D K r g) (ha : ER K W ta fa) : ER K W (tUn r ta) (dUn g fa) := by
  intro H0 Hb H σ δ Q Qd Xd S e h q x
  refine ha H0 Hb H σ δ _ _ Xd S e h (fun dx v B1 C1 h1 g1 r1 => ?_) x
  exact hr B1 C1 v dx Q Qd g1.sub r1 h1 (q.grow g1)
theorem e_op {op : Operator} {r : R2} {g : G2} (o : Op2 X (binaryOp op) r g) (ha : EOk X W a ta fa) (hb : EOk X W b tb fb) : EOk X W (.BinOp a op b pos) (tOp r ta tb) (dOp g fa fb) := ⟨pe_op o.op ha.pe hb.pe, er_op o.rd ha.er hb.er⟩
theorem e_un {op : UnaryOp} {r : V → Hp → VK → Prop} {g : G1} (o : Op1 X (unaryOp op) r g) (ha : EOk X W a ta fa) : EOk X W (.UnaryOp op a pos) (tUn r ta) (dUn g fa) := ⟨pe_un o.op ha.pe, er_un o.rd ha.er⟩
theorem e_cmp {op : CmpOp} {r : R2} {g : G2} (o : Op2 X (compareOp op) r g) (ha : EOk X W a ta fa) (hb : EOk X W b tb fb) (hm : behindInMarks op b = false) : EOk X W (.Compare a [op] [b] pos) (tOp r ta tb) (dOp g fa fb) := ⟨pe_cmpR o.op ha.pe hb.pe hm, er_op o.rd ha.er hb.er⟩
def dTst (f : DE) : DT := fun δ Q Xd => f δ (fun d => match d with | .bl k => Q k | _ => False) Xd
theorem tr_test {K : PySem.W.Frag} (ha : ER K W ta fa) : TR K W (tTest ta) (dTst fa) := by
  intro H0 Hb H σ δ Q Qd Xd S e h q x
  refine ha H0 Hb H σ δ _ _ Xd S e h (fun d v B1 C1 h1 g1 r1 => ?_) x
  cases d with
  | bl k => cases r1; exact ⟨k, rfl, q k B1 C1 h1 g1⟩
  | _ => exact h1.elim
theorem t_cmp {op : CmpOp} {r : R2} {g : G2} (o : Op2 X (compareOp op) r g) (ha : EOk X W a ta fa) (hb : EOk X W b tb fb) (hm : behindInMarks op b = false) : TOk X W (.Compare a [op] [b] pos) (tTest (tOp r ta tb)) (dTst (dOp g fa fb)) := ⟨pt_cmpR o.op ha.pe hb.pe hm, tr_test (er_op o.rd ha.er hb.er)⟩
/-! chains -/
def dChain (g g' : G2) (fa fb fc : DE) : DE := fun δ Q Xd => fa δ (fun x => fb δ (fun y => g x y (fun z => match z with | .bl k => (if k = true then fc δ (fun w => g' y w Q) Xd else Q (.bl false)) | _ => False)) Xd) Xd
theorem er_chain {K : PySem.W.Frag} {r r' : R2} {g g' : G2} {tc : TE} {fc : DE} (hr : R2D K r g) (hr' : R2D K r' g') (ha : ER K W ta fa) (hb : ER K W tb fb) (hc : ER K W tc fc) : ER K W (tChain r r' ta tb tc) (dChain g g' fa fb fc) := by
  intro H0 Hb H σ δ Q Qd Xd S e h q x
  refine ha H0 Hb H σ δ _ _ Xd S e h (fun dx v B1 C1 h1 g1 r1 => ?_) x
  refine hb H0 B1 C1 σ δ _ _ Xd (S.grow g1) g1.sub h1 (fun dy u B2 C2 h2 g2 r2 => ?_) (x.grow g1)
  have g12 := g1.trans g2
  refine hr B2 C2 v u dx dy _ _ g2.sub (DR.up g2.vis _ _ r1) r2 h2 fun dz z B3 C3 h3 g3 r3 => ?_
  have g13 := g12.trans g3
  cases dz with
  | bl k =>
    cases r3
    refine ⟨k, rfl, ?_⟩
    cases k with
    | false => exact iteF ((q.grow g13).here g3.sub (iteF_elim h3) (.bl false))
    | true =>
      refine iteT ?_
      refine hc H0 B3 C3 σ δ _ _ Xd (S.grow g13) g3.sub (iteT_elim h3) (fun dw w B4 C4 h4 g4 r4 => ?_) (x.grow g13)
      exact hr' B4 C4 u w dy dw Q Qd g4.sub (DR.up (g3.vis.trans g4.vis) _ _ r2) r4 h4 ((q.grow g13).grow g4)
  | _ => exact h3.elim
where
  iteF_elim {A B : Prop} (h : if false = true then A else B) : B := by rwa [if_neg Bool.false_ne_true] at h
  iteT_elim {A B : Prop} (h : if true = true then A else B) : A := by rwa [if_pos rfl] at h
theorem e_chain {c : Expr} {tc : TE} {fc : DE} {op op' : CmpOp} {r r' : R2} {g g' : G2} (o : Op2 X (compareOp op) r g) (o' : Op2 X (compareOp op') r' g') (ha : EOk X W a ta fa) (hb : EOk X W b tb fb) (hc : EOk X W c tc fc) (hm : lastMarks [op, op'] [b, c] = false := by with_unfolding_all rfl) :
    EOk X W (.Compare a [op, op'] [b, c] pos) (tChain r r' ta tb tc) (dChain g g' fa fb fc) := ⟨pe_chain o.op o'.op ha.pe hb.pe hc.pe hm, er_chain o.rd o'.rd ha.er hb.er hc.er⟩
theorem t_chain {c : Expr} {tc : TE} {fc : DE} {op op' : CmpOp} {r r' : R2} {g g' : G2} (o : Op2 X (compareOp op) r g) (o' : Op2 X (compareOp op') r' g') (ha : EOk X W a ta fa) (hb : EOk X W b tb fb) (hc : EOk X W c tc fc) (hm : lastMarks [op, op'] [b, c] = false := by with_unfolding_all rfl) :
    TOk X W (.Compare a [op, op'] [b, c] pos) (tTest (tChain r r' ta tb tc)) (dTst (dChain g g' fa fb fc)) := ⟨pt_chain o.op o'.op ha.pe hb.pe hc.pe hm, tr_test (er_chain o.rd o'.rd ha.er hb.er hc.er)⟩

/-! ### tests -/
def dTruV (d : D) (Q : Bool → Prop) : Prop := match d with
  | .non => Q false
  | .bl k => Q k
  | .int i => Q (i != 0)
  | .str x => x.length ≤ sizeLine ∧ Q ((x.length : Int) != 0)
  | .lst ds => Q (!ds.isEmpty)
  | .frz ds => Q (!ds.isEmpty)
  | .tup ds => Q (!ds.isEmpty)
  | .dct ks _ => Q (!ks.isEmpty)
  | _ => False
def dTru (f : DE) : DT := fun δ Q Xd => f δ (fun d => dTruV d Q) Xd
theorem isEmpty_len {α β : Type} {xs : List α} {ys : List β} (h : xs.length = ys.length) : xs.isEmpty = ys.isEmpty := by
  cases xs <;> cases ys <;> simp_all
theorem tru_of {K : PySem.W.Frag} {Hb H : Hp} {d : D} {v : V} {Q : Bool → Prop} (e : Same Hb H) (r : DR K Hb v d) (h : dTruV d Q) : ∃ k, TruV K v H k ∧ Q k := by
  have r := DR.up e _ _ r
  cases d with
  | non => cases r; exact ⟨_, rfl, h⟩
  | bl k => cases r; exact ⟨_, rfl, h⟩
  | int i => cases r; exact ⟨_, rfl, h⟩
  | str x => cases r; exact ⟨_, ⟨h.1, rfl⟩, h.2⟩
  | lst ds =>
    cases r with
    | lst h1 h2 h3 => exact ⟨_, .inl ⟨_, SqL.of h1, rfl⟩, by rw [isEmpty_len h3.length]; exact h⟩
  | frz ds =>
    cases r with
    | frz h1 h2 h3 => exact ⟨_, .inl ⟨_, h1, rfl⟩, by rw [isEmpty_len h3.length]; exact h⟩
  | tup ds =>
    cases r with
    | tup h1 h2 h3 => exact ⟨_, .inr (.inl ⟨_, h1.sq, rfl⟩), by rw [isEmpty_len h3.length]; exact h⟩
  | dct ks ds =>
    cases r with
    | dct h1 h2 h3 h4 => exact ⟨_, .inr (.inr ⟨_, h1, rfl⟩), by rw [← h2] at h; rw [← isEmpty_len (List.length_map (f := fun x : Key × V => x.1))]; exact h⟩
  | _ => exact h.elim
def tTru (K : PySem.W.Frag) (ta : TE) : TT := fun σ H Q => ta σ H fun x H1 => ∃ k, TruV K x H1 k ∧ Q k H1
theorem t_tru (ha : EOk X W a ta fa) (he : ∀ whole, isTrue a X.env whole = (do let v ← whole; standAt a.pos; holding [v] (truthy v)) := by intro _; rfl) {K' : PySem.W.Frag} (hK : X.K = K' := by rfl) : TOk X W a (tTru K' ta) (dTru fa) := by
  subst hK
  refine ⟨pt_truth ha.pe he, ?_⟩
  intro H0 Hb H σ δ Q Qd Xd S e h q x
  refine ha.er H0 Hb H σ δ _ _ Xd S e h (fun d v B1 C1 h1 g1 r1 => ?_) x
  obtain ⟨k, h2, h3⟩ := tru_of g1.sub r1 h1
  exact ⟨k, h2, q k B1 C1 h3 g1⟩
def dAnd (f g : DT) : DT := fun δ Q Xd => f δ (fun c => if c = true then g δ Q Xd else Q false) Xd
def dOr (f g : DT) : DT := fun δ Q Xd => f δ (fun c => if c = true then Q true else g δ Q Xd) Xd
def dNot (f : DT) : DT := fun δ Q Xd => f δ (fun c => Q (!c)) Xd
theorem tr_and {K : PySem.W.Frag} {t u : TT} {f g : DT} (ht : TR K W t f) (hu : TR K W u g) : TR K W (tAnd t u) (dAnd f g) := by
  intro H0 Hb H σ δ Q Qd Xd S e h q x
  refine ht H0 Hb H σ δ _ _ Xd S e h (fun c B1 C1 h1 g1 => ?_) x
  cases c with
  | true =>
    rw [if_pos rfl] at h1 ⊢
    exact hu H0 B1 C1 σ δ _ _ Xd (S.grow g1) g1.sub h1 (fun b B2 C2 h2 g2 => q b B2 C2 h2 (g1.trans g2)) (x.grow g1)
  | false =>
    rw [if_neg Bool.false_ne_true] at h1 ⊢
    exact q false B1 C1 h1 g1
theorem tr_or {K : PySem.W.Frag} {t u : TT} {f g : DT} (ht : TR K W t f) (hu : TR K W u g) : TR K W (tOr t u) (dOr f g) := by
  intro H0 Hb H σ δ Q Qd Xd S e h q x
  refine ht H0 Hb H σ δ _ _ Xd S e h (fun c B1 C1 h1 g1 => ?_) x
  cases c with
  | false =>
    rw [if_neg Bool.false_ne_true] at h1 ⊢
    exact hu H0 B1 C1 σ δ _ _ Xd (S.grow g1) g1.sub h1 (fun b B2 C2 h2 g2 => q b B2 C2 h2 (g1.trans g2)) (x.grow g1)
  | true =>
    rw [if_pos rfl] at h1 ⊢
    exact q true B1 C1 h1 g1
variable {rest : List Expr} {t u : TT} {f g : DT}
theorem w_and1 (ha : TOk X W a t f) : WOk X W (.BoolOp .And [a] pos) t f := ⟨pw_and1 ha.pt, ha.tr⟩
theorem w_or1 (ha : TOk X W a t f) : WOk X W (.BoolOp .Or [a] pos) t f := ⟨pw_or1 ha.pt, ha.tr⟩
theorem w_and (ha : TOk X W a t f) (hb : WOk X W (.BoolOp .And (b :: rest) pos) u g) : WOk X W (.BoolOp .And (a :: b :: rest) pos) (tAnd t u) (dAnd f g) := ⟨pw_and ha.pt hb.pw, tr_and ha.tr hb.tr⟩
theorem w_or (ha : TOk X W a t f) (hb : WOk X W (.BoolOp .Or (b :: rest) pos) u g) : WOk X W (.BoolOp .Or (a :: b :: rest) pos) (tOr t u) (dOr f g) := ⟨pw_or ha.pt hb.pw, tr_or ha.tr hb.tr⟩
theorem WOk.tst (h : WOk X W a t f) : TOk X W a t f := ⟨h.pw.pt, h.tr⟩
theorem t_not (ha : TOk X W a t f) : TOk X W (.UnaryOp .Not a pos) (tNot t) (dNot f) := by
  refine ⟨pt_not ha.pt, ?_⟩
  intro H0 Hb H σ δ Q Qd Xd S e h q x
  exact ha.tr H0 Hb H σ δ _ _ Xd S e h (fun c B1 C1 h1 g1 => q (!c) B1 C1 h1 g1) x
/-! as values: all but the last are True or False -/
def dAndV (fa fb : DE) : DE := fun δ Q Xd => fa δ (fun d => match d with | .bl c => (if c = true then fb δ Q Xd else Q (.bl false)) | _ => False) Xd
def dOrV (fa fb : DE) : DE := fun δ Q Xd => fa δ (fun d => match d with | .bl c => (if c = true then Q (.bl true) else fb δ Q Xd) | _ => False) Xd
def dNotV (fa : DE) : DE := fun δ Q Xd => fa δ (fun d => match d with | .bl c => Q (.bl (!c)) | _ => False) Xd
theorem e_one {op} (ha : EOk X W a ta fa) : EOk X W (.BoolOp op [a] pos) ta fa := ⟨pe_one ha.pe, ha.er⟩
theorem e_and (ha : EOk X W a ta fa) (hb : EOk X W (.BoolOp .And (b :: rest) pos) tb fb) : EOk X W (.BoolOp .And (a :: b :: rest) pos) (tAndV ta tb) (dAndV fa fb) := by
  refine ⟨pe_and ha.pe hb.pe, ?_⟩
  intro H0 Hb H σ δ Q Qd Xd S e h q x
  refine ha.er H0 Hb H σ δ _ _ Xd S e h (fun d v B1 C1 h1 g1 r1 => ?_) x
  cases d with
  | bl c =>
    cases r1
    refine ⟨c, rfl, ?_⟩
    cases c with
    | true =>
      have h1 : if true = true then fb δ Qd Xd else Qd (.bl false) := h1
      rw [if_pos rfl] at h1 ⊢
      exact hb.er H0 B1 C1 σ δ _ _ Xd (S.grow g1) g1.sub h1 (q.grow g1) (x.grow g1)
    | false =>
      have h1 : if false = true then fb δ Qd Xd else Qd (.bl false) := h1
      rw [if_neg Bool.false_ne_true] at h1 ⊢
      exact (q.grow g1).here g1.sub h1 (.bl false)
  | _ => exact h1.elim
theorem e_or (ha : EOk X W a ta fa) (hb : EOk X W (.BoolOp .Or (b :: rest) pos) tb fb) : EOk X W (.BoolOp .Or (a :: b :: rest) pos) (tOrV ta tb) (dOrV fa fb) := by
  refine ⟨pe_or ha.pe hb.pe, ?_⟩
  intro H0 Hb H σ δ Q Qd Xd S e h q x
  refine ha.er H0 Hb H σ δ _ _ Xd S e h (fun d v B1 C1 h1 g1 r1 => ?_) x
  cases d with
  | bl c =>
    cases r1
    refine ⟨c, rfl, ?_⟩
    cases c with
    | false =>
      have h1 : if false = true then Qd (.bl true) else fb δ Qd Xd := h1
      rw [if_neg Bool.false_ne_true] at h1 ⊢
      exact hb.er H0 B1 C1 σ δ _ _ Xd (S.grow g1) g1.sub h1 (q.grow g1) (x.grow g1)
    | true =>
      have h1 : if true = true then Qd (.bl true) else fb δ Qd Xd := h1
      rw [if_pos rfl] at h1 ⊢
      exact (q.grow g1).here g1.sub h1 (.bl true)
  | _ => exact h1.elim
theorem e_not (ha : EOk X W a ta fa) : EOk X W (.UnaryOp .Not a pos) (tNotV ta) (dNotV fa) := by
  refine ⟨pe_not ha.pe, ?_⟩
  intro H0 Hb H σ δ Q Qd Xd S e h q x
  refine ha.er H0 Hb H σ δ _ _ Xd S e h (fun d v B1 C1 h1 g1 r1 => ?_) x
  cases d with
  | bl c => cases r1; exact ⟨c, rfl, (q.grow g1).here g1.sub h1 (.bl (!c))⟩
  | _ => exact h1.elim
def dIfE (f : DT) (fa fb : DE) : DE := fun δ Q Xd => f δ (fun c => if c = true then fa δ Q Xd else fb δ Q Xd) Xd
theorem e_if {c : Expr} (hc : TOk X W c t f) (ha : EOk X W a ta fa) (hb : EOk X W b tb fb) : EOk X W (.IfExp c a b pos) (tIf t ta tb) (dIfE f fa fb) := by
  refine ⟨pe_ifExp hc.pt ha.pe hb.pe, ?_⟩
  intro H0 Hb H σ δ Q Qd Xd S e h q x
  refine hc.tr H0 Hb H σ δ _ _ Xd S e h (fun c B1 C1 h1 g1 => ?_) x
  cases c with
  | true =>
    rw [if_pos rfl] at h1 ⊢
    exact ha.er H0 B1 C1 σ δ _ _ Xd (S.grow g1) g1.sub h1 (q.grow g1) (x.grow g1)
  | false =>
    rw [if_neg Bool.false_ne_true] at h1 ⊢
    exact hb.er H0 B1 C1 σ δ _ _ Xd (S.grow g1) g1.sub h1 (q.grow g1) (x.grow g1)

/-! ### arguments, displays -/
variable {e : Expr} {es : List Expr} {te : TE} {fe : DE} {tr : TA} {fr : DA}
def dNil : DA := fun _ Q _ => Q []
def dCons (fe : DE) (fr : DA) : DA := fun δ Q Xd => fe δ (fun d => fr δ (fun ds => Q (d :: ds)) Xd) Xd
theorem ar_nil {K : PySem.W.Frag} : AR K W tNil dNil := fun H0 Hb H σ δ Q Qd Xd S e h q x => q [] [] Hb H h (Grow.refl e) .nil
theorem ar_cons {K : PySem.W.Frag} (ha : ER K W te fe) (hr : AR K W tr fr) : AR K W (tCons te tr) (dCons fe fr) := by
  intro H0 Hb H σ δ Q Qd Xd S e h q x
  refine ha H0 Hb H σ δ _ _ Xd S e h (fun d v B1 C1 h1 g1 r1 => ?_) x
  refine hr H0 B1 C1 σ δ _ _ Xd (S.grow g1) g1.sub h1 (fun ds vs B2 C2 h2 g2 r2 => ?_) (x.grow g1)
  exact q (d :: ds) (v :: vs) B2 C2 h2 (g1.trans g2) (.cons (DR.up g2.vis _ _ r1) r2)
theorem a_nil : AOk X W [] tNil dNil := ⟨pa_nil, ar_nil⟩
theorem a_cons (ha : EOk X W e te fe) (hr : AOk X W es tr fr) (hs : starEach (e :: es) X.env = (false, eval e X.env) :: starEach es X.env := by rfl) : AOk X W (e :: es) (tCons te tr) (dCons fe fr) := ⟨pa_cons ha.pe hr.pa hs, ar_cons ha.er hr.ar⟩
theorem k_nil : KOk X W [] tNil dNil := ⟨pk_nil, ar_nil⟩
theorem k_cons {nm : Option Str} {kpos : Pos} {kws : List Keyword} (ha : EOk X W e te fe) (hr : KOk X W kws tr fr) : KOk X W (⟨nm, e, kpos⟩ :: kws) (tCons te tr) (dCons fe fr) := ⟨pk_cons ha.pe hr.pk, ar_cons ha.er hr.ar⟩
/-- a display of so many items; n: written -/
def dTup (fr : DA) : DE := fun δ Q Xd => fr δ (fun ds => ds.length ≤ 1000 ∧ Q (.tup ds)) Xd
def dLst (fr : DA) : DE := fun δ Q Xd => fr δ (fun ds => ds.length ≤ 1000 ∧ Q (.lst ds)) Xd
theorem line1000 {n : Nat} (h : n ≤ 1000) : n ≤ sizeLine := Nat.le_of_lt (small1000 h)
theorem e_tup {x1} (h : AOk X W es tr fr) : EOk X W (.Tuple es x1 pos) (tTup tr) (dTup fr) := by
  refine ⟨pe_tup h.pa, ?_⟩
  intro H0 Hb H σ δ Q Qd Xd S e h1 q x
  refine h.ar H0 Hb H σ δ _ _ Xd S e h1 (fun ds vs B1 C1 h2 g1 r1 => ?_) x
  have hl : vs.length ≤ sizeLine := line1000 (by rw [r1.length]; exact h2.1)
  exact ⟨hl, fun p hp => (q.grow g1).layT g1.sub hp h2.2 hl r1⟩
theorem e_lst (h : AOk X W es tr fr) : EOk X W (.List es pos) (tLst tr) (dLst fr) := by
  refine ⟨pe_lst h.pa, ?_⟩
  intro H0 Hb H σ δ Q Qd Xd S e h1 q x
  refine h.ar H0 Hb H σ δ _ _ Xd S e h1 (fun ds vs B1 C1 h2 g1 r1 => ?_) x
  have hl : vs.length ≤ sizeLine := line1000 (by rw [r1.length]; exact h2.1)
  exact ⟨hl, fun p hp => (q.grow g1).lay g1.sub hp h2.2 (.lst hl r1)⟩

/-! ### calls of built-ins -/
def dCB (g : List D → DP → Prop) (fr : DA) : DE := fun δ Q Xd => fr δ (fun ds => g ds Q) Xd
theorem er_cb {K : PySem.W.Frag} {r : List V → Hp → VK → Prop} {g : List D → DP → Prop} (hr : RLD K r g) (h : AR K W tr fr) : ER K W (tCB r tr) (dCB g fr) := by
  intro H0 Hb H σ δ Q Qd Xd S e h1 q x
  refine h H0 Hb H σ δ _ _ Xd S e h1 (fun ds vs B1 C1 h2 g1 r1 => ?_) x
  exact hr B1 C1 vs ds Q Qd g1.sub r1 h2 (q.grow g1)
theorem e_cb {id : String} {r : List V → Hp → VK → Prop} {g : List D → DP → Prop} {x : Str} {p : Pos} (o : OpL X (.builtin id) r g) (hm : X.mg x = none) (hv : bootBuiltins x = some (.builtin id)) (h : AOk X W (e :: es) tr fr) (hg : Gl X x := by rfl) (hn : x ≠ "__name__" := by decide) (hdb : (x == ("__debug__" : Str)) = false := by decide)
    (he : starEach (e :: es) X.env = (false, eval e X.env) :: starEach es X.env := by rfl) (hpl : (backTo pos (starEach es X.env)).any (·.1) = false := by rfl) : EOk X W (.Call (.Name x p) (e :: es) [] pos) (tCB r tr) (dCB g fr) :=
  ⟨pe_callB o.op hg hm hv h.pa hn hdb he hpl, er_cb o.rd h.ar⟩
theorem e_cty {T : String} {r : List V → Hp → VK → Prop} {g : List D → DP → Prop} {x : Str} {p : Pos} (o : OpL X (.type T) r g) (hm : X.mg x = none) (hv : bootBuiltins x = some (.type T)) (h : AOk X W (e :: es) tr fr) (hg : Gl X x := by rfl) (hn : x ≠ "__name__" := by decide) (hdb : (x == ("__debug__" : Str)) = false := by decide)
    (he : starEach (e :: es) X.env = (false, eval e X.env) :: starEach es X.env := by rfl) (hpl : (backTo pos (starEach es X.env)).any (·.1) = false := by rfl) : EOk X W (.Call (.Name x p) (e :: es) [] pos) (tCB r tr) (dCB g fr) :=
  ⟨pe_callTy o.op hg hm hv h.pa hn hdb he hpl, er_cb o.rd h.ar⟩
/-- a built-in type as a value -/
theorem e_ty {x : Str} {n : String} {p : Pos} (hm : X.mg x = none) (hv : bootBuiltins x = some (.type n)) (hg : Gl X x := by rfl) (hn : x ≠ "__name__" := by decide) (hd : (x == ("__debug__" : Str)) = false := by decide) : EOk X W (.Name x p) (tC (.ty n)) (dC (.val (.ty n))) :=
  ⟨pe_bltn (v := .ty n) hg hm hv rfl hn hd, er_c fun _ => .val _⟩

/-! ### calls of own defs -/
/-- a def's promise over data -/
abbrev FD := List D → DP → XP → Prop
def spD (K : PySem.W.Frag) (F : FD) : Sp := fun vs H Q E => ∃ (Hb : Hp) (ds : List D) (Qd : DP) (Xd : XP), Same Hb H ∧ DRs K Hb vs ds ∧ F ds Qd Xd ∧ QW K Hb H Q Qd ∧ XW K (fun c dd _ H' => E c dd H') Hb H [] Xd
/-- a def that is found under the name x; dv: its defaults that fill up -/
structure Cal1 (P : Program) (w : World) (K : PySem.W.Frag) (mg : Str → Option Value) (base : Heap) (CX : CXT) (k : Nat) (x : Str) (dv : List V) (dd : List D) (F : FD) : Prop where
  ex : ∃ (f : Addr) (fd : FuncData) (ps : List Str) (ds : List Value), FnOk P w K mg base CX k f fd ps (spD K F) ∧ mg x = some (.ref f) ∧ PySem.W.keepIn K (.ref f) = true ∧ Binds K fd ps ds ∧ Vals dv ds
  dd : ∀ H, DRs K H dv dd
def dCall (F : FD) (dd : List D) (fr : DA) : DE := fun δ Q Xd => fr δ (fun ds => F (ds ++ dd) Q (fun _ => False)) Xd
theorem er_call {K : PySem.W.Frag} {F : FD} {dv : List V} {dd : List D} (hd : ∀ H, DRs K H dv dd) (h : AR K W tr fr) : ER K W (tCall (spD K F) dv E0 tr) (dCall F dd fr) := by
  intro H0 Hb H σ δ Q Qd Xd S e h1 q x
  refine h H0 Hb H σ δ _ _ Xd S e h1 (fun ds vs B1 C1 h2 g1 r1 => ?_) x
  exact ⟨B1, ds ++ dd, Qd, fun _ => False, g1.sub, r1.append (hd _), h2, q.grow g1, fun _ _ _ _ _ z => z.elim⟩
theorem e_call {k : Nat} {x : Str} {dv : List V} {dd : List D} {F : FD} {p : Pos} (c : Cal1 X.prog X.w X.K X.mg X.base CX0 k x dv dd F) (hr : Room k X.A) (h : AOk X W (e :: es) tr fr) (hg : Gl X x := by rfl) (hdb : (x == ("__debug__" : Str)) = false := by decide)
    (he : starEach (e :: es) X.env = (false, eval e X.env) :: starEach es X.env := by rfl) (hpl : (backTo pos (starEach es X.env)).any (·.1) = false := by rfl) {K' : PySem.W.Frag} (hK : X.K = K' := by rfl) : EOk X W (.Call (.Name x p) (e :: es) [] pos) (tCall (spD K' F) dv E0 tr) (dCall F dd fr) := by
  subst hK
  obtain ⟨f, fd, ps, ds, h1, h2, h3, h4, h5⟩ := c.ex
  exact ⟨pe_call h1 hr hg h2 h3 h4 h5 pass0 h.pa hdb he hpl, er_call c.dd h.ar⟩
/-- .. with keywords behind n positional values, in the parameters' order -/
structure CalN (P : Program) (w : World) (K : PySem.W.Frag) (mg : Str → Option Value) (base : Heap) (CX : CXT) (k : Nat) (x : Str) (n : Nat) (ks : List Str) (F : FD) : Prop where
  ex : ∃ (f : Addr) (fd : FuncData) (ps : List Str), FnOk P w K mg base CX k f fd ps (spD K F) ∧ mg x = some (.ref f) ∧ PySem.W.keepIn K (.ref f) = true ∧ KBn K fd ps n ks (fun us ws => us ++ ws) (fun us ws => us ++ ws)
def dCallN (n m : Nat) (F : FD) (fr fk : DA) : DE := fun δ Q Xd => fr δ (fun ds => fk δ (fun zs => ds.length = n ∧ zs.length = m ∧ F (ds ++ zs) Q (fun _ => False)) Xd) Xd
theorem er_callN {K : PySem.W.Frag} {n m : Nat} {F : FD} {tk : TA} {fk : DA} (h : AR K W tr fr) (hk : AR K W tk fk) : ER K W (tCallN n m (spD K F) (fun us ws => us ++ ws) E0 tr tk) (dCallN n m F fr fk) := by
  intro H0 Hb H σ δ Q Qd Xd S e h1 q x
  refine h H0 Hb H σ δ _ _ Xd S e h1 (fun ds vs B1 C1 h2 g1 r1 => ?_) x
  refine hk H0 B1 C1 σ δ _ _ Xd (S.grow g1) g1.sub h2 (fun zs us B2 C2 h3 g2 r2 => ?_) (x.grow g1)
  exact ⟨by rw [r1.length]; exact h3.1, by rw [r2.length]; exact h3.2.1, B2, ds ++ zs, Qd, fun _ => False, g2.sub, (DRs.up g2.vis _ _ r1).append r2, h3.2.2, (q.grow g1).grow g2, fun _ _ _ _ _ z => z.elim⟩
theorem e_callN {k n : Nat} {x : Str} {ks : List Str} {F : FD} {p : Pos} {kws : List Keyword} {tk : TA} {fk : DA} (c : CalN X.prog X.w X.K X.mg X.base CX0 k x n ks F) (hr : Room k X.A) (h : AOk X W (e :: es) tr fr) (hk : KOk X W kws tk fk) (hg : Gl X x := by rfl)
    (hall : (backToKw pos (keywordEach kws X.env)).all (·.1.isSome) = true := by rfl) (hks : (backToKw pos (keywordEach kws X.env)).filterMap (·.1) = ks := by rfl)
    (hdb : (x == ("__debug__" : Str)) = false := by decide) (he : starEach (e :: es) X.env = (false, eval e X.env) :: starEach es X.env := by rfl)
    (hpl : ((backTo pos (starEach (e :: es) X.env)).any (·.1) || (backToKw pos (keywordEach kws X.env)).any (·.1.isNone)) = false := by rfl) {K' : PySem.W.Frag} (hK : X.K = K' := by rfl) :
    EOk X W (.Call (.Name x p) (e :: es) kws pos) (tCallN n ks.length (spD K' F) (fun us ws => us ++ ws) E0 tr tk) (dCallN n ks.length F fr fk) := by
  subst hK
  obtain ⟨f, fd, ps, h1, h2, h3, h4⟩ := c.ex
  exact ⟨pe_callN h1 hr hg h2 h3 h4 pass0 h.pa hk.pk hall hks hdb he hpl, er_callN h.ar hk.ar⟩
end
end L2.DL

-- DLC
set_option Elab.async false
set_option linter.all false
set_option maxRecDepth 100000
set_option maxHeartbeats 1000000
/-! # DL, the built-in operators over data -/
namespace L2.DL
open PySem PySem.Spec PyProof.Rows
section
variable {X : Cx}

/-! ### tuple * 1 -/
theorem tuple_mul1 (l : Addr) (items : Array Value) (n : Nat) (dd : Option Addr) (sl : Array (Option Value)) (u : Tok) (hd : dd = none ∨ True) :
    Meets (Builtin.«tuple.__mul__» ⟨[.ref l, .int 1 u], []⟩) (fun _ R s => s.heap.get? l = some { cls := .type "tuple", dict := dd, data := .seq items n, slots := sl } ∧
      R (.ok (.ret (Value.ref l))) s) :=
  .of_wp fun prog w A R s h => by
    obtain ⟨hp, g, d, tk, os⟩ := s
    obtain ⟨hl, h⟩ := h
    have f1 := AutoSeq1.idx_int
    have c1 : (items.isEmpty || (1 : Int) == 1) = true := by simp
    wp_walk using wpAny_loadPart' hl
    exact ⟨_, rfl, h⟩
def rRep1 (K : PySem.W.Frag) : R2 := fun x y H Q => ∃ l xs, x = .ref l ∧ y = .int 1 ∧ SqT K H l xs ∧ Q (.ref l) H
theorem op_rep1 : OpR X (binaryOp .Mult) (rRep1 X.K) := by
  intro pins s σ H x y v u Q I rx ry h
  obtain ⟨l, xs, rfl, rfl, hT, q⟩ := h
  cases rx
  obtain ⟨t, rfl⟩ := ry
  obtain ⟨its, r, ⟨ob, e, c, n, hd⟩, _⟩ := I.tuple hT
  obtain ⟨oc, od, dt, sl⟩ := ob
  simp only at c hd
  subst c hd
  refine wpAny_binaryOp_repeat_ref (T := "tuple") (U := "int") (by decide) ⟨_, e, rfl⟩ (fun s' => typeIs_int s' 1 t)
    noFill_tuple_mul F.fills_int_mul F.slot_int_rmul repeat_tuple
    F.slot_int_index.lookup (call_meets F.slot_int_rmul (typeIs_int s 1 t) F.entry_int_rmul
      (F.args_int_rmul_2 _ _) (int_rmul_tuple 1 t l its.toArray n od sl)
      ⟨e, rfl, ⟨_, e, rfl⟩, call_meets F.slot_tuple_mul ⟨_, e, rfl⟩ F.entry_tuple_mul (F.args_tuple_mul_2 _ _)
        (tuple_mul1 l its.toArray n od sl t (.inr trivial)) ⟨e, ?_⟩⟩)
  exact ⟨.ref l, H, I, rfl, q⟩

/-! ### + - * // % ** -/
def dAddV : G2
  | .int i, .int j, Q => Q (.int (i + j))
  | .str x, .str y, Q => x.length + y.length ≤ sizeLine ∧ Q (.str (x ++ y))
  | .lst a, .lst b, Q => a.length + b.length ≤ sizeLine ∧ Q (.lst (a ++ b))
  | .tup a, .tup b, Q => a.length + b.length ≤ sizeLine ∧ Q (.tup (a ++ b))
  | _, _, _ => False
theorem o_add {K' : PySem.W.Frag} (hK : X.K = K' := by rfl) : Op2 X (binaryOp .Add) (fun x y H Q => rI0 (fun i j => .int (i + j)) x y H Q ∨ (∃ i j, x = .str i ∧ y = .str j ∧ i.length + j.length ≤ sizeLine ∧ Q (.str (i ++ j)) H) ∨ rCat x y H Q ∨ rCatA K' x y H Q) dAddV := by
  subst hK
  refine ⟨OpR.or2 op_add (OpR.or2 op_add_str (OpR.or2 op_cat op_catA)), ?_⟩
  intro Hb H x y dx dy Q Qd e rx ry h q
  unfold dAddV at h
  split at h
  · cases rx; cases ry
    exact .inl ⟨_, _, rfl, rfl, q.here e h (.int _)⟩
  · cases rx; cases ry
    exact .inr (.inl ⟨_, _, rfl, rfl, h.1, q.here e h.2 (.str _)⟩)
  · cases rx with
    | lst a1 a2 a3 =>
      cases ry with
      | lst b1 b2 b3 =>
        have hl := h.1
        rw [← a3.length, ← b3.length] at hl
        exact .inr (.inr (.inl ⟨_, _, _, _, rfl, rfl, e _ _ a1, e _ _ b1, hl, fun p hp => q.lay e hp h.2 (.lst (by rw [List.length_append]; exact hl) (a3.append b3))⟩))
  · cases rx with
    | tup a1 a2 a3 =>
      cases ry with
      | tup b1 b2 b3 =>
        have hl := h.1
        rw [← a3.length, ← b3.length] at hl
        refine .inr (.inr (.inr ⟨_, _, _, _, rfl, rfl, (a1.up e).sq, (b1.up e).sq, hl, fun z => ?_, fun _ z => ?_, fun _ _ p hp => q.layT e hp h.2 (by rw [List.length_append]; exact hl) (a3.append b3)⟩))
        · subst z
          have z1 := a3.length
          have z2 := h.2
          rw [List.eq_nil_of_length_eq_zero z1.symm, List.nil_append] at z2
          exact q.here e z2 (.tup b1 b2 b3)
        · subst z
          have z1 := b3.length
          have z2 := h.2
          rw [List.eq_nil_of_length_eq_zero z1.symm, List.append_nil] at z2
          exact q.here e z2 (.tup a1 a2 a3)
  · exact h.elim
def dSubV : G2
  | .int i, .int j, Q => Q (.int (i - j))
  | _, _, _ => False
theorem o_sub : Op2 X (binaryOp .Sub) (rI0 fun i j => .int (i - j)) dSubV := by
  refine ⟨op_sub, ?_⟩
  intro Hb H x y dx dy Q Qd e rx ry h q
  unfold dSubV at h
  split at h
  · cases rx; cases ry
    exact ⟨_, _, rfl, rfl, q.here e h (.int _)⟩
  · exact h.elim
/-- a product that the machine makes without a word -/
def mulOk (i j : Int) : Prop := CMul i j ∨ CMulW i j
def dMulV : G2
  | .int i, .int j, Q => mulOk i j ∧ Q (.int (i * j))
  | .lst a, .int k, Q => -(2 ^ 63) ≤ k ∧ k < 2 ^ 63 ∧ a.length * k.toNat ≤ sizeLine ∧ Q (.lst (List.replicate k.toNat a).flatten)
  | .tup a, .int k, Q => a ≠ [] ∧ 1 ≤ k ∧ k ≤ 1000 ∧ a.length ≤ 1000 ∧ Q (.tup (List.replicate k.toNat a).flatten)
  | _, _, _ => False
theorem len_rep {α : Type} (xs : List α) : ∀ n : Nat, (List.replicate n xs).flatten.length = xs.length * n
  | 0 => rfl
  | n + 1 => by rw [List.replicate_succ, List.flatten_cons, List.length_append, len_rep xs n, Nat.mul_succ, Nat.add_comm]
theorem o_mul {K' : PySem.W.Frag} (hK : X.K = K' := by rfl) : Op2 X (binaryOp .Mult) (fun x y H Q => (rI CMul (fun i j => .int (i * j)) x y H Q ∨ rI CMulW (fun i j => .int (i * j)) x y H Q) ∨ rRep x y H Q ∨ rRep1 K' x y H Q ∨ rRepT K' x y H Q) dMulV := by
  subst hK
  refine ⟨OpR.or2 (OpR.or2 op_mul op_mulW) (OpR.or2 op_rep (OpR.or2 op_rep1 op_repT)), ?_⟩
  intro Hb H x y dx dy Q Qd e rx ry h q
  unfold dMulV at h
  split at h
  · cases rx; cases ry
    rcases h.1 with z | z
    · exact .inl (.inl ⟨_, _, rfl, rfl, z, q.here e h.2 (.int _)⟩)
    · exact .inl (.inr ⟨_, _, rfl, rfl, z, q.here e h.2 (.int _)⟩)
  · cases ry
    cases rx with
    | lst a1 a2 a3 =>
      obtain ⟨h1, h2, h3, h4⟩ := h
      rw [← a3.length] at h3
      exact .inr (.inl ⟨_, _, _, rfl, rfl, e _ _ a1, h1, h2, h3, fun p hp => q.lay e hp h4 (.lst (by rw [len_rep]; exact h3) (a3.rep _))⟩)
  · cases ry
    rename_i Q' a k
    cases rx with
    | @tup _ xs _ a1 a2 a3 =>
      obtain ⟨h0, h1, h2, h3, h4⟩ := h
      rw [← a3.length] at h3
      have hne : xs ≠ [] := fun z => h0 (List.eq_nil_of_length_eq_zero (by rw [← a3.length, z]; rfl))
      by_cases hk : k = 1
      · subst hk
        have z : (List.replicate (1 : Int).toNat a).flatten = a := by simp
        rw [z] at h4
        exact .inr (.inr (.inl ⟨_, _, rfl, rfl, (a1.up e).sq, q.here e h4 (.tup a1 a2 a3)⟩))
      · refine .inr (.inr (.inr ⟨_, _, _, rfl, rfl, (a1.up e).sq, hne, by omega, h2, h3, fun p hp => q.layT e hp h4 ?_ (a3.rep _)⟩))
        rw [len_rep]
        have : xs.length * k.toNat ≤ 1000 * 1000 := Nat.mul_le_mul h3 (by omega)
        rw [sizeLine_eq]
        omega
  · exact h.elim
/-- a divisor that the machine takes -/
def divOk (j : Int) : Prop := 0 < j ∧ j.natAbs.log2 < 9000
def dFdivV : G2
  | .int i, .int j, Q => divOk j ∧ Q (.int (i / j))
  | _, _, _ => False
theorem o_fdiv : Op2 X (binaryOp .FloorDiv) (rI CDivW fun i j => .int (i / j)) dFdivV := by
  refine ⟨op_fdivW, ?_⟩
  intro Hb H x y dx dy Q Qd e rx ry h q
  unfold dFdivV at h
  split at h
  · cases rx; cases ry
    exact ⟨_, _, rfl, rfl, h.1, q.here e h.2 (.int _)⟩
  · exact h.elim
def dModV : G2
  | .int i, .int j, Q => 0 < j ∧ Q (.int (i % j))
  | _, _, _ => False
theorem o_mod : Op2 X (binaryOp .Mod) (rI (fun _ j => 0 < j) fun i j => .int (i % j)) dModV := by
  refine ⟨op_mod, ?_⟩
  intro Hb H x y dx dy Q Qd e rx ry h q
  unfold dModV at h
  split at h
  · cases rx; cases ry
    exact ⟨_, _, rfl, rfl, h.1, q.here e h.2 (.int _)⟩
  · exact h.elim
def dPowV : G2
  | .int i, .int j, Q => (0 ≤ j ∧ j ≤ 1000000 ∧ i.natAbs < 2 ^ 64) ∧ Q (.int (i ^ j.toNat))
  | _, _, _ => False
theorem o_pow : Op2 X (binaryOp .Pow) (rI CPow fun i j => .int (i ^ j.toNat)) dPowV := by
  refine ⟨op_pow, ?_⟩
  intro Hb H x y dx dy Q Qd e rx ry h q
  unfold dPowV at h
  split at h
  · cases rx; cases ry
    exact ⟨_, _, rfl, rfl, h.1, q.here e h.2 (.int _)⟩
  · exact h.elim
def dNegV : G1
  | .int i, Q => Q (.int (-i))
  | _, _ => False
theorem o_neg : Op1 X (unaryOp .USub) (rU fun i => .int (-i)) dNegV := by
  refine ⟨un_neg, ?_⟩
  intro Hb H x dx Q Qd e rx h q
  unfold dNegV at h
  split at h
  · cases rx
    exact ⟨_, rfl, q.here e h (.int _)⟩
  · exact h.elim

/-! ### comparisons -/
def dCmpV (p : Int → Int → Bool) : G2
  | .int i, .int j, Q => Q (.bl (p i j))
  | _, _, _ => False
theorem r_cmp {K : PySem.W.Frag} {p : Int → Int → Bool} : R2D K (rI0 fun i j => .bl (p i j)) (dCmpV p) := by
  intro Hb H x y dx dy Q Qd e rx ry h q
  unfold dCmpV at h
  split at h
  · cases rx; cases ry
    exact ⟨_, _, rfl, rfl, q.here e h (.bl _)⟩
  · exact h.elim
theorem o_lt : Op2 X (compareOp .Lt) (rI0 fun i j => .bl (decide (i < j))) (dCmpV fun i j => decide (i < j)) := ⟨op_lt, r_cmp⟩
theorem o_le : Op2 X (compareOp .LtE) (rI0 fun i j => .bl (decide (i ≤ j))) (dCmpV fun i j => decide (i ≤ j)) := ⟨op_le, r_cmp⟩
theorem o_gt : Op2 X (compareOp .Gt) (rI0 fun i j => .bl (decide (i > j))) (dCmpV fun i j => decide (i > j)) := ⟨op_gt, r_cmp⟩
theorem o_ge : Op2 X (compareOp .GtE) (rI0 fun i j => .bl (decide (i ≥ j))) (dCmpV fun i j => decide (i ≥ j)) := ⟨op_ge, r_cmp⟩
mutual
def pd : D → PyData
  | .non => .none
  | .bl b => .bool b
  | .int i => .int i
  | .str x => .str x
  | .lst ds => .list (pds ds)
  | .frz ds => .list (pds ds)
  | .tup ds => .tuple (pds ds)
  | .ins _ _ _ => .dict []
  | .dct _ _ => .dict []
  | .dcT _ _ => .dict []
  | .val _ => .dict []
def pds : List D → List PyData
  | [] => []
  | d :: ds => pd d :: pds ds
end
mutual
theorem dp_of {K : PySem.W.Frag} {H : Hp} : ∀ (d : D) (v : V), (pd d).canLay0 = true → DR K H v d → Dp K H v (pd d)
  | .non, _, _, h => by cases h; exact .non
  | .bl b, _, _, h => by cases h; exact .bl b
  | .int i, _, _, h => by cases h; exact .int i
  | .str x, _, _, h => by cases h; exact .str x
  | .lst ds, _, z, h => by
    cases h with
    | lst h1 h2 h3 => exact .lst (SqL.of h1) (dps_of ds _ (by simpa [pd, PyData.canLay0] using z) h3)
  | .frz ds, _, z, h => by
    cases h with
    | frz h1 h2 h3 => exact .lst h1 (dps_of ds _ (by simpa [pd, PyData.canLay0] using z) h3)
  | .tup ds, _, z, h => by
    cases h with
    | tup h1 h2 h3 => exact .tup h1.sq (dps_of ds _ (by simpa [pd, PyData.canLay0] using z) h3)
  | .ins _ _ _, _, z, _ => by simp [pd, PyData.canLay0] at z
  | .dct _ _, _, z, _ => by simp [pd, PyData.canLay0] at z
  | .dcT _ _, _, z, _ => by simp [pd, PyData.canLay0] at z
  | .val _, _, z, _ => by simp [pd, PyData.canLay0] at z
theorem dps_of {K : PySem.W.Frag} {H : Hp} : ∀ (ds : List D) (vs : List V), PyData.canLayAll0 (pds ds) = true → DRs K H vs ds → DpAll K H vs (pds ds)
  | [], _, _, h => by cases h; exact .nil
  | d :: ds, _, z, h => by
    cases h with
    | cons h1 h2 =>
      have z' : (pd d).canLay0 = true ∧ PyData.canLayAll0 (pds ds) = true := by simpa [pds, PyData.canLayAll0] using z
      exact .cons (dp_of d _ z'.1 h1) (dps_of ds _ z'.2 h2)
end
/-- plain data that == compares -/
def okEq (d : D) : Bool := SeqAt.shaped (pd d)
def deqv (x y : D) : Bool := PyData.eqv (pd x) (pd y)
def dEqV : G2 := fun x y Q => okEq x = true ∧ okEq y = true ∧ Q (.bl (deqv x y))
def dNeV : G2 := fun x y Q => okEq x = true ∧ okEq y = true ∧ Q (.bl (!deqv x y))
theorem o_eq {k : Nat} (hr : Room k X.A) {K' : PySem.W.Frag} (hK : X.K = K' := by rfl) : Op2 X (compareOp .Eq) (rEqD K') dEqV := by
  subst hK
  refine ⟨op_eqD hr.units, ?_⟩
  intro Hb H x y dx dy Q Qd e rx ry h q
  exact ⟨_, _, dp_of _ _ (SeqAt.canLay_of_shaped h.1) (DR.up e _ _ rx), dp_of _ _ (SeqAt.canLay_of_shaped h.2.1) (DR.up e _ _ ry), h.1, h.2.1, q.here e h.2.2 (.bl _)⟩
theorem o_ne {k : Nat} (hr : Room k X.A) {K' : PySem.W.Frag} (hK : X.K = K' := by rfl) : Op2 X (compareOp .NotEq) (rNeD K') dNeV := by
  subst hK
  refine ⟨op_neD hr.units, ?_⟩
  intro Hb H x y dx dy Q Qd e rx ry h q
  exact ⟨_, _, dp_of _ _ (SeqAt.canLay_of_shaped h.1) (DR.up e _ _ rx), dp_of _ _ (SeqAt.canLay_of_shaped h.2.1) (DR.up e _ _ ry), h.1, h.2.1, q.here e h.2.2 (.bl _)⟩

/-! ### subscripts, slices -/
def dIxV : G2
  | .lst ds, .int i, Q => ∃ d, atI ds i = some d ∧ Q d
  | .frz ds, .int i, Q => ∃ d, atI ds i = some d ∧ Q d
  | .tup ds, .int i, Q => ∃ d, atI ds i = some d ∧ Q d
  | .str z, .int i, Q => z.length ≤ sizeLine ∧ ∃ c, atI z.cps.toList i = some c ∧ Q (.str ⟨#[c]⟩)
  | _, _, _ => False
theorem atI_of {K : PySem.W.Frag} {H : Hp} {vs : List V} {ds : List D} {i : Int} {d : D} (h : DRs K H vs ds) (e : atI ds i = some d) : ∃ v, atI vs i = some v ∧ DR K H v d := by
  unfold atI at e ⊢
  rw [h.length]
  cases z : ixN ds.length i with
  | none => rw [z] at e; cases e
  | some j =>
    rw [z] at e
    exact h.get' (by simpa using e)
theorem r_ix {K : PySem.W.Frag} : R2D K (rIx K) dIxV := by
  intro Hb H x y dx dy Q Qd e rx ry h q
  unfold dIxV at h
  split at h
  · cases ry
    cases rx with
    | lst h1 h2 h3 =>
      obtain ⟨d, hd, h⟩ := h
      obtain ⟨v, hv, r⟩ := atI_of h3 hd
      exact .inl ⟨_, _, _, _, rfl, rfl, SqL.of (e _ _ h1), hv, q.here e h r⟩
  · cases ry
    cases rx with
    | frz h1 h2 h3 =>
      obtain ⟨d, hd, h⟩ := h
      obtain ⟨v, hv, r⟩ := atI_of h3 hd
      exact .inl ⟨_, _, _, _, rfl, rfl, e.seq h1, hv, q.here e h r⟩
  · cases ry
    cases rx with
    | tup h1 h2 h3 =>
      obtain ⟨d, hd, h⟩ := h
      obtain ⟨v, hv, r⟩ := atI_of h3 hd
      exact .inr (.inl ⟨_, _, _, _, rfl, rfl, (h1.up e).sq, hv, q.here e h r⟩)
  · cases ry; cases rx
    obtain ⟨hl, c, hc, h⟩ := h
    exact .inr (.inr ⟨_, _, _, rfl, rfl, hl, hc, q.here e h (.str _)⟩)
  · exact h.elim
variable {W : WX} {a b : Expr} {ta tb : TE} {fa fb : DE} {pos p2 : Pos}
theorem e_ix (ha : EOk X W a ta fa) (hb : EOk X W b tb fb) (hs : PlainIx b := by exact fun _ _ => rfl) {K' : PySem.W.Frag} (hK : X.K = K' := by rfl) : EOk X W (.Subscript a b pos) (tOp (rIx K') ta tb) (dOp dIxV fa fb) := by
  subst hK
  exact ⟨pe_ix ix_seq ha.pe hb.pe hs, er_op r_ix ha.er hb.er⟩
def cutG {α : Type} (xs : List α) (lo hi : Option Int) : List α := (xs.drop (HT.sIx xs.length 0 lo)).take (HT.sIx xs.length xs.length hi - HT.sIx xs.length 0 lo)
theorem DRs.cut {K : PySem.W.Frag} {H : Hp} {vs : List V} {ds : List D} (h : DRs K H vs ds) (lo hi : Option Int) : DRs K H (cutV vs lo hi) (cutG ds lo hi) := by
  unfold cutV cutG
  rw [h.length]
  exact (h.drop _).take _
abbrev DO := Env → (Option Int → Prop) → XP → Prop
def OR' (K : PySem.W.Frag) (W : WX) (t : TO) (f : DO) : Prop := ∀ (H0 Hb H : Hp) (σ : St) (δ : Env) (Q : Option Int → Hp → Prop) (Qd : Option Int → Prop) (Xd : XP),
  Slots K H0 Hb H σ δ → Same Hb H → f δ Qd Xd → (∀ b Hb' H', Qd b → Grow Hb H Hb' H' → Q b H') → XW K W Hb H σ Xd → t σ H Q
structure OOk (X : Cx) (W : WX) (e : Option Expr) (t : TO) (f : DO) : Prop where
  po : PO X e t
  or : OR' X.K W t f
def dNoPart : DO := fun _ Q _ => Q none
def dPart (fa : DE) : DO := fun δ Q Xd => fa δ (fun d => match d with | .int i => Q (some i) | _ => False) Xd
theorem oo_none : OOk X W none tNoPart dNoPart := ⟨po_none, fun H0 Hb H σ δ Q Qd Xd S e h q x => q none Hb H h (Grow.refl e)⟩
theorem oo_some (ha : EOk X W a ta fa) : OOk X W (some a) (tPart ta) (dPart fa) := by
  refine ⟨po_some ha.pe, ?_⟩
  intro H0 Hb H σ δ Q Qd Xd S e h q x
  refine ha.er H0 Hb H σ δ _ _ Xd S e h (fun d v B1 C1 h1 g1 r1 => ?_) x
  cases d with
  | int i => cases r1; exact ⟨i, rfl, q _ B1 C1 h1 g1⟩
  | _ => exact h1.elim
def dSlV (d : D) (lo hi : Option Int) (Q : DP) : Prop := match d with
  | .lst ds => Q (.lst (cutG ds lo hi))
  | .frz ds => Q (.lst (cutG ds lo hi))
  | .tup ds => Q (.tup (cutG ds lo hi))
  | _ => False
def dSl (fa : DE) (fl fh : DO) : DE := fun δ Q Xd => fa δ (fun d => fl δ (fun l => fh δ (fun u => dSlV d l u Q) Xd) Xd) Xd
theorem cut_all {α : Type} {xs : List α} {lo hi : Option Int} (h : HT.sIx xs.length 0 lo = 0 ∧ HT.sIx xs.length xs.length hi = xs.length) : cutG xs lo hi = xs := by
  unfold cutG
  rw [h.1, h.2, List.drop_zero, Nat.sub_zero, List.take_length]
theorem e_sl {lo hi : Option Expr} {tl th : TO} {fl fh : DO} (ha : EOk X W a ta fa) (hl : OOk X W lo tl fl) (hh : OOk X W hi th fh) {K' : PySem.W.Frag} (hK : X.K = K' := by rfl) : EOk X W (.Subscript a (.Slice lo hi none p2) pos) (tSl (fun x l u H Q => rSlL K' x l u H Q ∨ rSlA K' x l u H Q) ta tl th) (dSl fa fl fh) := by
  subst hK
  refine ⟨pe_slice (SlR.or sl_list sl_tupA) ha.pe hl.po hh.po, ?_⟩
  intro H0 Hb H σ δ Q Qd Xd S e h q x
  refine ha.er H0 Hb H σ δ _ _ Xd S e h (fun d v B1 C1 h1 g1 r1 => ?_) x
  refine hl.or H0 B1 C1 σ δ _ _ Xd (S.grow g1) g1.sub h1 (fun l B2 C2 h2 g2 => ?_) (x.grow g1)
  have g12 := g1.trans g2
  refine hh.or H0 B2 C2 σ δ _ _ Xd (S.grow g12) g2.sub h2 (fun u B3 C3 h3 g3 => ?_) (x.grow g12)
  have r := DR.up (g2.vis.trans g3.vis) _ _ r1
  have q := (q.grow g12).grow g3
  have e3 := g3.sub
  unfold dSlV at h3
  split at h3
  · cases r with
    | lst a1 a2 a3 =>
      exact .inl ⟨_, _, rfl, SqL.of (e3 _ _ a1), fun p hp => q.lay e3 hp h3 (.lst (Nat.le_trans (cutV_length _ _ _) a2) (a3.cut l u))⟩
  · cases r with
    | frz a1 a2 a3 =>
      exact .inl ⟨_, _, rfl, e3.seq a1, fun p hp => q.lay e3 hp h3 (.lst (Nat.le_trans (cutV_length _ _ _) a2) (a3.cut l u))⟩
  · cases r with
    | tup a1 a2 a3 =>
      refine .inr ⟨_, _, rfl, (a1.up e3).sq, fun z => ?_, fun _ p hp => q.layT e3 hp h3 (Nat.le_trans (cutV_length _ _ _) a2) (a3.cut l u)⟩
      rw [a3.length] at z
      rw [cut_all z] at h3
      exact q.here e3 h3 (.tup a1 a2 a3)
  · exact h3.elim
/-- xs[::-1] of a list -/
def dRevV : G1
  | .lst ds, Q => Q (.lst ds.reverse)
  | .frz ds, Q => Q (.lst ds.reverse)
  | _, _ => False
theorem e_rev {k : Nat} {p1 p3 : Pos} (ha : EOk X W a ta fa) {K' : PySem.W.Frag} (hK : X.K = K' := by rfl) : EOk X W (.Subscript a (.Slice none none (some (.UnaryOp .USub (.Constant (.int 1) k p1) p2)) p3) pos) (tRevL K' ta) (dUn dRevV fa) := by
  subst hK
  refine ⟨pe_revL ha.pe, ?_⟩
  intro H0 Hb H σ δ Q Qd Xd S e h q x
  refine ha.er H0 Hb H σ δ _ _ Xd S e h (fun d v B1 C1 h1 g1 r1 => ?_) x
  have q := q.grow g1
  unfold dRevV at h1
  split at h1
  · cases r1 with
    | lst a1 a2 a3 => exact ⟨_, _, rfl, SqL.of (g1.sub _ _ a1), fun p hp => q.lay g1.sub hp h1 (.lst (by rw [List.length_reverse]; exact a2) a3.rev)⟩
  · cases r1 with
    | frz a1 a2 a3 => exact ⟨_, _, rfl, g1.sub.seq a1, fun p hp => q.lay g1.sub hp h1 (.lst (by rw [List.length_reverse]; exact a2) a3.rev)⟩
  · exact h1.elim

/-! ### built-ins -/
def dAbsV : List D → DP → Prop
  | [.int i], Q => Q (.int (i.natAbs : Nat))
  | _, _ => False
theorem b_abs : OpL X (.builtin "abs") (fun xs H Q => ∃ i, xs = [.int i] ∧ Q (.int (if i < 0 then -i else i)) H) dAbsV := by
  refine ⟨call_abs, ?_⟩
  intro Hb H xs ds Q Qd e r h q
  unfold dAbsV at h
  split at h
  · rename_i Q' i
    cases r with
    | cons r1 r2 =>
      cases r1; cases r2
      have z : (if i < 0 then -i else i) = ((i.natAbs : Nat) : Int) := by split <;> omega
      exact ⟨_, rfl, by rw [z]; exact q.here e h (.int _)⟩
  · exact h.elim
def dIntV : List D → DP → Prop
  | [.int i], Q => Q (.int i)
  | [.bl k], Q => Q (.int (if k = true then 1 else 0))
  | _, _ => False
theorem b_int : OpL X (.type "int") (fun xs H Q => (∃ i, xs = [.int i] ∧ Q (.int i) H) ∨ ∃ k, xs = [.bl k] ∧ Q (.int (if k then 1 else 0)) H) dIntV := by
  refine ⟨call_int1, ?_⟩
  intro Hb H xs ds Q Qd e r h q
  unfold dIntV at h
  split at h
  · cases r with
    | cons r1 r2 =>
      cases r1; cases r2
      exact .inl ⟨_, rfl, q.here e h (.int _)⟩
  · cases r with
    | cons r1 r2 =>
      cases r1; cases r2
      exact .inr ⟨_, rfl, q.here e h (.int _)⟩
  · exact h.elim
def dLenV : List D → DP → Prop
  | [.lst ds], Q => Q (.int ds.length)
  | [.frz ds], Q => Q (.int ds.length)
  | [.tup ds], Q => Q (.int ds.length)
  | [.str x], Q => x.length ≤ sizeLine ∧ Q (.int x.length)
  | _, _ => False
theorem b_len {K' : PySem.W.Frag} (hK : X.K = K' := by rfl) : OpL X (.builtin "len") (fun xs H Q => ∃ x n, xs = [x] ∧ LenV K' x H n ∧ Q (.int n) H) dLenV := by
  subst hK
  refine ⟨call_len, ?_⟩
  intro Hb H xs ds Q Qd e r h q
  unfold dLenV at h
  split at h
  · cases r with
    | cons r1 r2 =>
      cases r2
      cases r1 with
      | lst a1 a2 a3 => exact ⟨_, _, rfl, .inl ⟨_, SqL.of (e _ _ a1), rfl⟩, by rw [a3.length]; exact q.here e h (.int _)⟩
  · cases r with
    | cons r1 r2 =>
      cases r2
      cases r1 with
      | frz a1 a2 a3 => exact ⟨_, _, rfl, .inl ⟨_, e.seq a1, rfl⟩, by rw [a3.length]; exact q.here e h (.int _)⟩
  · cases r with
    | cons r1 r2 =>
      cases r2
      cases r1 with
      | tup a1 a2 a3 => exact ⟨_, _, rfl, .inr ⟨_, (a1.up e).sq, rfl⟩, by rw [a3.length]; exact q.here e h (.int _)⟩
  · cases r with
    | cons r1 r2 =>
      cases r1; cases r2
      exact ⟨_, _, rfl, ⟨h.1, rfl⟩, q.here e h.2 (.int _)⟩
  · exact h.elim
def dTupleV : List D → DP → Prop
  | [.lst ds], Q => Q (.tup ds)
  | [.frz ds], Q => Q (.tup ds)
  | [.tup ds], Q => Q (.tup ds)
  | _, _ => False
theorem b_tuple {K' : PySem.W.Frag} (hK : X.K = K' := by rfl) : OpL X (.type "tuple") (fun xs H Q => ∃ p ys, xs = [.ref p] ∧ ((SqL K' H p ys ∧ ∀ l, H l = none → Q (.ref l) (upd H l (.tup ys))) ∨ (SqT K' H p ys ∧ Q (.ref p) H))) dTupleV := by
  subst hK
  refine ⟨call_tuple_of, ?_⟩
  intro Hb H xs ds Q Qd e r h q
  unfold dTupleV at h
  split at h
  · cases r with
    | cons r1 r2 =>
      cases r2
      cases r1 with
      | lst a1 a2 a3 => exact ⟨_, _, rfl, .inl ⟨SqL.of (e _ _ a1), fun p hp => q.layT e hp h a2 a3⟩⟩
  · cases r with
    | cons r1 r2 =>
      cases r2
      cases r1 with
      | frz a1 a2 a3 => exact ⟨_, _, rfl, .inl ⟨e.seq a1, fun p hp => q.layT e hp h a2 a3⟩⟩
  · cases r with
    | cons r1 r2 =>
      cases r2
      cases r1 with
      | tup a1 a2 a3 => exact ⟨_, _, rfl, .inr ⟨(a1.up e).sq, q.here e h (.tup a1 a2 a3)⟩⟩
  · exact h.elim
def dListV : List D → DP → Prop
  | [.lst ds], Q => Q (.lst ds)
  | [.frz ds], Q => Q (.lst ds)
  | [.tup ds], Q => Q (.lst ds)
  | _, _ => False
theorem b_list {K' : PySem.W.Frag} (hK : X.K = K' := by rfl) : OpL X (.type "list") (fun xs H Q => ∃ p ys, xs = [.ref p] ∧ (SqL K' H p ys ∨ SqT K' H p ys) ∧ ∀ l, H l = none → Q (.ref l) (upd H l (.lst ys))) dListV := by
  subst hK
  refine ⟨call_list_of, ?_⟩
  intro Hb H xs ds Q Qd e r h q
  unfold dListV at h
  split at h
  · cases r with
    | cons r1 r2 =>
      cases r2
      cases r1 with
      | lst a1 a2 a3 => exact ⟨_, _, rfl, .inl (SqL.of (e _ _ a1)), fun p hp => q.lay e hp h (.lst a2 a3)⟩
  · cases r with
    | cons r1 r2 =>
      cases r2
      cases r1 with
      | frz a1 a2 a3 => exact ⟨_, _, rfl, .inl (e.seq a1), fun p hp => q.lay e hp h (.lst a2 a3)⟩
  · cases r with
    | cons r1 r2 =>
      cases r2
      cases r1 with
      | tup a1 a2 a3 => exact ⟨_, _, rfl, .inr (a1.up e).sq, fun p hp => q.lay e hp h (.lst a2 a3)⟩
  · exact h.elim
def dAllV : List D → DP → Prop
  | [.lst ds], Q => ∃ bs : List Bool, ds = bs.map D.bl ∧ Q (.bl (bs.all id))
  | _, _ => False
theorem b_all (hc : X.calm = true) {K' : PySem.W.Frag} (hK : X.K = K' := by rfl) : OpL X (.builtin "all") (rAll K') dAllV := by
  subst hK
  refine ⟨cr_all hc, ?_⟩
  intro Hb H xs ds Q Qd e r h q
  unfold dAllV at h
  split at h
  · obtain ⟨bs, rfl, h⟩ := h
    cases r with
    | cons r1 r2 =>
      cases r2
      cases r1 with
      | lst a1 a2 a3 =>
        have z := a3.bls
        subst z
        exact ⟨_, _, rfl, SqL.of (e _ _ a1), q.here e h (.bl _)⟩
  · exact h.elim
def dAnyV : List D → DP → Prop
  | [.lst ds], Q => ∃ bs : List Bool, ds = bs.map D.bl ∧ Q (.bl (bs.any id))
  | _, _ => False
theorem b_any (hc : X.calm = true) {K' : PySem.W.Frag} (hK : X.K = K' := by rfl) : OpL X (.builtin "any") (rAny K') dAnyV := by
  subst hK
  refine ⟨cr_any hc, ?_⟩
  intro Hb H xs ds Q Qd e r h q
  unfold dAnyV at h
  split at h
  · obtain ⟨bs, rfl, h⟩ := h
    cases r with
    | cons r1 r2 =>
      cases r2
      cases r1 with
      | lst a1 a2 a3 =>
        have z := a3.bls
        subst z
        exact ⟨_, _, rfl, SqL.of (e _ _ a1), q.here e h (.bl _)⟩
  · exact h.elim
def dSumV : List D → DP → Prop
  | [.lst ds], Q => ∃ ns : List Int, ds = ns.map D.int ∧ Q (.int ns.sum)
  | [.frz ds], Q => ∃ ns : List Int, ds = ns.map D.int ∧ Q (.int ns.sum)
  | _, _ => False
theorem b_sum (hc : X.calm = true) {K' : PySem.W.Frag} (hK : X.K = K' := by rfl) : OpL X (.builtin "sum") (rSum K') dSumV := by
  subst hK
  refine ⟨cr_sum hc, ?_⟩
  intro Hb H xs ds Q Qd e r h q
  unfold dSumV at h
  split at h
  · obtain ⟨bs, rfl, h⟩ := h
    cases r with
    | cons r1 r2 =>
      cases r2
      cases r1 with
      | lst a1 a2 a3 =>
        have z := a3.ints
        subst z
        exact ⟨_, _, rfl, SqL.of (e _ _ a1), q.here e h (.int _)⟩
  · obtain ⟨bs, rfl, h⟩ := h
    cases r with
    | cons r1 r2 =>
      cases r2
      cases r1 with
      | frz a1 a2 a3 =>
        have z := a3.ints
        subst z
        exact ⟨_, _, rfl, e.seq a1, q.here e h (.int _)⟩
  · exact h.elim
def dMaxV : List D → DP → Prop
  | [.lst ds], Q => ∃ ns : List Int, ds = ns.map D.int ∧ 0 < ns.length ∧ ∀ m, m ∈ ns → (∀ y, y ∈ ns → y ≤ m) → Q (.int m)
  | [.int i, .int j], Q => Q (.int (max i j))
  | _, _ => False
theorem b_max (hc : X.calm = true) {K' : PySem.W.Frag} (hK : X.K = K' := by rfl) : OpL X (.builtin "max") (fun xs H Q => rMax K' xs H Q ∨ ∃ i j, xs = [.int i, .int j] ∧ Q (.int (if j > i then j else i)) H) dMaxV := by
  subst hK
  refine ⟨CallR.or2 (cr_max hc) (call_max2 hc), ?_⟩
  intro Hb H xs ds Q Qd e r h q
  unfold dMaxV at h
  split at h
  · obtain ⟨bs, rfl, hl, h⟩ := h
    cases r with
    | cons r1 r2 =>
      cases r2
      cases r1 with
      | lst a1 a2 a3 =>
        have z := a3.ints
        subst z
        exact .inl ⟨_, _, rfl, SqL.of (e _ _ a1), hl, fun m h1 h2 => q.here e (h m h1 h2) (.int _)⟩
  · rename_i Q' i j
    cases r with
    | cons r1 r2 =>
      cases r2 with
      | cons r2 r3 =>
        cases r1; cases r2; cases r3
        have z : (if j > i then j else i) = max i j := by rw [Int.max_def]; split <;> split <;> omega
        exact .inr ⟨_, _, rfl, by rw [z]; exact q.here e h (.int _)⟩
  · exact h.elim
def dMinV : List D → DP → Prop
  | [.lst ds], Q => ∃ ns : List Int, ds = ns.map D.int ∧ 0 < ns.length ∧ ∀ m, m ∈ ns → (∀ y, y ∈ ns → m ≤ y) → Q (.int m)
  | [.int i, .int j], Q => Q (.int (min i j))
  | _, _ => False
theorem b_min (hc : X.calm = true) {K' : PySem.W.Frag} (hK : X.K = K' := by rfl) : OpL X (.builtin "min") (fun xs H Q => rMin K' xs H Q ∨ ∃ i j, xs = [.int i, .int j] ∧ Q (.int (if j < i then j else i)) H) dMinV := by
  subst hK
  refine ⟨CallR.or2 (cr_min hc) (call_min2 hc), ?_⟩
  intro Hb H xs ds Q Qd e r h q
  unfold dMinV at h
  split at h
  · obtain ⟨bs, rfl, hl, h⟩ := h
    cases r with
    | cons r1 r2 =>
      cases r2
      cases r1 with
      | lst a1 a2 a3 =>
        have z := a3.ints
        subst z
        exact .inl ⟨_, _, rfl, SqL.of (e _ _ a1), hl, fun m h1 h2 => q.here e (h m h1 h2) (.int _)⟩
  · rename_i Q' i j
    cases r with
    | cons r1 r2 =>
      cases r2 with
      | cons r2 r3 =>
        cases r1; cases r2; cases r3
        have z : (if j < i then j else i) = min i j := by rw [Int.min_def]; split <;> split <;> omega
        exact .inr ⟨_, _, rfl, by rw [z]; exact q.here e h (.int _)⟩
  · exact h.elim
/-! isinstance with built-in types -/
def dTy : D → Option String
  | .non => some "NoneType"
  | .bl _ => some "bool"
  | .int _ => some "int"
  | .str _ => some "str"
  | .lst _ => some "list"
  | .tup _ => some "tuple"
  | .dct _ _ => some "dict"
  | .dcT _ _ => some "dict"
  | _ => none
theorem dTy_x {K : PySem.W.Frag} {H : Hp} {v : V} {d : D} {t : String} (r : DR K H v d) (h : dTy d = some t) : TyX K H v (.type t) := by
  unfold dTy at h
  split at h <;> first | (injection h with h; subst h) | cases h
  · cases r; exact .base .non
  · cases r; exact .base (.bl _)
  · cases r; exact .base (.int _)
  · cases r; exact .base (.str _)
  · cases r with
    | lst a1 a2 a3 => exact .base (.lst a1)
  · cases r with
    | tup a1 a2 a3 =>
      rcases a1 with a1 | ⟨o, its, n, a1, a4, _⟩
      · exact .base (.tup a1)
      · exact .kTuple a1 a4
  · cases r with
    | dct a1 a2 a3 => exact .base (.dK a1)
  · cases r with
    | dcT a1 a2 a3 => exact .base (.dT a1)
def kitBs (t : String) : List D → Option Bool
  | [] => some false
  | .val (.ty n) :: r => match kitB t n, kitBs t r with
    | some a, some b => some (a || b)
    | _, _ => none
  | _ => none
def dIsiV : List D → DP → Prop
  | [x, .val (.ty n)], Q => ∃ t b, dTy x = some t ∧ kitB t n = some b ∧ Q (.bl b)
  | [x, .tup cs], Q => ∃ t b, dTy x = some t ∧ kitBs t cs = some b ∧ Q (.bl b)
  | _, _ => False
theorem kits_of {K : PySem.W.Frag} {H : Hp} {t : String} : ∀ {cs : List D} {vs : List V} {b : Bool}, DRs K H vs cs → kitBs t cs = some b → ∃ us, Paired ClsV vs us ∧ PySem.W.kitAny K (.type t) us = some b
  | [], _, b, r, h => by
    cases r
    injection h with h
    subst h
    exact ⟨[], .nil, kitAny_nil⟩
  | c :: cs, _, b, r, h => by
    cases r with
    | cons r1 r2 =>
      unfold kitBs at h
      split at h
      · rename_i e
        cases e
      · rename_i n r' e
        injection e with e1 e2
        subst e1 e2
        cases r1
        split at h
        · rename_i a b' z z'
          injection h with h
          subst h
          obtain ⟨us, h1, h2⟩ := kits_of r2 z'
          refine ⟨Value.type n :: us, .cons (.ty n) h1, kitAny_cons (kit_ty z) (fun q => ?_) fun q => ?_⟩
          · rw [q, Bool.false_or]; exact h2
          · rw [q, Bool.true_or]
        · cases h
      · cases h
theorem b_isi {K' : PySem.W.Frag} (hK : X.K = K' := by rfl) : OpL X (.builtin "isinstance") (fun xs H Q => rIsi K' xs H Q ∨ rIsiT K' xs H Q ∨ rIsiK K' xs H Q) dIsiV := by
  subst hK
  refine ⟨CallR.or2 call_isi (CallR.or2 call_isiT call_isiK), ?_⟩
  intro Hb H xs ds Q Qd e r h q
  unfold dIsiV at h
  split at h
  · obtain ⟨t, b, h1, h2, h3⟩ := h
    cases r with
    | cons r1 r2 =>
      cases r2 with
      | cons r2 r3 =>
        cases r2; cases r3
        exact .inl ⟨_, _, _, _, _, rfl, .ty _, dTy_x (DR.up e _ _ r1) h1, kit_ty h2, q.here e h3 (.bl _)⟩
  · obtain ⟨t, b, h1, h2, h3⟩ := h
    cases r with
    | cons r1 r2 =>
      cases r2 with
      | cons r2 r3 =>
        cases r3
        cases r2 with
        | tup a1 a2 a3 =>
          obtain ⟨us, p1, p2⟩ := kits_of a3 h2
          have ty := dTy_x (DR.up e _ _ r1) h1
          rcases a1 with a1 | ⟨⟨oc, od, dt, sl⟩, its, n, k1, k2, k3, k4, k5⟩
          · exact .inr (.inl ⟨_, _, _, _, _, _, rfl, e _ _ a1, p1, ty, p2, q.here e h3 (.bl _)⟩)
          · have z := ClsV.all p1 k5
            subst z
            simp only at k2 k3
            subst k2 k3
            exact .inr (.inr ⟨_, _, _, its.toList, _, _, _, _, rfl, k1, ty, p2, q.here e h3 (.bl _)⟩)
  · exact h.elim
end
end L2.DL

-- DLD
set_option Elab.async false
set_option linter.all false
set_option maxRecDepth 100000
set_option maxHeartbeats 1000000
/-! # DL, walks, comprehensions, fresh objects -/
namespace L2.DL
open PySem PySem.Spec PyProof.Rows

abbrev W0 : WX := fun _ _ _ _ => False
abbrev DI := Env → (List D → Prop) → XP → Prop
/-- the walk J gives the items ds, whatever is made meanwhile -/
def Wk (K : PySem.W.Frag) (J : It) (Hb : Hp) (ds : List D) : Prop := ∀ (B H : Hp), Same Hb B → Same B H →
  (∀ (i : Nat) (d : D), ds[i]? = some d → J.go i H ∧ ∀ x H2, J.yld i H x H2 → ∃ B2, Grow B H B2 H2 ∧ DR K B2 x d) ∧ (∀ i : Nat, ds.length ≤ i → J.stop i H)
/-- bd: no more items than a list may have -/
def IR (K : PySem.W.Frag) (W : WX) (wi : TI) (f : DI) (bd : Bool) : Prop := ∀ (H0 Hb H : Hp) (σ : St) (δ : Env) (R : It → Hp → Prop) (Qd : List D → Prop) (Xd : XP),
  Slots K H0 Hb H σ δ → Same Hb H → f δ Qd Xd → (∀ ds J Hb' H', Qd ds → (bd = true → ds.length ≤ sizeLine) → Grow Hb H Hb' H' → Wk K J Hb' ds → R J H') → XW K W Hb H σ Xd → wi σ H R
structure IOk (X : Cx) (W : WX) (tg iter : Expr) (wi : TI) (f : DI) (bd : Bool) : Prop where
  pi : PI X tg iter wi
  ir : IR X.K W wi f bd

/-! ### lists and tuples -/
def iSeq (K : PySem.W.Frag) (tl : TE) : TI := fun σ H R => tl σ H fun x H1 => ∃ a, x = .ref a ∧ (((∃ xs, SqL K H1 a xs) ∧ R (Itl K a) H1) ∨ ((∃ xs, SqT K H1 a xs) ∧ R (Itt K a) H1))
section
variable {X : Cx} {W : WX} {tg : Expr} {a b : Expr} {ta tb : TE} {fa fb : DE} {pos : Pos}
theorem pi_seq (ha : PE X a ta) : PI X tg a (iSeq X.K ta) := by
  refine ⟨fun pins s σ H R I h => ?_⟩
  refine thn (ha.run pins s σ H _ I h) fun v s1 hh => ?_
  obtain ⟨x, H1, I1, r1, l, e, q1⟩ := hh
  subst e
  cases r1
  rcases q1 with ⟨⟨xs, hq⟩, q⟩ | ⟨⟨xs, hq⟩, q⟩
  · obtain ⟨its, rv, p, hz⟩ := I1.list hq
    refine wpAny_pyIter_list p.isList ?_
    have J1 := I1.kept (h' := s1.heap.push { cls := .type "list_iterator", data := .fields #[.ref l, rawInt 0] }) (t' := s1.toks) fun b o e => Heap.get?_push_of_some _ e
    refine ⟨s1.heap.objs.size, [s1.heap.objs.size], _, _, H1, rfl, J1, turn_list l _,
      ⟨_, Heap.get?_push_size _ rfl, rfl, rfl⟩, fun b hb => ?_, q⟩
    obtain rfl : b = s1.heap.objs.size := by simpa using hb
    exact I1.fpOk (Nat.le_refl _) (I1.hok.fresh (Nat.le_refl _))
  · obtain ⟨its, rv, p, hz⟩ := I1.tuple hq
    refine wpAny_pyIter_tuple (show s1.heap.IsTuple l its.toArray from p) ?_
    have J1 := I1.kept (h' := s1.heap.push { cls := .type "tuple_iterator", data := .fields #[.ref l, rawInt 0] }) (t' := s1.toks) fun b o e => Heap.get?_push_of_some _ e
    refine ⟨s1.heap.objs.size, [s1.heap.objs.size], _, _, H1, rfl, J1, turn_tuple l _,
      ⟨_, Heap.get?_push_size _ rfl, rfl, rfl⟩, fun b hb => ?_, q⟩
    obtain rfl : b = s1.heap.objs.size := by simpa using hb
    exact I1.fpOk (Nat.le_refl _) (I1.hok.fresh (Nat.le_refl _))
theorem wk_list {K : PySem.W.Frag} {l : Addr} {Hb : Hp} {xs : List V} {ds : List D} (h : SqL K Hb l xs) (r : DRs K Hb xs ds) : Wk K (Itl K l) Hb ds := by
  intro B H e1 e2
  have hs := (e1.trans e2).seq h
  refine ⟨fun i d hd => ?_, fun i hi => ⟨xs, hs, by rw [r.length]; exact hi⟩⟩
  obtain ⟨v, hv, rv⟩ := r.get' hd
  refine ⟨⟨xs, v, hs, hv⟩, fun x H2 y => ?_⟩
  obtain ⟨z, y⟩ := y
  subst z
  have := y xs hs
  rw [hv] at this
  injection this with this
  subst this
  exact ⟨B, Grow.refl e2, DR.up e1 _ _ rv⟩
theorem wk_tup {K : PySem.W.Frag} {l : Addr} {Hb : Hp} {xs : List V} {ds : List D} (h : TupAt K Hb l xs) (r : DRs K Hb xs ds) : Wk K (Itt K l) Hb ds := by
  intro B H e1 e2
  have hs := (h.up (e1.trans e2)).sq
  refine ⟨fun i d hd => ?_, fun i hi => ⟨xs, hs, by rw [r.length]; exact hi⟩⟩
  obtain ⟨v, hv, rv⟩ := r.get' hd
  refine ⟨⟨xs, v, hs, hv⟩, fun x H2 y => ?_⟩
  obtain ⟨z, y⟩ := y
  subst z
  have := y xs hs
  rw [hv] at this
  injection this with this
  subst this
  exact ⟨B, Grow.refl e2, DR.up e1 _ _ rv⟩
def dItems (d : D) (Q : List D → Prop) : Prop := match d with
  | .lst ds => Q ds
  | .frz ds => Q ds
  | .tup ds => Q ds
  | _ => False
def dSeq (fa : DE) : DI := fun δ Q Xd => fa δ (fun d => dItems d Q) Xd
theorem i_seq (ha : EOk X W a ta fa) {K' : PySem.W.Frag} (hK : X.K = K' := by rfl) : IOk X W tg a (iSeq K' ta) (dSeq fa) true := by
  subst hK
  refine ⟨pi_seq ha.pe, ?_⟩
  intro H0 Hb H σ δ R Qd Xd S e h q x
  refine ha.er H0 Hb H σ δ _ _ Xd S e h (fun d v B1 C1 h1 g1 r1 => ?_) x
  unfold dItems at h1
  split at h1
  · cases r1 with
    | lst a1 a2 a3 => exact ⟨_, rfl, .inl ⟨⟨_, SqL.of (g1.sub _ _ a1)⟩, q _ _ B1 C1 h1 (fun _ => by rw [← a3.length]; exact a2) g1 (wk_list (SqL.of a1) a3)⟩⟩
  · cases r1 with
    | frz a1 a2 a3 => exact ⟨_, rfl, .inl ⟨⟨_, g1.sub.seq a1⟩, q _ _ B1 C1 h1 (fun _ => by rw [← a3.length]; exact a2) g1 (wk_list a1 a3)⟩⟩
  · cases r1 with
    | tup a1 a2 a3 => exact ⟨_, rfl, .inr ⟨⟨_, (a1.up g1.sub).sq⟩, q _ _ B1 C1 h1 (fun _ => by rw [← a3.length]; exact a2) g1 (wk_tup a1 a3)⟩⟩
  · exact h1.elim

/-! ### ranges -/
/-- lo, lo + 1, .. (n of them) -/
def rngD (lo : Int) (n : Nat) : List D := (List.range n).map fun i => D.int (lo + (i : Nat))
theorem rngD_len (lo : Int) (n : Nat) : (rngD lo n).length = n := by simp [rngD]
theorem wk_rng {K : PySem.W.Frag} {Hb : Hp} {lo : Int} {n : Nat} : Wk K (Itr lo n) Hb (rngD lo n) := by
  intro B H e1 e2
  refine ⟨fun i d hd => ?_, fun i hi => by rw [rngD_len] at hi; exact hi⟩
  have hi : i < n := by
    have := (List.getElem?_eq_some_iff.mp hd).1
    rwa [rngD_len] at this
  have hd' : d = .int (lo + (i : Nat)) := by
    unfold rngD at hd
    rw [List.getElem?_map, List.getElem?_range hi] at hd
    injection hd with hd
    exact hd.symm
  subst hd'
  refine ⟨hi, fun x H2 y => ?_⟩
  obtain ⟨z, y⟩ := y
  subst z y
  exact ⟨B, Grow.refl e2, .int _⟩
def dRng1 (fr : DA) : DI := fun δ Q Xd => fr δ (fun ds => match ds with | [.int j] => -(2 ^ 62) ≤ j ∧ j < 2 ^ 62 ∧ Q (rngD 0 j.toNat) | _ => False) Xd
def dRng2 (fr : DA) : DI := fun δ Q Xd => fr δ (fun ds => match ds with | [.int i, .int j] => (-(2 ^ 62) ≤ i ∧ i < 2 ^ 62 ∧ -(2 ^ 62) ≤ j ∧ j < 2 ^ 62) ∧ Q (rngD i (j - i).toNat) | _ => False) Xd
theorem i_rng1 {tr : TA} {fr : DA} {p : Pos} (hm : X.mg "range" = none) (h : AOk X W [a] tr fr) (hg : Gl X "range" := by rfl) (hs : starEach [a] X.env = [(false, eval a X.env)] := by rfl) : IOk X W tg (.Call (.Name "range" p) [a] [] pos) (iRng1 tr) (dRng1 fr) false := by
  refine ⟨pi_range1 hg hm h.pa hs, ?_⟩
  intro H0 Hb H σ δ R Qd Xd S e h1 q x
  refine h.ar H0 Hb H σ δ _ _ Xd S e h1 (fun ds vs B1 C1 h2 g1 r1 => ?_) x
  split at h2
  · cases r1 with
    | cons r1 r2 =>
      cases r1; cases r2
      exact ⟨_, rfl, h2.1, h2.2.1, q _ _ B1 C1 h2.2.2 (fun z => nomatch z) g1 wk_rng⟩
  · exact h2.elim
theorem i_rng2 {tr : TA} {fr : DA} {p : Pos} (hm : X.mg "range" = none) (h : AOk X W [a, b] tr fr) (hg : Gl X "range" := by rfl) (hs : starEach [a, b] X.env = [(false, eval a X.env), (false, eval b X.env)] := by rfl) (hs2 : starEach [b] X.env = [(false, eval b X.env)] := by rfl) :
    IOk X W tg (.Call (.Name "range" p) [a, b] [] pos) (iRng2 tr) (dRng2 fr) false := by
  refine ⟨pi_range2 hg hm h.pa hs hs2, ?_⟩
  intro H0 Hb H σ δ R Qd Xd S e h1 q x
  refine h.ar H0 Hb H σ δ _ _ Xd S e h1 (fun ds vs B1 C1 h2 g1 r1 => ?_) x
  split at h2
  · cases r1 with
    | cons r1 r2 =>
      cases r2 with
      | cons r2 r3 =>
        cases r1; cases r2; cases r3
        exact ⟨_, _, rfl, h2.1, q _ _ B1 C1 h2.2 (fun z => nomatch z) g1 wk_rng⟩
  · exact h2.elim

/-! ### targets -/
abbrev DG := D → Env → (Env → Prop) → Prop
abbrev DGs := List D → Env → (Env → Prop) → Prop
def GR (K : PySem.W.Frag) (ws : List Nat) (g : TG) (f : DG) : Prop := ∀ (H0 Hb H : Hp) (σ : St) (δ : Env) (v : V) (d : D) (Q : St → Hp → Prop) (Qd : Env → Prop), Slots K H0 Hb H σ δ → Same Hb H → DR K Hb v d → f d δ Qd →
  (∀ σ' δ', Qd δ' → Slots K H0 Hb H σ' δ' → wipe σ' ws = wipe σ ws → Q σ' H) → g v σ H Q
def GsR (K : PySem.W.Frag) (ws : List Nat) (g : TGs) (f : DGs) : Prop := ∀ (H0 Hb H : Hp) (σ : St) (δ : Env) (vs : List V) (ds : List D) (Q : St → Hp → Prop) (Qd : Env → Prop), Slots K H0 Hb H σ δ → Same Hb H → DRs K Hb vs ds → f ds δ Qd →
  (∀ σ' δ', Qd δ' → Slots K H0 Hb H σ' δ' → wipe σ' ws = wipe σ ws → Q σ' H) → g vs σ H Q
structure GOk (X : Cx) (ws : List Nat) (e : Expr) (g : TG) (f : DG) : Prop where
  pg : PG X e g
  gr : GR X.K ws g f
structure GsOk (X : Cx) (ws : List Nat) (e : List Expr) (g : TGs) (f : DGs) : Prop where
  pgs : PGs X e g
  gr : GsR X.K ws g f
theorem wipe_get {σ : St} : ∀ {ws : List Nat} {j : Nat}, j ∉ ws → (wipe σ ws)[j]? = σ[j]?
  | [], _, _ => rfl
  | w :: ws, j, h => by
    unfold wipe
    rw [List.getElem?_set_ne (fun z => h (by rw [z]; exact List.mem_cons_self))]
    exact wipe_get fun z => h (List.mem_cons_of_mem _ z)
theorem wipe_at {σ : St} : ∀ {ws : List Nat} {j : Nat}, j ∈ ws → j < σ.length → (wipe σ ws)[j]? = some none
  | w :: ws, j, h, hl => by
    unfold wipe
    by_cases z : w = j
    · subst z
      rw [List.getElem?_set_self (by rw [wipe_length]; exact hl)]
    · rw [List.getElem?_set_ne z]
      rcases List.mem_cons.mp h with z' | z'
      · exact absurd z'.symm z
      · exact wipe_at z' hl
theorem wipe_ext {σ τ : St} {ws : List Nat} (hl : σ.length = τ.length) (h : ∀ j, j ∉ ws → σ[j]? = τ[j]?) : wipe σ ws = wipe τ ws := by
  refine List.ext_getElem? fun j => ?_
  by_cases hj : j ∈ ws
  · by_cases hlt : j < σ.length
    · rw [wipe_at hj hlt, wipe_at hj (by omega)]
    · rw [List.getElem?_eq_none (by rw [wipe_length]; omega), List.getElem?_eq_none (by rw [wipe_length]; omega)]
  · rw [wipe_get hj, wipe_get hj]
    exact h j hj
theorem wipe_set {σ : St} {ws : List Nat} {i : Nat} {x : Option V} (h : i ∈ ws) : wipe (σ.set i x) ws = wipe σ ws :=
  by
  refine wipe_ext (List.length_set ..) fun j hj => List.getElem?_set_ne ?_
  intro z
  rw [z] at h
  exact hj h
theorem wipe_wipe {σ : St} {ws : List Nat} : wipe (wipe σ ws) ws = wipe σ ws := wipe_ext (wipe_length σ ws) fun j hj => wipe_get hj
def dgName (i : Nat) : DG := fun d δ Q => Q (δ.set i (.val d))
def dgNil : DGs := fun ds δ Q => ds = [] ∧ Q δ
def dgCons (f : DG) (fs : DGs) : DGs := fun ds δ Q => match ds with
  | d :: r => f d δ fun δ' => fs r δ' Q
  | [] => False
def dgTup (n : Nat) (fs : DGs) : DG := fun d δ Q => match d with
  | .tup ds => ds.length = n ∧ fs ds δ Q
  | _ => False
theorem gr_name {K : PySem.W.Frag} {ws : List Nat} {i : Nat} (h : i ∈ ws) : GR K ws (gName i) (dgName i) := fun H0 Hb H σ δ v d Q Qd S e r h1 q => q _ _ h1 (S.put r i) (wipe_set h)
theorem g_name {ws : List Nat} {x : Str} (i : Nat) (hN : X.N.Nodup) (hi : X.N[i]? = some x := by rfl) (hx : Loc X.env.scope x := by first | exact Or.inl rfl | exact Or.inr rfl) (hf : X.fn x = true ∨ X.env.scope.names.lookup x = some .local := by first | exact .inl rfl | exact .inr rfl | assumption)
    (hw : i ∈ ws := by decide) : GOk X ws (.Name x pos) (gName i) (dgName i) := ⟨pg_name hN hi hx hf, gr_name hw⟩
theorem gs_nil {ws : List Nat} : GsOk X ws [] gNil dgNil := ⟨pgs_nil, fun H0 Hb H σ δ vs ds Q Qd S e r h q => by
  obtain ⟨rfl, h⟩ := h
  cases r
  exact ⟨rfl, q σ δ h S rfl⟩⟩
theorem gs_cons {ws : List Nat} {e : Expr} {es : List Expr} {t : TG} {u : TGs} {f : DG} {fs : DGs} (h1 : GOk X ws e t f) (h2 : GsOk X ws es u fs) (hs : (assignEach (e :: es) X.env).map (·.2) = assign e X.env :: (assignEach es X.env).map (·.2) := by rfl) : GsOk X ws (e :: es) (gCons t u) (dgCons f fs) := by
  refine ⟨pgs_cons h1.pg h2.pgs hs, ?_⟩
  intro H0 Hb H σ δ vs ds Q Qd S e r h q
  unfold dgCons at h
  split at h
  · rename_i d r'
    cases r with
    | cons r1 r2 =>
      refine ⟨_, _, rfl, h1.gr H0 Hb H σ δ _ _ _ _ S e r1 h fun σ' δ' h' S' w' => ?_⟩
      exact h2.gr H0 Hb H σ' δ' _ _ _ _ S' e r2 h' fun σ'' δ'' h'' S'' w'' => q σ'' δ'' h'' S'' (w''.trans w')
  · exact h.elim
theorem g_tup {ws : List Nat} {es : List Expr} {k : Nat} {u : TGs} {fs : DGs} {n : Nat} (h : GsOk X ws es u fs) (hc : X.calm = true := by rfl) (hn : (assignEach es X.env).length = n := by rfl) (hst : (assignEach es X.env).findIdx? (·.1) = none := by rfl) {K' : PySem.W.Frag} (hK : X.K = K' := by rfl) :
    GOk X ws (.Tuple es k pos) (gTup K' n u) (dgTup n fs) := by
  subst hK
  refine ⟨pg_tup hc h.pgs hn hst, ?_⟩
  intro H0 Hb H σ δ v d Q Qd S e r h1 q
  unfold dgTup at h1
  split at h1
  · cases r with
    | tup a1 a2 a3 => exact ⟨_, _, rfl, (a1.up e).sq, by rw [a3.length]; exact h1.1, h.gr H0 Hb H σ δ _ _ _ _ S e a3 h1.2 q⟩
  · exact h1.elim

/-! ### what is fresh -/
def FR (K : PySem.W.Frag) (W : WX) (t : TE) (f : DE) : Prop := ∀ (H0 Hb H : Hp) (σ : St) (δ : Env) (Q : VK) (Qd : DP) (Xd : XP),
  Slots K H0 Hb H σ δ → Same Hb H → f δ Qd Xd → (∀ d l o Hb' H', Qd d → Grow Hb H Hb' H' → H l = none → Hb' l = none → H' l = some o → OR K Hb' o d → Q (.ref l) H') → XW K W Hb H σ Xd → t σ H Q
structure FOk (X : Cx) (W : WX) (e : Expr) (t : TE) (f : DE) : Prop where
  pe : PE X e t
  fr : FR X.K W t f
/-- it is seen from now on -/
theorem Grow.show {Hb H Hb' H' : Hp} (g : Grow Hb H Hb' H') {l : Addr} {o : HO} (h1 : H l = none) (h2 : Hb' l = none) (h3 : H' l = some o) : Grow Hb H (upd Hb' l o) H' := by
  refine ⟨g.all, fun b u z => ?_, fun b u z => ?_, fun b h n => ?_⟩
  · rw [upd_ne (ne_of_none (g.vis b u z) h2)]; exact g.vis b u z
  · by_cases hb : b = l
    · subst hb; rw [upd_same] at z; rw [← z]; exact h3
    · rw [upd_ne hb] at z; exact g.sub b u z
  · rw [upd_ne (fun z => h (by rw [z]; exact h1))]; exact g.hid b h n
theorem FR.er {K : PySem.W.Frag} {W : WX} {t : TE} {f : DE} (h : FR K W t f) : ER K W t f := by
  intro H0 Hb H σ δ Q Qd Xd S e h1 q x
  refine h H0 Hb H σ δ Q Qd Xd S e h1 (fun d l o B C h2 g h3 h4 h5 h6 => ?_) x
  refine q d _ _ _ h2 (g.show h3 h4 h5) ((h6.up fun b u z => ?_).dr upd_same)
  rw [upd_ne (ne_of_none z h4)]; exact z
theorem FOk.e {e : Expr} {t : TE} {f : DE} (h : FOk X W e t f) : EOk X W e t f := ⟨h.pe, h.fr.er⟩
theorem f_lst {es : List Expr} {tr : TA} {fr : DA} (h : AOk X W es tr fr) : FOk X W (.List es pos) (tLst tr) (dLst fr) := by
  refine ⟨pe_lst h.pa, ?_⟩
  intro H0 Hb H σ δ Q Qd Xd S e h1 q x
  refine h.ar H0 Hb H σ δ _ _ Xd S e h1 (fun ds vs B1 C1 h2 g1 r1 => ?_) x
  have hl : vs.length ≤ sizeLine := line1000 (by rw [r1.length]; exact h2.1)
  refine ⟨hl, fun p hp => q _ p _ B1 (upd C1 p (.lst vs)) h2.2 (g1.trans (Grow.hide g1.sub hp)) (g1.all.free hp) (g1.sub.free hp) upd_same (.lst hl r1)⟩
theorem f_list {x : Str} {p : Pos} {es : List Expr} {tr : TA} {fr : DA} (hx : x = "list") (hm : X.mg x = none) (hv : bootBuiltins x = some (.type "list")) (h : AOk X W (a :: es) tr fr) (hg : Gl X x := by rfl) (hn : x ≠ "__name__" := by decide) (hdb : (x == ("__debug__" : Str)) = false := by decide)
    (he : starEach (a :: es) X.env = (false, eval a X.env) :: starEach es X.env := by rfl) (hpl : (backTo pos (starEach es X.env)).any (·.1) = false := by rfl) {K' : PySem.W.Frag} (hK : X.K = K' := by rfl) : FOk X W (.Call (.Name x p) (a :: es) [] pos) (tCB (fun xs H Q => ∃ p ys, xs = [.ref p] ∧ (SqL K' H p ys ∨ SqT K' H p ys) ∧ ∀ l, H l = none → Q (.ref l) (upd H l (.lst ys))) tr) (dCB dListV fr) := by
  subst hK
  refine ⟨pe_callTy call_list_of hg hm hv h.pa hn hdb he hpl, ?_⟩
  intro H0 Hb H σ δ Q Qd Xd S e h1 q x
  refine h.ar H0 Hb H σ δ _ _ Xd S e h1 (fun ds vs B1 C1 h2 g1 r1 => ?_) x
  have fin : ∀ {xs : List V} {ds : List D}, xs.length ≤ sizeLine → DRs X.K B1 xs ds → Qd (.lst ds) → ∀ p, C1 p = none → Q (.ref p) (upd C1 p (.lst xs)) := fun {xs ds} hl r h p hp =>
    q _ p _ B1 (upd C1 p (.lst xs)) h (g1.trans (Grow.hide g1.sub hp)) (g1.all.free hp) (g1.sub.free hp) upd_same (.lst hl r)
  unfold dListV at h2
  split at h2
  · cases r1 with
    | cons r1 r2 =>
      cases r2
      cases r1 with
      | lst a1 a2 a3 => exact ⟨_, _, rfl, .inl (SqL.of (g1.sub _ _ a1)), fin a2 a3 h2⟩
  · cases r1 with
    | cons r1 r2 =>
      cases r2
      cases r1 with
      | frz a1 a2 a3 => exact ⟨_, _, rfl, .inl (g1.sub.seq a1), fin a2 a3 h2⟩
  · cases r1 with
    | cons r1 r2 =>
      cases r2
      cases r1 with
      | tup a1 a2 a3 => exact ⟨_, _, rfl, .inr (a1.up g1.sub).sq, fin a2 a3 h2⟩
  · exact h2.elim

/-! ### comprehensions -/
def dwipe (δ : Env) : List Nat → Env
  | [] => δ
  | v :: vs => (dwipe δ vs).set v .no
theorem dwipe_length (δ : Env) : ∀ vs : List Nat, (dwipe δ vs).length = δ.length
  | [] => rfl
  | v :: vs => by unfold dwipe; rw [List.length_set, dwipe_length δ vs]
theorem dwipe_get {δ : Env} {i : Nat} {s : DS} : ∀ {vs : List Nat}, (dwipe δ vs)[i]? = some s → s = .no ∨ (δ[i]? = some s ∧ i ∉ vs)
  | [], h => .inr ⟨h, by simp⟩
  | v :: vs, h => by
    unfold dwipe at h
    by_cases hi : v = i
    · subst hi
      rw [List.getElem?_set] at h
      simp only [if_true] at h
      split at h
      · injection h with h; exact .inl h.symm
      · cases h
    · rw [List.getElem?_set_ne hi] at h
      rcases dwipe_get h with h | ⟨h1, h2⟩
      · exact .inl h
      · exact .inr ⟨h1, by simp only [List.mem_cons, not_or]; exact ⟨fun e => hi e.symm, h2⟩⟩
theorem Slots.wipe {K : PySem.W.Frag} {H0 Hb H : Hp} {σ : St} {δ : Env} (S : Slots K H0 Hb H σ δ) (vs : List Nat) : Slots K H0 Hb H (L2.wipe σ vs) (dwipe δ vs) := by
  refine S.weak (by rw [wipe_length, dwipe_length]; exact S.len) fun i s h => ?_
  rcases dwipe_get h with h | ⟨h1, h2⟩
  · exact .inl h
  · exact .inr ⟨h1, wipe_get h2⟩
def dLoop (g : DG) (ft : DT) (fe : DE) (δ : Env) : List D → List D → DP → Prop
  | [], out, Q => Q (.lst out)
  | d :: ds, out, Q => g d δ fun δ2 => ft δ2 (fun b => if b = true then fe δ2 (fun y => dLoop g ft fe δ ds (out ++ [y]) Q) (fun _ => False) else dLoop g ft fe δ ds out Q) fun _ => False
def dComp (fi : DI) (bd : Bool) (g : DG) (ft : DT) (fe : DE) (vs : List Nat) : DE := fun δ Q Xd => fi δ (fun ds => (bd = false → ds.length ≤ sizeLine) ∧ dLoop g ft fe (dwipe δ vs) ds [] Q) Xd
def dYes : DT := fun _ Q _ => Q true
structure TsOk (X : Cx) (W : WX) (e : List Expr) (t : TT) (f : DT) : Prop where
  pts : PTs X e t
  tr : TR X.K W t f
theorem ts_nil : TsOk X W [] tYes dYes := ⟨pts_nil, fun H0 Hb H σ δ Q Qd Xd S e h q x => q true Hb H h (Grow.refl e)⟩
theorem ts_one {t : TT} {f : DT} (h : TOk X W a t f) : TsOk X W [a] t f := ⟨pts_one h.pt, h.tr⟩
def minus (H : Hp) (l : Addr) : Hp := fun b => if b = l then none else H b
theorem minus_ne {H : Hp} {l b : Addr} (h : b ≠ l) : minus H l b = H b := by unfold minus; rw [if_neg h]
theorem minus_at {H : Hp} {l : Addr} : minus H l l = none := by unfold minus; rw [if_pos rfl]
theorem upd_minus {H : Hp} {l : Addr} {o : HO} : upd (minus H l) l o = upd H l o := by
  funext b
  unfold upd minus
  split <;> rfl
theorem fr_lc {K : PySem.W.Frag} {W : WX} {wi : TI} {fi : DI} {bd : Bool} {g : TG} {fg : DG} {tt : TT} {ft : DT} {te : TE} {fe : DE} {vs : List Nat} (hi : IR K W wi fi bd) (hg : GR K vs g fg) (ht : TR K W0 tt ft) (he : ER K W0 te fe) :
    FR K W (tLc wi g tt te vs) (dComp fi bd fg ft fe vs) := by
  intro H0 Hb H σ δ Q Qd Xd S e h q x
  refine hi H0 Hb H σ δ _ _ Xd S e h (fun ds J B1 C1 h1 hb g1 wk => ?_) x
  obtain ⟨hsz, h1⟩ := h1
  have hsize : ds.length ≤ sizeLine := by
    cases bd with
    | true => exact hb rfl
    | false => exact hsz rfl
  intro L hL
  -- the state behind i turns
  let P : Nat → Hp → Prop := fun i Hc => ∃ (B C : Hp) (acc : List V) (out : List D), Grow B1 C1 B C ∧ C L = none ∧ Hc = upd C L (.lst acc) ∧ DRs K B acc out ∧ out.length ≤ i ∧ dLoop fg ft fe (dwipe δ vs) (ds.drop i) out Qd
  refine ⟨fun i m Hc => m = ds.length - i ∧ i ≤ ds.length ∧ P i Hc, ⟨ds.length, by simp, Nat.zero_le _, B1, C1, [], [], Grow.refl g1.sub, hL, rfl, .nil, Nat.le_refl _, by rw [List.drop_zero]; exact h1⟩, ?_⟩
  rintro i m Hc ⟨rfl, hile, B, C, acc, out, g2, hCL, rfl, hacc, hout, hloop⟩
  have hBL : B L = none := g2.sub.free hCL
  have sBC : Same B (upd C L (.lst acc)) := fun b u z => by rw [upd_ne (ne_of_none z hBL)]; exact g2.sub b u z
  obtain ⟨w1, w2⟩ := wk B (upd C L (.lst acc)) g2.vis sBC
  by_cases hlt : i < ds.length
  · refine .inr ⟨(w1 i ds[i] (by simp [hlt])).1, P (i + 1), fun H' p' => ⟨ds.length - (i + 1), by omega, rfl, hlt, p'⟩, fun y Hy hy => ?_⟩
    obtain ⟨B2, g3, ry⟩ := (w1 i ds[i] (by simp [hlt])).2 y Hy hy
    rw [List.drop_eq_getElem_cons hlt] at hloop
    have S2 : Slots K H0 B2 Hy (wipe σ vs) (dwipe δ vs) := ((((S.grow g1).grow g2).grow (Grow.hide g2.sub hCL)).grow g3).wipe vs
    refine hg H0 B2 Hy _ _ _ _ _ _ S2 g3.sub ry hloop fun σ3 δ3 h3 S3 w3 => ?_
    refine ⟨by rw [w3, wipe_wipe], ?_⟩
    -- behind any step: back to the form of P
    have back : ∀ {B' H' : Hp}, Grow B (upd C L (.lst acc)) B' H' → H' L = some (.lst acc) ∧ B' L = none ∧ Grow B1 C1 B' (minus H' L) := fun {B' H'} gg => by
      have hB' : B' L = none := gg.hid L (by rw [upd_same]; exact fun z => nomatch z) hBL
      refine ⟨gg.all L _ upd_same, hB', fun b u z => ?_, g2.vis.trans gg.vis, fun b u z => ?_, fun b z n => ?_⟩
      · have z1 := g2.all b u z
        have z2 := ne_of_none z1 hCL
        rw [minus_ne z2]
        exact gg.all b u (by rw [upd_ne z2]; exact z1)
      · rw [minus_ne (ne_of_none z hB')]
        exact gg.sub b u z
      · have z1 : C b ≠ none := by
          cases q' : C1 b with
          | none => exact absurd q' z
          | some u => rw [g2.all b u q']; exact fun z => nomatch z
        have z2 : b ≠ L := fun y => z1 (by rw [y]; exact hCL)
        exact gg.hid b (by rw [upd_ne z2]; exact z1) (g2.hid b z n)
    refine ht H0 B2 Hy σ3 δ3 _ _ _ S3 g3.sub h3 (fun b B3 H3 h4 g4 => ?_) fun _ _ _ _ _ z _ _ => z.elim
    have g34 := g3.trans g4
    cases b with
    | true =>
      rw [if_pos rfl] at h4 ⊢
      refine he H0 B3 H3 σ3 δ3 _ _ _ (S3.grow g4) g4.sub h4 (fun dy v B4 H4 h5 g5 r5 => ?_) fun _ _ _ _ _ z _ _ => z.elim
      have g35 := g34.trans g5
      obtain ⟨k1, k2, k3⟩ := back g35
      have hl := hacc.length
      refine ⟨acc, k1, by omega, B4, minus H4 L, acc ++ [v], out ++ [dy], k3, minus_at, upd_minus.symm, (DRs.up g35.vis _ _ hacc).append (.cons r5 .nil), by rw [List.length_append]; exact Nat.succ_le_succ hout, h5⟩
    | false =>
      rw [if_neg Bool.false_ne_true] at h4 ⊢
      obtain ⟨k1, k2, k3⟩ := back g34
      refine ⟨B3, minus H3 L, acc, out, k3, minus_at, ?_, DRs.up g34.vis _ _ hacc, Nat.le_succ_of_le hout, h4⟩
      rw [upd_minus]
      funext b
      by_cases z : b = L
      · subst z; rw [upd_same]; exact k1
      · rw [upd_ne z]
  · have ei : i = ds.length := by omega
    refine .inl ⟨w2 i (by omega), ?_⟩
    rw [ei, List.drop_length] at hloop
    have hl := hacc.length
    exact q _ L _ B _ hloop ((g1.trans g2).trans (Grow.hide g2.sub hCL)) ((g1.trans g2).all.free hCL) hBL upd_same (.lst (by omega) hacc)
section
variable {elt iter : Expr} {ifs : List Expr} {scope : Scope} {own : List (Str × Nat)} {wi : TI} {fi : DI} {bd : Bool} {g : TG} {fg : DG} {tt : TT} {ft : DT} {te : TE} {fe : DE}
theorem f_lc (hN : X.N.Nodup) (hi : IOk X W tg iter wi fi bd) (ok : BlkOk X.N X.env.scope scope own)
    (hg : ∀ (s : Shared) (H : Hp) (C : Addr) (cl : List (Str × Addr)) (fp : List Addr), GOk (X.blk s H scope (compEnvC scope cl C X.env) fp) (own.map (·.2)) tg g fg)
    (ht : ∀ (s : Shared) (H : Hp) (C : Addr) (cl : List (Str × Addr)) (fp : List Addr), TsOk (X.blk s H scope (compEnvC scope cl C X.env) fp) W0 ifs tt ft)
    (he : ∀ (s : Shared) (H : Hp) (C : Addr) (cl : List (Str × Addr)) (fp : List Addr), EOk (X.blk s H scope (compEnvC scope cl C X.env) fp) W0 elt te fe)
    (hc : X.calm = true := by rfl) (hs : ∀ x, foldedSetIterable iter X.env x = pure x := by intro _; rfl) : FOk X W (.ListComp elt [⟨tg, iter, ifs, 0⟩] scope pos) (tLc wi g tt te (own.map (·.2))) (dComp fi bd fg ft fe (own.map (·.2))) := by
  have s : Shared := X.s_0
  exact ⟨pe_lc hc hN hi.pi ok (fun s H C cl fp => (hg s H C cl fp).pg) (fun s H C cl fp => (ht s H C cl fp).pts) (fun s H C cl fp => (he s H C cl fp).pe) hs,
    fr_lc hi.ir (hg s X.H_0 0 [] []).gr (ht s X.H_0 0 [] []).tr (he s X.H_0 0 [] []).er⟩
end
end
end L2.DL

-- DLE
set_option Elab.async false
set_option linter.all false
set_option maxRecDepth 100000
set_option maxHeartbeats 1000000
/-! # DL, statements, defs -/
namespace L2.DL
open PySem PySem.Spec PyProof.Rows

structure DEnds where
  nx : Env → Prop
  rt : DP
  bk : Env → Prop := fun _ => False
  ct : Env → Prop := fun _ => False
  xc : XD → Env → Prop := fun _ _ => False
abbrev DSt := DEnds → Env → Prop
structure EndR (K : PySem.W.Frag) (W : WX) (Hb0 H0 : Hp) (E : Ends) (F : DEnds) : Prop where
  nx : ∀ (σ : St) (δ : Env) (Hb H : Hp), F.nx δ → Body K Hb0 H0 Hb H σ δ → E.nx σ H
  rt : ∀ (d : D) (v : V) (Hb H : Hp), F.rt d → Grow Hb0 H0 Hb H → DR K Hb v d → E.rt v H
  bk : ∀ (σ : St) (δ : Env) (Hb H : Hp), F.bk δ → Body K Hb0 H0 Hb H σ δ → E.bk σ H
  ct : ∀ (σ : St) (δ : Env) (Hb H : Hp), F.ct δ → Body K Hb0 H0 Hb H σ δ → E.ct σ H
  xc : ∀ (x : XD) (c : Value) (dd : Option Addr) (σ : St) (δ : Env) (Hb H : Hp), F.xc x δ → Body K Hb0 H0 Hb H σ δ → XR K Hb H c dd x → W c dd σ H
def SR (K : PySem.W.Frag) (W : WX) (t : TS) (g : DSt) : Prop := ∀ (Hb0 H0 Hb H : Hp) (σ : St) (δ : Env) (E : Ends) (F : DEnds), Body K Hb0 H0 Hb H σ δ → g F δ → EndR K W Hb0 H0 E F → t E σ H
structure SOk (X : Cx) (W : WX) (st : Stmt) (t : TS) (g : DSt) : Prop where
  ps : PS X st t
  sr : SR X.K W t g
structure SsOk (X : Cx) (W : WX) (st : List Stmt) (t : TS) (g : DSt) : Prop where
  pss : PSs X st t
  sr : SR X.K W t g
section
variable {K : PySem.W.Frag} {W : WX} {Hb0 H0 Hb H : Hp} {σ : St} {δ : Env} {E : Ends} {F : DEnds}
theorem EndR.xw (R : EndR K W Hb0 H0 E F) (B : Body K Hb0 H0 Hb H σ δ) : XW K W Hb H σ (fun x => F.xc x δ) := fun x c dd B' C' q g r => R.xc x c dd σ δ B' C' q (B.grow g) r
theorem Body.put {Hb' H' : Hp} (B : Body K Hb0 H0 Hb H σ δ) (g : Grow Hb H Hb' H') {v : V} {d : D} (r : DR K Hb' v d) (i : Nat) : Body K Hb0 H0 Hb' H' (σ.set i (some v)) (δ.set i (.val d)) := ⟨B.g.trans g, (B.s.grow g).put r i⟩
/-- a slot owns a new object -/
theorem Body.own {Hb' H' : Hp} (B : Body K Hb0 H0 Hb H σ δ) (g : Grow Hb H Hb' H') {l : Addr} {o : HO} {d : D} (h1 : H l = none) (h2 : Hb' l = none) (h3 : H' l = some o) (r : OR K Hb' o d) (i : Nat) : Body K Hb0 H0 Hb' H' (σ.set i (some (.ref l))) (δ.set i (.own d)) := by
  have S := B.s
  have S' := B.s.grow g
  have hl := S.len
  refine ⟨B.g.trans g, by rw [List.length_set, List.length_set]; exact hl, fun j d' e => ?_, fun j d' e => ?_, fun j k d1 d2 a hne e1 e2 e3 e4 => ?_⟩
  · by_cases hj : i = j
    · subst hj
      rw [List.getElem?_set] at e
      simp only [if_true] at e
      split at e
      · injection e with e; cases e
      · cases e
    · rw [List.getElem?_set_ne hj] at e
      obtain ⟨v', k1, k2⟩ := S'.val j d' e
      exact ⟨v', by rw [List.getElem?_set_ne hj]; exact k1, k2⟩
  · by_cases hj : i = j
    · subst hj
      rw [List.getElem?_set] at e
      simp only [if_true] at e
      split at e
      · injection e with e; injection e with e; subst e
        exact ⟨l, o, by rw [List.getElem?_set]; simp only [if_true]; rw [if_pos (by omega)], B.g.all.free h1, h2, h3, r⟩
      · cases e
    · rw [List.getElem?_set_ne hj] at e
      rw [List.getElem?_set_ne hj]
      exact S'.own j d' e
  · -- an owned one of before stands elsewhere
    have f : ∀ (j : Nat) (d' : D), i ≠ j → δ[j]? = some (.own d') → σ[j]? = some (some (.ref l)) → False := fun j d' hj e z => by
      obtain ⟨l', o', k1, _, _, k4, _⟩ := S.own j d' e
      rw [z] at k1
      injection k1 with k1; injection k1 with k1; injection k1 with k1
      subst k1
      rw [h1] at k4
      cases k4
    by_cases hj : i = j
    · subst hj
      have hk : i ≠ k := hne
      rw [List.getElem?_set_ne hk] at e2 e4
      have z : a = l := by
        rw [List.getElem?_set] at e3
        simp only [if_true] at e3
        split at e3
        · injection e3 with e3; injection e3 with e3; injection e3 with e3; exact e3.symm
        · cases e3
      subst z
      exact f k d2 hk e2 e4
    · rw [List.getElem?_set_ne hj] at e1 e3
      by_cases hk : i = k
      · subst hk
        have z : a = l := by
          rw [List.getElem?_set] at e4
          simp only [if_true] at e4
          split at e4
          · injection e4 with e4; injection e4 with e4; injection e4 with e4; exact e4.symm
          · cases e4
        subst z
        exact f j d1 hj e1 e3
      · rw [List.getElem?_set_ne hk] at e2 e4
        exact S.apart j k d1 d2 a hne e1 e2 e3 e4
/-- an owned object is changed -/
theorem Body.write (B : Body K Hb0 H0 Hb H σ δ) {i : Nat} {d d' : D} {l : Addr} {o' : HO} (hd : δ[i]? = some (.own d)) (hs : σ[i]? = some (some (.ref l))) (hl : ∃ o, H0 l = none ∧ Hb l = none ∧ H l = some o) (r : OR K Hb o' d') : Body K Hb0 H0 Hb (upd H l o') σ (δ.set i (.own d')) := by
  obtain ⟨o, l1, l2, l3⟩ := hl
  have S := B.s
  have up : Same Hb (upd H l o') := fun b u z => by rw [upd_ne (ne_of_none z l2)]; exact B.g.sub b u z
  refine ⟨⟨fun b u z => by rw [upd_ne (ne_of_none z l1)]; exact B.g.all b u z, B.g.vis, up, B.g.hid⟩, by rw [List.length_set]; exact S.len, fun j e he => ?_, fun j e he => ?_, fun j k d1 d2 a hne e1 e2 e3 e4 => ?_⟩
  · by_cases hj : i = j
    · subst hj
      rw [List.getElem?_set] at he
      simp only [if_true] at he
      split at he
      · injection he with he; cases he
      · cases he
    · rw [List.getElem?_set_ne hj] at he
      exact S.val j e he
  · by_cases hj : i = j
    · subst hj
      rw [List.getElem?_set] at he
      simp only [if_true] at he
      split at he
      · injection he with he; injection he with he; subst he
        exact ⟨l, o', hs, l1, l2, upd_same, r⟩
      · cases he
    · rw [List.getElem?_set_ne hj] at he
      obtain ⟨a, u, k1, k2, k3, k4, k5⟩ := S.own j e he
      have ne : a ≠ l := fun z => by subst z; exact S.apart i j d e a hj hd he hs k1
      exact ⟨a, u, k1, k2, k3, by rw [upd_ne ne]; exact k4, k5⟩
  · have f : ∀ (j : Nat) (e : D), (δ.set i (.own d'))[j]? = some (.own e) → ∃ e', δ[j]? = some (.own e') := fun j e he => by
      by_cases hj : i = j
      · subst hj; exact ⟨d, hd⟩
      · rw [List.getElem?_set_ne hj] at he; exact ⟨e, he⟩
    obtain ⟨e1', k1⟩ := f j d1 e1
    obtain ⟨e2', k2⟩ := f k d2 e2
    exact S.apart j k _ _ a hne k1 k2 e3 e4
/-- an owned object is shown: from now on it is data as any other -/
theorem Body.shown (B : Body K Hb0 H0 Hb H σ δ) {i : Nat} {d : D} (hd : δ[i]? = some (.own d)) : ∃ Hb', Body K Hb0 H0 Hb' H σ (δ.set i (.val d)) := by
  have S := B.s
  obtain ⟨l, o, k1, k2, k3, k4, k5⟩ := S.own i d hd
  have up : Same Hb (upd Hb l o) := fun b u z => by rw [upd_ne (ne_of_none z k3)]; exact z
  refine ⟨upd Hb l o, ⟨B.g.all, B.g.vis.trans up, fun b u z => ?_, fun b z n => ?_⟩, by rw [List.length_set]; exact S.len, fun j e he => ?_, fun j e he => ?_, fun j k d1 d2 a hne e1 e2 e3 e4 => ?_⟩
  · by_cases hb : b = l
    · subst hb; rw [upd_same] at z; rw [← z]; exact k4
    · rw [upd_ne hb] at z; exact B.g.sub b u z
  · rw [upd_ne (fun y => z (by rw [y]; exact k2))]
    exact B.g.hid b z n
  · by_cases hj : i = j
    · subst hj
      rw [List.getElem?_set] at he
      simp only [if_true] at he
      split at he
      · injection he with he; injection he with he; subst he
        exact ⟨.ref l, k1, (k5.up up).dr upd_same⟩
      · cases he
    · rw [List.getElem?_set_ne hj] at he
      obtain ⟨v, h1, h2⟩ := S.val j e he
      exact ⟨v, h1, DR.up up _ _ h2⟩
  · by_cases hj : i = j
    · subst hj
      rw [List.getElem?_set] at he
      simp only [if_true] at he
      split at he
      · injection he with he; cases he
      · cases he
    · rw [List.getElem?_set_ne hj] at he
      obtain ⟨a, u, h1, h2, h3, h4, h5⟩ := S.own j e he
      have ne : a ≠ l := fun z => by subst z; exact S.apart i j d e a hj hd he k1 h1
      exact ⟨a, u, h1, h2, by rw [upd_ne ne]; exact h3, h4, h5.up up⟩
  · have f : ∀ (j : Nat) (e : D), (δ.set i (.val d))[j]? = some (.own e) → i ≠ j := fun j e he z => by
      subst z
      rw [List.getElem?_set] at he
      simp only [if_true] at he
      split at he
      · injection he with he; cases he
      · cases he
    have hj := f j d1 e1
    have hk := f k d2 e2
    rw [List.getElem?_set_ne hj] at e1
    rw [List.getElem?_set_ne hk] at e2
    exact S.apart j k _ _ a hne e1 e2 e3 e4
end

section
variable {X : Cx} {W : WX} {st : Stmt} {rest : List Stmt} {t u : TS} {g h : DSt} {e : Expr} {te : TE} {fe : DE} {pos : Pos}
/-! ### blocks -/
def dNext : DSt := fun F δ => F.nx δ
def dSeqS (g h : DSt) : DSt := fun F δ => g { F with nx := h F } δ
theorem ss_nil : SsOk X W [] tNext dNext := ⟨pss_nil, fun Hb0 H0 Hb H σ δ E F B h R => R.nx σ δ Hb H h B⟩
theorem ss_one (a : SOk X W st t g) : SsOk X W [st] t g := ⟨pss_one a.ps, a.sr⟩
theorem ss_cons (a : SOk X W st t g) (b : SsOk X W rest u h) : SsOk X W (st :: rest) (tSeq t u) (dSeqS g h) := by
  refine ⟨pss_cons a.ps b.pss, ?_⟩
  intro Hb0 H0 Hb H σ δ E F B hh R
  exact a.sr Hb0 H0 Hb H σ δ _ _ B hh ⟨fun σ' δ' Hb' H' q B' => b.sr Hb0 H0 Hb' H' σ' δ' E F B' q R, R.rt, R.bk, R.ct, R.xc⟩
/-! an owned slot is shown ahead of the block, of a statement -/
def frzAt (i : Nat) (δ : Env) : Env := match δ[i]? with
  | some (.own d) => δ.set i (.val d)
  | _ => δ
theorem sr_show {K : PySem.W.Frag} (i : Nat) (a : SR K W t g) : SR K W t (fun F δ => g F (frzAt i δ)) := by
  intro Hb0 H0 Hb H σ δ E F B hh R
  unfold frzAt at hh
  split at hh
  · rename_i d hd
    obtain ⟨Hb', B'⟩ := B.shown hd
    exact a Hb0 H0 Hb' H σ _ E F B' hh R
  · exact a Hb0 H0 Hb H σ δ E F B hh R
theorem ss_show (i : Nat) (a : SsOk X W rest t g) : SsOk X W rest t (fun F δ => g F (frzAt i δ)) := ⟨a.pss, sr_show i a.sr⟩
theorem s_show (i : Nat) (a : SOk X W st t g) : SOk X W st t (fun F δ => g F (frzAt i δ)) := ⟨a.ps, sr_show i a.sr⟩
theorem s_pass : SOk X W (.Pass pos) tNext dNext := ⟨ps_pass, fun Hb0 H0 Hb H σ δ E F B h R => R.nx σ δ Hb H h B⟩
def dBreak : DSt := fun F δ => F.bk δ
def dCont : DSt := fun F δ => F.ct δ
theorem s_break : SOk X W (.Break pos) tBreak dBreak := ⟨ps_break, fun Hb0 H0 Hb H σ δ E F B h R => R.bk σ δ Hb H h B⟩
theorem s_cont : SOk X W (.Continue pos) tCont dCont := ⟨ps_continue, fun Hb0 H0 Hb H σ δ E F B h R => R.ct σ δ Hb H h B⟩
def dNever : DSt := fun _ _ => False
theorem s_never : SOk X W st tNever dNever := ⟨ps_never, fun Hb0 H0 Hb H σ δ E F B h R => h.elim⟩
theorem ss_never {sts : List Stmt} : SsOk X W sts tNever dNever := ⟨pss_never, fun Hb0 H0 Hb H σ δ E F B h R => h.elim⟩
def dDrop (fe : DE) : DSt := fun F δ => fe δ (fun _ => F.nx δ) fun x => F.xc x δ
theorem s_expr (he : EOk X W e te fe) (hs : swapsWith e none pos.line X.env = pure false := by rfl) : SOk X W (.Expr e pos) (tDrop te) (dDrop fe) := by
  refine ⟨ps_expr he.pe hs, ?_⟩
  intro Hb0 H0 Hb H σ δ E F B hh R
  exact he.er H0 Hb H σ δ _ _ _ B.s B.g.sub hh (fun d v B1 C1 h1 g1 r1 => R.nx σ δ B1 C1 h1 (B.grow g1)) (R.xw B)
def dRet (fe : DE) : DSt := fun F δ => fe δ F.rt fun x => F.xc x δ
theorem s_ret (he : EOk X W e te fe) : SOk X W (.Return (some e) pos) (tRet te) (dRet fe) := by
  refine ⟨ps_ret he.pe, ?_⟩
  intro Hb0 H0 Hb H σ δ E F B hh R
  exact he.er H0 Hb H σ δ _ _ _ B.s B.g.sub hh (fun d v B1 C1 h1 g1 r1 => R.rt d v B1 C1 h1 (B.g.trans g1) r1) (R.xw B)
def dRetN : DSt := fun F _ => F.rt .non
theorem s_retN : SOk X W (.Return none pos) tRetN dRetN := ⟨ps_retN, fun Hb0 H0 Hb H σ δ E F B h R => R.rt _ _ Hb H h B.g .non⟩
def dIfS (f : DT) (g h : DSt) : DSt := fun F δ => f δ (fun b => if b = true then g F δ else h F δ) fun x => F.xc x δ
theorem s_if {c : Expr} {a b : List Stmt} {tc : TT} {fc : DT} (hc : TOk X W c tc fc) (ha : SsOk X W a t g) (hb : SsOk X W b u h) : SOk X W (.If c a b pos) (tIfS tc t u) (dIfS fc g h) := by
  refine ⟨ps_if hc.pt ha.pss hb.pss, ?_⟩
  intro Hb0 H0 Hb H σ δ E F B hh R
  refine hc.tr H0 Hb H σ δ _ _ _ B.s B.g.sub hh (fun b B1 C1 h1 g1 => ?_) (R.xw B)
  cases b with
  | true =>
    rw [if_pos rfl] at h1 ⊢
    exact ha.sr Hb0 H0 B1 C1 σ δ E F (B.grow g1) h1 R
  | false =>
    rw [if_neg Bool.false_ne_true] at h1 ⊢
    exact hb.sr Hb0 H0 B1 C1 σ δ E F (B.grow g1) h1 R
/-! ### stores -/
def dSet (i : Nat) (fe : DE) : DSt := fun F δ => fe δ (fun d => F.nx (δ.set i (.val d))) fun x => F.xc x δ
def dSetO (i : Nat) (fe : DE) : DSt := fun F δ => fe δ (fun d => F.nx (δ.set i (.own d))) fun x => F.xc x δ
theorem sr_set {K : PySem.W.Frag} {i : Nat} (he : ER K W te fe) : SR K W (tAsg te (gName i)) (dSet i fe) := by
  intro Hb0 H0 Hb H σ δ E F B hh R
  exact he H0 Hb H σ δ _ _ _ B.s B.g.sub hh (fun d v B1 C1 h1 g1 r1 => R.nx _ _ B1 C1 h1 (B.put g1 r1 i)) (R.xw B)
theorem sr_setO {K : PySem.W.Frag} {i : Nat} (he : FR K W te fe) : SR K W (tAsg te (gName i)) (dSetO i fe) := by
  intro Hb0 H0 Hb H σ δ E F B hh R
  exact he H0 Hb H σ δ _ _ _ B.s B.g.sub hh (fun d l o B1 C1 h1 g1 h2 h3 h4 h5 => R.nx _ _ B1 C1 h1 (B.own g1 h2 h3 h4 h5 i)) (R.xw B)
theorem s_set {x : Str} {pos' : Pos} (i : Nat) (hN : X.N.Nodup) (he : EOk X W e te fe) (hi : X.N[i]? = some x := by rfl) (hx : Loc X.env.scope x := by first | exact Or.inl rfl | exact Or.inr rfl) (hs : swapsWith e (some (.Name x pos')) pos.line X.env = pure false := by rfl)
    (hf : X.fn x = true ∨ X.env.scope.names.lookup x = some .local := by first | exact .inl rfl | exact .inr rfl | assumption) : SOk X W (.Assign [.Name x pos'] e pos) (tAsg te (gName i)) (dSet i fe) := ⟨ps_set hN hi hx he.pe hs hf, sr_set he.er⟩
theorem s_setO {x : Str} {pos' : Pos} (i : Nat) (hN : X.N.Nodup) (he : FOk X W e te fe) (hi : X.N[i]? = some x := by rfl) (hx : Loc X.env.scope x := by first | exact Or.inl rfl | exact Or.inr rfl) (hs : swapsWith e (some (.Name x pos')) pos.line X.env = pure false := by rfl)
    (hf : X.fn x = true ∨ X.env.scope.names.lookup x = some .local := by first | exact .inl rfl | exact .inr rfl | assumption) : SOk X W (.Assign [.Name x pos'] e pos) (tAsg te (gName i)) (dSetO i fe) := ⟨ps_set hN hi hx he.pe hs hf, sr_setO he.fr⟩
/-- a store to any target (a, b = e) -/
def dAsg (fe : DE) (f : DG) : DSt := fun F δ => fe δ (fun d => f d δ F.nx) fun x => F.xc x δ
theorem s_asg {ws : List Nat} {tg : Expr} {gt : TG} {f : DG} (he : EOk X W e te fe) (hg : GOk X ws tg gt f) (hs : swapsWithSole [tg] e pos.line X.env = pure false := by rfl) (hw : swappedStores [tg] e X.env = pure none := by rfl) (h1 : (assignEach [tg] X.env).map (·.2) = [assign tg X.env] := by rfl) : SOk X W (.Assign [tg] e pos) (tAsg te gt) (dAsg fe f) := by
  refine ⟨ps_asg he.pe hg.pg hs hw h1, ?_⟩
  intro Hb0 H0 Hb H σ δ E F B hh R
  refine he.er H0 Hb H σ δ _ _ _ B.s B.g.sub hh (fun d v B1 C1 h1 g1 r1 => ?_) (R.xw B)
  have B' := B.grow g1
  exact hg.gr H0 B1 C1 σ δ v d _ _ B'.s B'.g.sub r1 h1 fun σ' δ' h2 S' _ => R.nx _ _ B1 C1 h2 ⟨B'.g, S'⟩
section
variable {y : Str} {py spos : Pos} {elt tg iter : Expr} {ifs : List Expr} {scope : Scope} {own : List (Str × Nat)} {wi : TI} {fi : DI} {bd : Bool} {gg : TG} {fg : DG} {tt : TT} {ft : DT}
/-- y = [.. for ..] -/
theorem sp_lc (i : Nat) (hN : X.N.Nodup) (hy : X.N[i]? = some y) (hyl : X.env.scope.names.lookup y = some .local) (hsw : swapsWith (.ListComp elt [⟨tg, iter, ifs, 0⟩] scope pos) (some (.Name y py)) spos.line X.env = pure true)
    (hi : IOk X W tg iter wi fi bd) (ok : BlkOk X.N X.env.scope scope own)
    (hg : ∀ (s : Shared) (H : Hp) (C : Addr) (cl : List (Str × Addr)) (fp : List Addr), GOk (X.blk s H scope (compEnvC scope cl C X.env) fp) (own.map (·.2)) tg gg fg)
    (ht : ∀ (s : Shared) (H : Hp) (C : Addr) (cl : List (Str × Addr)) (fp : List Addr), TsOk (X.blk s H scope (compEnvC scope cl C X.env) fp) W0 ifs tt ft)
    (he : ∀ (s : Shared) (H : Hp) (C : Addr) (cl : List (Str × Addr)) (fp : List Addr), EOk (X.blk s H scope (compEnvC scope cl C X.env) fp) W0 elt te fe)
    (hc : X.calm = true) (hs : ∀ x, foldedSetIterable iter X.env x = pure x) :
    PS X (.Assign [.Name y py] (.ListComp elt [⟨tg, iter, ifs, 0⟩] scope pos) spos) (tAsg (tLc wi gg tt te (own.map (·.2))) (gName i)) ∧ FR X.K W (tLc wi gg tt te (own.map (·.2))) (dComp fi bd fg ft fe (own.map (·.2))) := by
  have s : Shared := X.s_0
  exact ⟨ps_setLc hc hN hy hyl hsw hi.pi ok (fun s H C cl fp => (hg s H C cl fp).pg) (fun s H C cl fp => (ht s H C cl fp).pts) (fun s H C cl fp => (he s H C cl fp).pe) hs,
    fr_lc hi.ir (hg s X.H_0 0 [] []).gr (ht s X.H_0 0 [] []).tr (he s X.H_0 0 [] []).er⟩
theorem s_lc (i : Nat) (hN : X.N.Nodup) (hi : IOk X W tg iter wi fi bd) (ok : BlkOk X.N X.env.scope scope own)
    (hg : ∀ (s : Shared) (H : Hp) (C : Addr) (cl : List (Str × Addr)) (fp : List Addr), GOk (X.blk s H scope (compEnvC scope cl C X.env) fp) (own.map (·.2)) tg gg fg)
    (ht : ∀ (s : Shared) (H : Hp) (C : Addr) (cl : List (Str × Addr)) (fp : List Addr), TsOk (X.blk s H scope (compEnvC scope cl C X.env) fp) W0 ifs tt ft)
    (he : ∀ (s : Shared) (H : Hp) (C : Addr) (cl : List (Str × Addr)) (fp : List Addr), EOk (X.blk s H scope (compEnvC scope cl C X.env) fp) W0 elt te fe)
    (hy : X.N[i]? = some y := by rfl) (hyl : X.env.scope.names.lookup y = some .local := by rfl) (hsw : swapsWith (.ListComp elt [⟨tg, iter, ifs, 0⟩] scope pos) (some (.Name y py)) spos.line X.env = pure true := by exact sw_true rfl rfl rfl (by decide +kernel))
    (hc : X.calm = true := by rfl) (hs : ∀ x, foldedSetIterable iter X.env x = pure x := by intro _; rfl) :
    SOk X W (.Assign [.Name y py] (.ListComp elt [⟨tg, iter, ifs, 0⟩] scope pos) spos) (tAsg (tLc wi gg tt te (own.map (·.2))) (gName i)) (dSet i (dComp fi bd fg ft fe (own.map (·.2)))) := by
  obtain ⟨a, b⟩ := sp_lc (spos := spos) (py := py) (pos := pos) i hN hy hyl hsw hi ok hg ht he hc hs
  exact ⟨a, sr_set b.er⟩
theorem s_lcO (i : Nat) (hN : X.N.Nodup) (hi : IOk X W tg iter wi fi bd) (ok : BlkOk X.N X.env.scope scope own)
    (hg : ∀ (s : Shared) (H : Hp) (C : Addr) (cl : List (Str × Addr)) (fp : List Addr), GOk (X.blk s H scope (compEnvC scope cl C X.env) fp) (own.map (·.2)) tg gg fg)
    (ht : ∀ (s : Shared) (H : Hp) (C : Addr) (cl : List (Str × Addr)) (fp : List Addr), TsOk (X.blk s H scope (compEnvC scope cl C X.env) fp) W0 ifs tt ft)
    (he : ∀ (s : Shared) (H : Hp) (C : Addr) (cl : List (Str × Addr)) (fp : List Addr), EOk (X.blk s H scope (compEnvC scope cl C X.env) fp) W0 elt te fe)
    (hy : X.N[i]? = some y := by rfl) (hyl : X.env.scope.names.lookup y = some .local := by rfl) (hsw : swapsWith (.ListComp elt [⟨tg, iter, ifs, 0⟩] scope pos) (some (.Name y py)) spos.line X.env = pure true := by exact sw_true rfl rfl rfl (by decide +kernel))
    (hc : X.calm = true := by rfl) (hs : ∀ x, foldedSetIterable iter X.env x = pure x := by intro _; rfl) :
    SOk X W (.Assign [.Name y py] (.ListComp elt [⟨tg, iter, ifs, 0⟩] scope pos) spos) (tAsg (tLc wi gg tt te (own.map (·.2))) (gName i)) (dSetO i (dComp fi bd fg ft fe (own.map (·.2)))) := by
  obtain ⟨a, b⟩ := sp_lc (spos := spos) (py := py) (pos := pos) i hN hy hyl hsw hi ok hg ht he hc hs
  exact ⟨a, sr_setO b⟩
end
/-! ### an owned list: append -/
def dApp (i : Nat) (fe : DE) : DSt := fun F δ => match δ[i]? with
  | some (.own (.lst ds)) => fe δ (fun d => ds.length < sizeLine ∧ F.nx (δ.set i (.own (.lst (ds ++ [d]))))) fun x => F.xc x δ
  | _ => False
theorem s_app {x : Str} {p1 p2 apos : Pos} (i : Nat) (he : EOk X W e te fe) (hN : X.N[i]? = some x := by rfl) (hv : Vis X.env.scope x := by first | exact Or.inl rfl | exact Or.inr (Or.inl rfl) | exact Or.inr (Or.inr rfl)) (hd : (x == ("__debug__" : Str)) = false := by decide)
    (hcd : (x == ("__classdict__" : Str)) = false := by decide) (hbase : attributeBase (.Name x p1) "append" X.env (eval (.Name x p1) X.env) = eval (.Name x p1) X.env := by rfl)
    (hfew : ((backTo p2 (starEach [e] X.env)).all (fun x => !x.1) && (backToKw p2 (keywordEach [] X.env)).all (fun x => x.1.isSome) && decide ([e].length + ([] : List Keyword).length + (if ([] : List Keyword).isEmpty then 0 else 1) < 30)) = true := by rfl)
    (hline : (apos.endLine == p2.line) = true := by rfl) (hs : starEach [e] X.env = (false, eval e X.env) :: starEach [] X.env := by rfl) (hpl : (backTo p2 (starEach [] X.env)).any (·.1) = false := by rfl)
    (hsw : swapsWith (.Call (.Attribute (.Name x p1) "append" apos) [e] [] p2) none pos.line X.env = pure false := by rfl) :
    SOk X W (.Expr (.Call (.Attribute (.Name x p1) "append" apos) [e] [] p2) pos) (tDrop (tBM X.K "list" rAppend (tVar i) (tCons te tNil))) (dApp i fe) := by
  refine ⟨ps_expr (pe_bm PySem.F.plainAttrs_list PySem.F.slot_list_append PySem.F.type_list_append mt_append (pe_var hN hv hd hcd) (pa_cons he.pe pa_nil hs) hbase hfew hline hs hpl) hsw, ?_⟩
  intro Hb0 H0 Hb H σ δ E F B hh R
  unfold dApp at hh
  split at hh
  · rename_i ds hd'
    obtain ⟨l, o, k1, k2, k3, k4, k5⟩ := B.s.own i _ hd'
    cases k5 with
    | lst a1 a2 =>
      refine ⟨.ref l, k1, .inl ⟨rfl, _, SqL.of k4⟩, ?_⟩
      refine he.er H0 Hb H σ δ _ _ _ B.s B.g.sub hh (fun d v B1 C1 h1 g1 r1 => ?_) (R.xw B)
      have hl := a2.length
      have k3' : B1 l = none := g1.hid l (by rw [k4]; exact fun z => nomatch z) k3
      have k4' := g1.all _ _ k4
      refine ⟨l, _, v, rfl, rfl, k4', by omega, R.nx _ _ B1 _ h1.2 ?_⟩
      exact (B.grow g1).write hd' k1 ⟨_, k2, k3', k4'⟩ (.lst (by rw [List.length_append]; show _ + 1 ≤ _; omega) ((DRs.up g1.vis _ _ a2).append (.cons r1 .nil)))
  · exact hh.elim
/-- x[i] = e, x an owned list -/
def dPutIx (i : Nat) (fi fe : DE) : DSt := fun F δ => fe δ (fun d => match δ[i]? with
  | some (.own (.lst ds)) => fi δ (fun k => match k with
      | .int k => ∃ j, ixN ds.length k = some j ∧ F.nx (δ.set i (.own (.lst (ds.set j d))))
      | _ => False) fun x => F.xc x δ
  | _ => False) fun x => F.xc x δ
theorem s_putIx {x : Str} {p1 p2 : Pos} {ix : Expr} {ti : TE} {fi : DE} (i : Nat) (he : EOk X W e te fe) (hi' : EOk X W ix ti fi) (hN : X.N[i]? = some x := by rfl) (hv : Vis X.env.scope x := by first | exact Or.inl rfl | exact Or.inr (Or.inl rfl) | exact Or.inr (Or.inr rfl)) (hd : (x == ("__debug__" : Str)) = false := by decide)
    (hcd : (x == ("__classdict__" : Str)) = false := by decide)
    (ha : ∀ v, assign (.Subscript (.Name x p1) ix p2) X.env v = (do
      let ov ← holding [v] (eval (.Name x p1) X.env)
      let iv ← holding [v, ov] (eval ix X.env)
      standAt p2
      holding [v, ov, iv] (setItem ov iv v)
      release [v, ov, iv] []) := by intro _; rfl)
    (hs : swapsWithSole [.Subscript (.Name x p1) ix p2] e pos.line X.env = pure false := by rfl) (hw : swappedStores [.Subscript (.Name x p1) ix p2] e X.env = pure none := by rfl) (h1 : (assignEach [.Subscript (.Name x p1) ix p2] X.env).map (·.2) = [assign (.Subscript (.Name x p1) ix p2) X.env] := by rfl) :
    SOk X W (.Assign [.Subscript (.Name x p1) ix p2] e pos) (tAsg te (gSub (tVar i) ti rSetL)) (dPutIx i fi fe) := by
  refine ⟨ps_asg he.pe (pg_sub (pe_var hN hv hd hcd) hi'.pe set_list ha) hs hw h1, ?_⟩
  intro Hb0 H0 Hb H σ δ E F B hh R
  refine he.er H0 Hb H σ δ _ _ _ B.s B.g.sub hh (fun d v B1 C1 h1 g1 r1 => ?_) (R.xw B)
  have B' := B.grow g1
  split at h1
  · rename_i ds hd'
    obtain ⟨l, o, k1, k2, k3, k4, k5⟩ := B'.s.own i _ hd'
    cases k5 with
    | lst a1 a2 =>
      refine ⟨.ref l, k1, ?_⟩
      refine hi'.er H0 B1 C1 σ δ _ _ _ B'.s B'.g.sub h1 (fun dk u B2 C2 h2 g2 r2 => ?_) (R.xw B')
      split at h2
      · rename_i k
        obtain ⟨j, hj, h2⟩ := h2
        cases r2
        have k3' : B2 l = none := g2.hid l (by rw [k4]; exact fun z => nomatch z) k3
        have k4' := g2.all _ _ k4
        refine ⟨l, _, k, j, rfl, rfl, k4', by rw [a2.length]; exact hj, R.nx _ _ B2 _ h2 ?_⟩
        exact (B'.grow g2).write hd' k1 ⟨_, k2, k3', k4'⟩ (.lst (by rw [List.length_set]; exact a1) (DRs.set (DR.up g2.vis _ _ r1) j (DRs.up g2.vis _ _ a2)))
      · exact h2.elim
  · exact h1.elim

/-! ### loops -/
def dForL (f : DG) (g : DSt) (F : DEnds) : List D → Env → Prop
  | [], δ => F.nx δ
  | d :: ds, δ => f d δ fun δ' => g { F with nx := dForL f g F ds, ct := dForL f g F ds, bk := F.nx } δ'
theorem Grow.rebase {Hb0 H0 B3 H3 B' H' : Hp} (a : Grow Hb0 H0 B3 H3) (b : Grow B3 H0 B' H') : Grow Hb0 H0 B' H' := ⟨b.all, a.vis.trans b.vis, b.sub, fun c z n => b.hid c z (a.hid c z n)⟩
theorem Body.here {K : PySem.W.Frag} {Hb0 H0 Hb H : Hp} {σ : St} {δ : Env} (B : Body K Hb0 H0 Hb H σ δ) : Body K Hb H0 Hb H σ δ := ⟨⟨B.g.all, Same.refl _, B.g.sub, fun _ _ n => n⟩, B.s⟩
theorem Body.rebase {K : PySem.W.Frag} {Hb0 H0 B3 H3 B' H' : Hp} {σ : St} {δ : Env} (a : Grow Hb0 H0 B3 H3) (b : Body K B3 H0 B' H' σ δ) : Body K Hb0 H0 B' H' σ δ := ⟨a.rebase b.g, b.s⟩
def dFor (fi : DI) (f : DG) (g : DSt) : DSt := fun F δ => fi δ (fun ds => dForL f g F ds δ) fun x => F.xc x δ
theorem sr_for {K : PySem.W.Frag} {wi : TI} {fi : DI} {bd : Bool} {gt : TG} {f : DG} {ws : List Nat} (hi : IR K W wi fi bd) (hg : GR K ws gt f) (hb : SR K W t g) : SR K W (tFor wi gt t) (dFor fi f g) := by
  intro Hb0 H0 Hb H σ δ E F B hh R
  refine hi H0 Hb H σ δ _ _ _ B.s B.g.sub hh (fun ds J B1 C1 h1 _ g1 wk => ?_) (R.xw B)
  let P : Nat → St → Hp → Prop := fun i σ' Hc => ∃ (B' : Hp) (δ' : Env), Body K Hb0 H0 B' Hc σ' δ' ∧ Same B1 B' ∧ dForL f g F (ds.drop i) δ'
  refine ⟨fun i m σ' Hc => m = ds.length - i ∧ i ≤ ds.length ∧ P i σ' Hc, ⟨ds.length, by simp, Nat.zero_le _, B1, δ, B.grow g1, Same.refl _, by rw [List.drop_zero]; exact h1⟩, ?_⟩
  rintro i m σ' Hc ⟨rfl, hile, B2, δ', Bo, sm, hl⟩
  obtain ⟨w1, w2⟩ := wk B2 Hc sm Bo.g.sub
  by_cases hlt : i < ds.length
  · rw [List.drop_eq_getElem_cons hlt] at hl
    refine .inr ⟨(w1 i ds[i] (by simp [hlt])).1, P (i + 1), fun σ'' H' p' => ⟨ds.length - (i + 1), by omega, rfl, hlt, p'⟩, fun y Hy hy => ?_⟩
    obtain ⟨B3, g3, ry⟩ := (w1 i ds[i] (by simp [hlt])).2 y Hy hy
    have Bo3 := Bo.grow g3
    refine hg H0 B3 Hy σ' δ' _ _ _ _ Bo3.s Bo3.g.sub ry hl fun σ4 δ4 h4 S4 _ => ?_
    have sm3 : Same B1 B3 := sm.trans g3.vis
    have Bo4 : Body K B3 H0 B3 Hy σ4 δ4 := Body.here ⟨Bo3.g, S4⟩
    have go : ∀ (σ5 : St) (δ5 : Env) (B5 H5 : Hp), dForL f g F (ds.drop (i + 1)) δ5 → Body K B3 H0 B5 H5 σ5 δ5 → P (i + 1) σ5 H5 := fun σ5 δ5 B5 H5 h5 b5 => ⟨B5, δ5, b5.rebase Bo3.g, sm3.trans b5.g.vis, h5⟩
    exact hb B3 H0 B3 Hy σ4 δ4 _ _ Bo4 h4 ⟨go, fun d v B5 H5 h5 g5 r5 => R.rt d v B5 H5 h5 (Bo3.g.rebase g5) r5, fun σ5 δ5 B5 H5 h5 b5 => R.nx σ5 δ5 B5 H5 h5 (b5.rebase Bo3.g), go, fun x c dd σ5 δ5 B5 H5 h5 b5 r5 => R.xc x c dd σ5 δ5 B5 H5 h5 (b5.rebase Bo3.g) r5⟩
  · have ei : i = ds.length := by omega
    refine .inl ⟨w2 i (by omega), ?_⟩
    rw [ei, List.drop_length] at hl
    exact R.nx σ' δ' B2 Hc hl Bo
theorem s_for {tg iter : Expr} {body : List Stmt} {wi : TI} {fi : DI} {bd : Bool} {gt : TG} {f : DG} {ws : List Nat} (hp : PassesOwn (model X.prog X.w) X.A X.env X.xe) (hi : IOk X W tg iter wi fi bd) (hg : GOk X ws tg gt f) (hb : SsOk X W body t g)
    (hc : X.calm = true := by rfl) (hs : ∀ x, foldedSetIterable iter X.env x = pure x := by intro _; rfl) : SOk X W (.For tg iter body [] pos) (tFor wi gt t) (dFor fi f g) := ⟨ps_for hp hc hi.pi hg.pg hb.pss hs, sr_for hi.ir hg.gr hb.sr⟩
def dWhile (c : DT) (g : DSt) : DSt := fun F δ => ∃ P : Nat → Env → Prop, (∃ m, P m δ) ∧ ∀ m δ, P m δ →
  c δ (fun b => if b = true then g { F with nx := fun δ' => ∃ m', m' < m ∧ P m' δ', ct := fun δ' => ∃ m', m' < m ∧ P m' δ', bk := F.nx } δ else F.nx δ) fun x => F.xc x δ
theorem s_while {c : Expr} {body : List Stmt} {tc : TT} {fc : DT} (hp : PassesOwn (model X.prog X.w) X.A X.env X.xe) (hc : TOk X W c tc fc) (hb : SsOk X W body t g) : SOk X W (.While c body [] pos) (tWhile tc t) (dWhile fc g) := by
  refine ⟨ps_while hp hc.pt hb.pss, ?_⟩
  intro Hb0 H0 Hb H σ δ E F B hh R
  obtain ⟨P, ⟨m0, p0⟩, step⟩ := hh
  refine ⟨fun m σ' H' => ∃ (B' : Hp) (δ' : Env), Body X.K Hb0 H0 B' H' σ' δ' ∧ P m δ', ⟨m0, Hb, δ, B, p0⟩, ?_⟩
  rintro m σ' Hc ⟨B1, δ', Bo, p⟩
  refine hc.tr H0 B1 Hc σ' δ' _ _ _ Bo.s Bo.g.sub (step m δ' p) (fun b B2 C2 h2 g2 => ?_) (R.xw Bo)
  have Bo2 := Bo.grow g2
  cases b with
  | false =>
    rw [if_neg Bool.false_ne_true] at h2 ⊢
    exact R.nx σ' δ' B2 C2 h2 Bo2
  | true =>
    rw [if_pos rfl] at h2 ⊢
    refine ⟨fun σ5 H5 => ∃ m', m' < m ∧ ∃ (B5 : Hp) (δ5 : Env), Body X.K Hb0 H0 B5 H5 σ5 δ5 ∧ P m' δ5, fun σ5 H5 z => z, ?_⟩
    have go : ∀ (σ5 : St) (δ5 : Env) (B5 H5 : Hp), (∃ m', m' < m ∧ P m' δ5) → Body X.K Hb0 H0 B5 H5 σ5 δ5 → ∃ m', m' < m ∧ ∃ (B5 : Hp) (δ5 : Env), Body X.K Hb0 H0 B5 H5 σ5 δ5 ∧ P m' δ5 := fun σ5 δ5 B5 H5 ⟨m', hm, p5⟩ b5 => ⟨m', hm, B5, δ5, b5, p5⟩
    exact hb.sr Hb0 H0 B2 C2 σ' δ' _ _ Bo2 h2 ⟨go, R.rt, R.nx, go, R.xc⟩
end

/-! ### defs -/
/-- the slots at the entry -/
def dstart (N : List Str) (ds : List D) : Env := ds.map DS.val ++ List.replicate (N.length - ds.length) .no
theorem slots_start {K : PySem.W.Frag} {Hb H : Hp} {N : List Str} {vs : List V} {ds : List D} (r : DRs K Hb vs ds) : Slots K H Hb H (start N vs) (dstart N ds) := by
  have hl := r.length
  have key : ∀ (i : Nat) (s : DS), (dstart N ds)[i]? = some s → s = .no ∨ ∃ d v, s = .val d ∧ (start N vs)[i]? = some (some v) ∧ DR K Hb v d := fun i s e => by
    unfold dstart at e
    unfold start
    by_cases hi : i < ds.length
    · rw [List.getElem?_append_left (by simpa using hi), List.getElem?_map] at e
      cases z : ds[i]? with
      | none => rw [z] at e; cases e
      | some d =>
        rw [z] at e
        obtain ⟨v, hv, rv⟩ := r.get' z
        injection e with e
        refine .inr ⟨d, v, e.symm, ?_, rv⟩
        rw [List.getElem?_append_left (by rw [List.length_map]; omega), List.getElem?_map, hv]
        rfl
    · rw [List.getElem?_append_right (by simpa using Nat.le_of_not_lt hi), List.getElem?_replicate] at e
      split at e
      · injection e with e; exact .inl e.symm
      · cases e
  refine ⟨by unfold start dstart; simp [hl], fun i d e => ?_, fun i d e => ?_, fun i j d1 d2 l hne e1 e2 e3 e4 => ?_⟩
  · rcases key i _ e with z | ⟨d', v, z, h1, h2⟩
    · cases z
    · cases z; exact ⟨v, h1, h2⟩
  · rcases key i _ e with z | ⟨d', v, z, h1, h2⟩ <;> cases z
  · rcases key i _ e1 with z | ⟨d', v, z, h1, h2⟩ <;> cases z
/-- the body's reading over data is what F promises -/
def Does (N ps : List Str) (F : FD) (g : DSt) : Prop := ∀ (ds : List D) (Q : DP) (Xd : XP), F ds Q Xd → ds.length = ps.length ∧ g { nx := fun _ => Q .non, rt := Q, xc := fun x _ => Xd x } (dstart N ds)
section
variable {P : Program} {w : World} {K : PySem.W.Frag} {mg : Str → Option Value} {base : Heap}
theorem spD_len {F : FD} {ps : List Str} (h : ∀ (ds : List D) (Q : DP) (Xd : XP), F ds Q Xd → ds.length = ps.length) : ∀ vs H Q E, spD K F vs H Q E → vs.length = ps.length := fun vs H Q E ⟨Hb, ds, Qd, Xd, _, r, f, _⟩ => by rw [r.length]; exact h ds Qd Xd f
/-- a def of the text that lets nothing out -/
theorem def_ok {x qual : Str} {params : Arguments} {body : List Stmt} {scope : Scope} {dvs : List V} {kws : List (Str × V)} {f : Addr} {fd : FuncData} {N ps : List Str} {k : Nat} {F : FD} (Fn : FunD K x qual params body scope dvs kws f fd) (S : FnScope N ps scope) (g : DSt) (hF : Does N ps F g)
    (hbody : ∀ (cdv : Value) (A : Around) (outer : List PySem.Env) (s : Shared) (H : Hp), Room k (A.deeper (envOfC qual scope s.heap.objs.size f cdv)) → ∃ t, SsOk (cxOf CX0 P w K mg base N qual scope f cdv A outer s H E0).nox W0 body t g)
    (hx : ∀ (ds : List D) (Q : DP) (Xd : XP), F ds Q Xd → F ds Q fun _ => False) : FnOk P w K mg base CX0 (k + 1) f fd ps (spD K F) := by
  refine FunD.ok Fn S (spD_len fun ds Q Xd h => (hF ds Q Xd h).1) fun cdv A outer s H vs Q E hr h => ?_
  obtain ⟨Hb, ds, Qd, Xd, e, r, f, q, _⟩ := h
  obtain ⟨t, ht⟩ := hbody cdv A outer s H hr
  refine ⟨t, PSs.nox ht.pss, ?_⟩
  · refine ht.sr Hb H Hb H _ _ _ _ ⟨Grow.refl e, slots_start r⟩ (hF ds Qd _ (hx ds Qd Xd f)).2 ⟨fun σ δ B C h1 b1 => ?_, fun d v B C h1 g1 r1 => q d v B C h1 g1 r1, fun _ _ _ _ z => z.elim, fun _ _ _ _ z => z.elim, fun _ _ _ _ _ _ _ z => z.elim⟩
    exact q .non .non B C h1 b1.g .non
end
/-- a def with a promise that nobody can ask -/
theorem fnok_false {P : Program} {w : World} {K : PySem.W.Frag} {mg : Str → Option Value} {base : Heap} {f : Addr} {fd : FuncData} {ps : List Str} (k : Nat) : FnOk P w K mg base CX0 k f fd ps (spD K fun _ _ _ => False) :=
  ⟨fun _ _ _ _ ⟨_, _, _, _, _, _, z, _⟩ => z.elim, fun _ _ _ _ _ _ _ _ _ _ _ _ _ ⟨_, _, _, _, _, _, z, _⟩ => z.elim⟩
theorem fund_mk {K : PySem.W.Frag} {x qual : Str} {params : Arguments} {body : List Stmt} {scope : Scope} {f : Addr} {oc : Value} {od an : Option Addr} {osl : Array (Option Value)} {kV doc pm cdv ct : Value}
    (l : K.lookup f = some ⟨oc, od, .func (PySem.W.fnOf x qual params body scope .none kV doc pm an cdv ct), osl⟩) (c : PySem.W.codeIn K cdv qual = true) (k : PySem.W.keepIn K (.ref f) = true) :
    FunD K x qual params body scope [] [] f (PySem.W.fnOf x qual params body scope .none kV doc pm an cdv ct) := ⟨⟨oc, od, .none, kV, doc, pm, an, cdv, ct, osl, rfl, l, c, .inl ⟨rfl, rfl⟩, .inl rfl⟩, k⟩
theorem fund_mkK {K : PySem.W.Frag} {x qual : Str} {params : Arguments} {body : List Stmt} {scope : Scope} {kws : List (Str × V)} {f D : Addr} {oc : Value} {od an : Option Addr} {osl : Array (Option Value)} {doc pm cdv ct : Value}
    (l : K.lookup f = some ⟨oc, od, .func (PySem.W.fnOf x qual params body scope .none (.ref D) doc pm an cdv ct), osl⟩) (c : PySem.W.codeIn K cdv qual = true) (k : PySem.W.keepIn K (.ref f) = true)
    (h : ∀ q ∈ kws, ∃ u, PySem.W.nsIn K D q.1 = some (some u) ∧ RelV q.2 u) : FunD K x qual params body scope [] kws f (PySem.W.fnOf x qual params body scope .none (.ref D) doc pm an cdv ct) :=
  ⟨⟨oc, od, .none, .ref D, doc, pm, an, cdv, ct, osl, rfl, l, c, .inl ⟨rfl, rfl⟩, .inr ⟨D, rfl, h⟩⟩, k⟩
end L2.DL

-- DLZ
set_option Elab.async false
set_option linter.all false
set_option maxRecDepth 100000
set_option maxHeartbeats 1000000
/-! # DL, zip of a list or tuple with a list or tuple (four kinds at once; true: a tuple) -/
namespace L2.DL
open PySem PySem.Spec PyProof.Rows
/-- its type's name, its iterator's -/
def sqN (k : Bool) : String := match k with | true => "tuple" | false => "list"
def sqI (k : Bool) : String := match k with | true => "tuple_iterator" | false => "list_iterator"
def IsSq (k : Bool) (h : Heap) (a : Addr) (xs : Array Value) : Prop := ∃ o, h.get? a = some o ∧ o.cls = .type (sqN k) ∧ ∃ n, o.data = .seq xs n
def IsSqI (k : Bool) (h : Heap) (a l : Addr) (i : Nat) : Prop := ∃ o, h.get? a = some o ∧ o.cls = .type (sqI k) ∧ o.data = .fields #[.ref l, .int i 0]
theorem IsSq.go {k : Bool} {h h' : Heap} {a b : Addr} {xs : Array Value} (x : IsSq k h a xs) (hs : Heap.ExtBut b h h') (ne : a ≠ b) : IsSq k h' a xs := by
  obtain ⟨o, e, r⟩ := x
  exact ⟨o, hs a o ne e, r⟩
theorem IsSqI.go {k : Bool} {h h' : Heap} {a b l : Addr} {i : Nat} (x : IsSqI k h a l i) (hs : Heap.ExtBut b h h') (ne : a ≠ b) : IsSqI k h' a l i := by
  obtain ⟨o, e, r⟩ := x
  exact ⟨o, hs a o ne e, r⟩
theorem IsSqI.by {k : Bool} {h h' : Heap} {a l : Addr} {i : Nat} (x : IsSqI k h a l i) (hk : ∀ o, h.get? a = some o → h'.get? a = some o) : IsSqI k h' a l i := by
  obtain ⟨o, e, r⟩ := x
  exact ⟨o, hk o e, r⟩
section
variable {prog : Program} {w : World} {A : Around} {E : Value → Shared → Prop} {s : Shared}
theorem sq_next {k : Bool} {it l : Addr} {i : Nat} {xs : Array Value} {x : Value} {Q : Value → Shared → Prop} (hit : IsSqI k s.heap it l i) (hl : IsSq k s.heap l xs) (hx : xs[i]? = some x)
    (hQ : ∀ h', IsSqI k h' it l (i + 1) → Heap.SameBut it s.heap h' → Q x { s with heap := h' }) : wpAny (model prog w) A (Builtin.SmallTypes.nextOf (.ref it)) Q E s := by
  cases k
  · exact wpAny_nextOf_list_item hit hl hx hQ
  · exact RZ.nextOf_tuple_item hit hl hx hQ
theorem sq_end {k : Bool} {it l : Addr} {i : Nat} {xs : Array Value} {Q : Value → Shared → Prop} (hh : A.handled = none) (hit : IsSqI k s.heap it l i) (hl : IsSq k s.heap l xs) (hx : xs[i]? = none)
    (hE : ∀ h' e, Heap.ExtBut it s.heap h' → (∃ o, h'.get? e = some o ∧ o.cls = .type "StopIteration") → E (.ref e) { s with heap := h' }) : wpAny (model prog w) A (Builtin.SmallTypes.nextOf (.ref it)) Q E s := by
  cases k
  · exact wpAny_nextOf_list_end hh hit hl hx hE
  · exact RZ.nextOf_tuple_end hh hit hl hx hE
/-- what neither the zip nor its parts are -/
abbrev Off (z TO i1 i2 : Addr) (h h' : Heap) : Prop := ∀ c o, c ≠ z → c ≠ TO → c ≠ i1 → c ≠ i2 → h.get? c = some o → h'.get? c = some o
variable {k1 k2 : Bool} {z TI TO i1 i2 l1 l2 : Addr} {n1 n2 : Nat} {xs ys : Array Value} {x y a b : Value}
theorem zg_item {Q : Value → Shared → Prop} (D : ZipApart z TI TO i1 i2 l1 l2) (hz : IsZip s.heap z TI TO .none) (hTI : IsPair s.heap TI (.ref i1) (.ref i2)) (hTO : IsPair s.heap TO a b)
    (h1 : IsSqI k1 s.heap i1 l1 n1) (h2 : IsSqI k2 s.heap i2 l2 n2) (q1 : IsSq k1 s.heap l1 xs) (q2 : IsSq k2 s.heap l2 ys) (hx : xs[n1]? = some x) (hy : ys[n2]? = some y)
    (hQ : ∀ h', IsZip h' z TI TO (rawInt s.heap.objs.size) → IsPair h' TO x y → IsSqI k1 h' i1 l1 (n1 + 1) → IsSqI k2 h' i2 l2 (n2 + 1) → IsPair h' s.heap.objs.size x y → h'.objs.size = s.heap.objs.size + 1 → Off z TO i1 i2 s.heap h' → Q (.ref s.heap.objs.size) { s with heap := h' }) :
    wpAny (model prog w) A (Builtin.«zip.__next__» ⟨[.ref z], []⟩) (fun fin s' => ∃ v, fin = .done (.ret v) ∧ Q v s') E s := by
  show wpAny _ _ (field (.ref z) 2 >>= _) _ _ _
  refine (wpAny_bind (wpAny_field hz rfl (x := .bool false) rfl ?_)); show wpAny _ _ (field (.ref z) 3 >>= _) _ _ _
  refine (wpAny_bind (wpAny_field hz rfl (x := .ref TI) rfl ?_)); refine (wpAny_bind (wpAny_seqItems hTI rfl ?_))
  show wpAny _ _ (Builtin.SmallTypes.ownedTupleIsFree (.ref z) >>= _) _ _ _
  refine wpAny_bind ?_; unfold Builtin.SmallTypes.ownedTupleIsFree
  refine (wpAny_bind (wpAny_field hz rfl (x := .none) rfl (wpAny_pure ?_))); simp only [if_true]
  refine wpAny_bind (wpAny_rule ?_); refine (wpAny_bind (wpAny_field hz rfl (x := .ref TO) rfl ?_))
  refine (wpAny_bind (wpAny_setField_rec hz (by simp) fun g1 z1 s1 => ?_))
  have z1 : IsZip g1 z TI TO .ellipsis := z1
  refine wpAny_bind ?_
  simp only [List.zipIdx_cons, List.zipIdx_nil, List.forIn_cons, List.forIn_nil]
  -- the first one's item
  refine (wpAny_bind (wpAny_bind (wpAny_onRaise ?_))); show wpAny _ _ (Builtin.SmallTypes.nextOf (.ref i1) >>= _) _ _ _
  refine wpAny_bind (sq_next (h1.go s1.extBut D.i1z) (q1.go s1.extBut D.l1z) hx fun g2 a2 s2 => wpAny_pure ?_)
  have t2 : IsPair g2 TO a b := s2.extBut _ _ D.TOi1 (s1.extBut _ _ D.TOz hTO)
  refine (wpAny_bind (wpAny_seqItems t2 rfl ?_)); refine wpAny_bind (wpAny_updateSeq_pair t2 fun g3 t3 s3 => ?_)
  have t3 : IsPair g3 TO x b := t3
  refine (wpAny_bind (wpAny_letGo (wpAny_pure ?_)))
  -- the second one's
  refine (wpAny_bind (wpAny_bind (wpAny_onRaise ?_))); show wpAny _ _ (Builtin.SmallTypes.nextOf (.ref i2) >>= _) _ _ _
  refine wpAny_bind (sq_next (((h2.go s1.extBut D.i2z).go s2.extBut D.i12.symm).go s3.extBut D.TOi2.symm) (((q2.go s1.extBut D.l2z).go s2.extBut D.l2i1).go s3.extBut D.l2TO) hy fun g4 a4 s4 => wpAny_pure ?_)
  have t4 : IsPair g4 TO x b := s4.extBut _ _ D.TOi2 t3
  refine (wpAny_bind (wpAny_seqItems t4 rfl ?_)); refine wpAny_bind (wpAny_updateSeq_pair t4 fun g5 t5 s5 => ?_)
  have t5 : IsPair g5 TO x y := t5
  refine (wpAny_bind (wpAny_letGo (wpAny_pure (wpAny_pure ?_))))
  refine (wpAny_bind (wpAny_seqItems t5 rfl ?_)); refine wpAny_bind (wpAny_newTuple ?_)
  have hsz : g5.objs.size = s.heap.objs.size := by rw [s5.1, s4.1, s3.1, s2.1, s1.1]
  have z5 : IsZip g5 z TI TO .ellipsis := s5.extBut _ _ D.TOz.symm (s4.extBut _ _ D.i2z.symm (s3.extBut _ _ D.TOz.symm (s2.extBut _ _ D.i1z.symm z1)))
  have off : Off z TO i1 i2 s.heap g5 := fun c o c1 c2 c3 c4 e => s5.extBut _ _ c2 (s4.extBut _ _ c4 (s3.extBut _ _ c2 (s2.extBut _ _ c3 (s1.extBut _ _ c1 e))))
  have b1 : IsSqI k1 g5 i1 l1 (n1 + 1) := ((a2.go s3.extBut D.TOi1.symm).go s4.extBut D.i12).go s5.extBut D.TOi1.symm
  have b2 : IsSqI k2 g5 i2 l2 (n2 + 1) := a4.go s5.extBut D.TOi2.symm
  have zl : z < g5.objs.size := Heap.lt_size z5
  show wpAny _ _ (Builtin.SmallTypes.ownedTupleHandOut (.ref z) (.ref g5.objs.size) >>= _) _ _ _
  refine wpAny_bind ?_; unfold Builtin.SmallTypes.ownedTupleHandOut
  have z6 : IsZip (g5.push { cls := .type "tuple", data := .seq #[x, y] }) z TI TO .ellipsis := Heap.get?_push_of_some _ z5
  refine (wpAny_bind (wpAny_setField_rec z6 (by simp) fun g7 z7 s7 => ?_))
  have z7 : IsZip g7 z TI TO (rawInt g5.objs.size) := z7
  refine (wpAny_setField_rec z7 (by simp) fun g8 z8 s8 => ?_)
  have z8 : IsZip g8 z TI TO (rawInt g5.objs.size) := z8
  have up : ∀ c o, c ≠ z → g5.get? c = some o → g8.get? c = some o := fun c o c1 e => s8.extBut _ _ c1 (s7.extBut _ _ c1 (Heap.get?_push_of_some _ e))
  have t8 : IsPair g8 g5.objs.size x y := s8.extBut _ _ (Nat.ne_of_gt zl) (s7.extBut _ _ (Nat.ne_of_gt zl) (Heap.get?_push_size _ rfl))
  have sz8 : g8.objs.size = g5.objs.size + 1 := by rw [s8.1, s7.1, Heap.size_push]
  rw [hsz] at z8 t8 sz8
  refine wpAny_pure ⟨_, rfl, ?_⟩
  show Q (.ref g5.objs.size) _
  rw [hsz]
  exact hQ g8 z8 (up _ _ D.TOz t5) (b1.by fun o e => up _ o D.i1z e) (b2.by fun o e => up _ o D.i2z e) t8 sz8 fun c o c1 c2 c3 c4 e => up c o c1 (off c o c1 c2 c3 c4 e)
theorem zg_end {Q : Fin → Shared → Prop} (hh : A.handled = none) (D : ZipApart z TI TO i1 i2 l1 l2) (hz : IsZip s.heap z TI TO .none) (hTI : IsPair s.heap TI (.ref i1) (.ref i2)) (hTO : IsPair s.heap TO a b)
    (h1 : IsSqI k1 s.heap i1 l1 n1) (h2 : IsSqI k2 s.heap i2 l2 n2) (q1 : IsSq k1 s.heap l1 xs) (q2 : IsSq k2 s.heap l2 ys) (hend : xs[n1]? = none ∨ ys[n2]? = none)
    (hE : ∀ h' e, Off z TO i1 i2 s.heap h' → (∃ o, h'.get? e = some o ∧ o.cls = .type "StopIteration") → E (.ref e) { s with heap := h' }) : wpAny (model prog w) A (Builtin.«zip.__next__» ⟨[.ref z], []⟩) Q E s := by
  show wpAny _ _ (field (.ref z) 2 >>= _) _ _ _
  refine (wpAny_bind (wpAny_field hz rfl (x := .bool false) rfl ?_)); show wpAny _ _ (field (.ref z) 3 >>= _) _ _ _
  refine (wpAny_bind (wpAny_field hz rfl (x := .ref TI) rfl ?_)); refine (wpAny_bind (wpAny_seqItems hTI rfl ?_))
  show wpAny _ _ (Builtin.SmallTypes.ownedTupleIsFree (.ref z) >>= _) _ _ _
  refine wpAny_bind ?_; unfold Builtin.SmallTypes.ownedTupleIsFree
  refine (wpAny_bind (wpAny_field hz rfl (x := .none) rfl (wpAny_pure ?_))); simp only [if_true]
  refine wpAny_bind (wpAny_rule ?_); refine (wpAny_bind (wpAny_field hz rfl (x := .ref TO) rfl ?_))
  refine (wpAny_bind (wpAny_setField_rec hz (by simp) fun g1 z1 s1 => ?_))
  have z1 : IsZip g1 z TI TO .ellipsis := z1
  refine wpAny_bind ?_
  simp only [List.zipIdx_cons, List.zipIdx_nil, List.forIn_cons, List.forIn_nil]
  refine (wpAny_bind (wpAny_bind (wpAny_onRaise ?_))); show wpAny _ _ (Builtin.SmallTypes.nextOf (.ref i1) >>= _) _ _ _
  cases hx : xs[n1]? with
  | none =>
    refine wpAny_bind (sq_end hh (h1.go s1.extBut D.i1z) (q1.go s1.extBut D.l1z) hx fun g2 e s2 he => ?_)
    obtain ⟨oe, e1, e2⟩ := he
    have z2 : IsZip g2 z TI TO .ellipsis := s2 _ _ D.i1z.symm z1
    have ez : e ≠ z := by
      rintro rfl
      rw [z2] at e1; cases e1; simp at e2
    exact wpAny_setField_rec z2 (by simp) fun g3 _ s3 => hE g3 e (fun c o c1 _ c3 _ q => s3.extBut _ _ c1 (s2 _ _ c3 (s1.extBut _ _ c1 q))) ⟨oe, s3.extBut _ _ ez e1, e2⟩
  | some x =>
    have hy : ys[n2]? = none := by
      rcases hend with q | q
      · rw [hx] at q; cases q
      · exact q
    refine wpAny_bind (sq_next (h1.go s1.extBut D.i1z) (q1.go s1.extBut D.l1z) hx fun g2 a2 s2 => wpAny_pure ?_)
    have t2 : IsPair g2 TO a b := s2.extBut _ _ D.TOi1 (s1.extBut _ _ D.TOz hTO)
    refine (wpAny_bind (wpAny_seqItems t2 rfl ?_)); refine wpAny_bind (wpAny_updateSeq_pair t2 fun g3 t3 s3 => ?_)
    refine (wpAny_bind (wpAny_letGo (wpAny_pure ?_)))
    refine (wpAny_bind (wpAny_bind (wpAny_onRaise ?_))); show wpAny _ _ (Builtin.SmallTypes.nextOf (.ref i2) >>= _) _ _ _
    refine wpAny_bind (sq_end hh (((h2.go s1.extBut D.i2z).go s2.extBut D.i12.symm).go s3.extBut D.TOi2.symm) (((q2.go s1.extBut D.l2z).go s2.extBut D.l2i1).go s3.extBut D.l2TO) hy fun g4 e s4 he => ?_)
    obtain ⟨oe, e1, e2⟩ := he
    have z4 : IsZip g4 z TI TO .ellipsis := s4 _ _ D.i2z.symm (s3.extBut _ _ D.TOz.symm (s2.extBut _ _ D.i1z.symm z1))
    have ez : e ≠ z := by
      rintro rfl
      rw [z4] at e1; cases e1; simp at e2
    exact wpAny_setField_rec z4 (by simp) fun g5 _ s5 => hE g5 e (fun c o c1 c2 c3 c4 q => s5.extBut _ _ c1 (s4 _ _ c4 (s3.extBut _ _ c2 (s2.extBut _ _ c3 (s1.extBut _ _ c1 q))))) ⟨oe, s5.extBut _ _ ez e1, e2⟩
theorem zg_pyitem {Q : Option Value → Shared → Prop} (D : ZipApart z TI TO i1 i2 l1 l2) (hz : IsZip s.heap z TI TO .none) (hTI : IsPair s.heap TI (.ref i1) (.ref i2)) (hTO : IsPair s.heap TO a b)
    (h1 : IsSqI k1 s.heap i1 l1 n1) (h2 : IsSqI k2 s.heap i2 l2 n2) (q1 : IsSq k1 s.heap l1 xs) (q2 : IsSq k2 s.heap l2 ys) (hx : xs[n1]? = some x) (hy : ys[n2]? = some y)
    (hQ : ∀ h', IsZip h' z TI TO (rawInt s.heap.objs.size) → IsPair h' TO x y → IsSqI k1 h' i1 l1 (n1 + 1) → IsSqI k2 h' i2 l2 (n2 + 1) → IsPair h' s.heap.objs.size x y → h'.objs.size = s.heap.objs.size + 1 → Off z TO i1 i2 s.heap h' → Q (some (.ref s.heap.objs.size)) { s with heap := h' }) :
    wpAny (model prog w) A (pyNext (.ref z)) Q E s := by
  have ty : s.TypeIs (.ref z) "zip" := ⟨_, hz, rfl⟩
  unfold pyNext
  refine wpAny_bind (wpAny_attempt (wpAny_callSpecial?_slot (name := Str.ofString "__next__") ty F.slot_zip_next (wpAny_call_entry F.slot_zip_next ty F.entry_zip_next ?_ (F.args_zip_next_1 _))))
  exact zg_item D hz hTI hTO h1 h2 q1 q2 hx hy fun h' a1 a2 a3 a4 a5 a6 a7 => wpAny_pure (hQ h' a1 a2 a3 a4 a5 a6 a7)
theorem zg_pyend {Q : Option Value → Shared → Prop} (hh : A.handled = none) (D : ZipApart z TI TO i1 i2 l1 l2) (hz : IsZip s.heap z TI TO .none) (hTI : IsPair s.heap TI (.ref i1) (.ref i2)) (hTO : IsPair s.heap TO a b)
    (h1 : IsSqI k1 s.heap i1 l1 n1) (h2 : IsSqI k2 s.heap i2 l2 n2) (q1 : IsSq k1 s.heap l1 xs) (q2 : IsSq k2 s.heap l2 ys) (hend : xs[n1]? = none ∨ ys[n2]? = none)
    (hQ : ∀ h', Off z TO i1 i2 s.heap h' → Q none { s with heap := h' }) : wpAny (model prog w) A (pyNext (.ref z)) Q E s := by
  have ty : s.TypeIs (.ref z) "zip" := ⟨_, hz, rfl⟩
  unfold pyNext
  refine wpAny_bind (wpAny_attempt (wpAny_callSpecial?_slot (name := Str.ofString "__next__") ty F.slot_zip_next (wpAny_call_entry F.slot_zip_next ty F.entry_zip_next ?_ (F.args_zip_next_1 _))))
  refine zg_end hh D hz hTI hTO h1 h2 q1 q2 hend fun h' e hk he => ?_
  obtain ⟨o, e1, e2⟩ := he
  exact wpAny_bind (wpAny_isInstance (T := "StopIteration") (b := true) ⟨o, e1, e2⟩ isSubtype_stop (wpAny_pure (hQ _ hk)))
end
abbrev zg1 (k1 : Bool) (h : Heap) (l1 : Addr) : Heap := h.push { cls := .type (sqI k1), data := .fields #[.ref l1, .int 0 0] }
abbrev zg2 (k1 k2 : Bool) (h : Heap) (l1 l2 : Addr) : Heap := (zg1 k1 h l1).push { cls := .type (sqI k2), data := .fields #[.ref l2, .int 0 0] }
abbrev zg3 (k1 k2 : Bool) (h : Heap) (l1 l2 : Addr) : Heap := (zg2 k1 k2 h l1 l2).push { cls := .type "tuple", data := .seq #[.ref h.objs.size, .ref (zg1 k1 h l1).objs.size] }
abbrev zg4 (k1 k2 : Bool) (h : Heap) (l1 l2 : Addr) : Heap := (zg3 k1 k2 h l1 l2).push { cls := .type "tuple", data := .seq #[.none, .none] }
abbrev zg5 (k1 k2 : Bool) (h : Heap) (l1 l2 : Addr) : Heap := (zg4 k1 k2 h l1 l2).push { cls := .type "zip", data := .fields #[.none, .bool false, .bool false, .ref (zg2 k1 k2 h l1 l2).objs.size, .ref (zg3 k1 k2 h l1 l2).objs.size] }
theorem meets_zgLT (l1 l2 : Addr) (xs ys : Array Value) : Meets (Builtin.«zip.__new__» ⟨[.type "zip", .ref l1, .ref l2], []⟩)
    (fun _ R s => s.heap.IsList l1 xs ∧ s.heap.IsTuple l2 ys ∧ R (.ok (.ret (.ref (zg4 false true s.heap l1 l2).objs.size))) { s with heap := zg5 false true s.heap l1 l2 }) :=
  .of_wp fun prog w A R s h => by
    obtain ⟨hp, g, d, tk, os⟩ := s
    obtain ⟨hl1, hl2, h⟩ := h
    have hsub := sub_zip
    have p1 : Heap.IsList (Shared.heap ⟨hp, g, d, tk, os⟩) l1 xs := hl1
    have p2 : Heap.IsTuple (Shared.heap ⟨hp.push { cls := .type "list_iterator", data := .fields #[.ref l1, .int 0 0] }, g, d, tk, os⟩) l2 ys := Heap.IsTuple.push hl2 _
    wp_walk using wpAny_pyIter_list p1, wpAny_pyIter_tuple p2
    exact ⟨_, rfl, h⟩
theorem meets_zgTL (l1 l2 : Addr) (xs ys : Array Value) : Meets (Builtin.«zip.__new__» ⟨[.type "zip", .ref l1, .ref l2], []⟩)
    (fun _ R s => s.heap.IsTuple l1 xs ∧ s.heap.IsList l2 ys ∧ R (.ok (.ret (.ref (zg4 true false s.heap l1 l2).objs.size))) { s with heap := zg5 true false s.heap l1 l2 }) :=
  .of_wp fun prog w A R s h => by
    obtain ⟨hp, g, d, tk, os⟩ := s
    obtain ⟨hl1, hl2, h⟩ := h
    have hsub := sub_zip
    have p1 : Heap.IsTuple (Shared.heap ⟨hp, g, d, tk, os⟩) l1 xs := hl1
    have p2 : Heap.IsList (Shared.heap ⟨hp.push { cls := .type "tuple_iterator", data := .fields #[.ref l1, .int 0 0] }, g, d, tk, os⟩) l2 ys := Heap.IsList.push hl2 _
    wp_walk using wpAny_pyIter_tuple p1, wpAny_pyIter_list p2
    exact ⟨_, rfl, h⟩
theorem meets_zg (k1 k2 : Bool) (l1 l2 : Addr) (xs ys : Array Value) : Meets (Builtin.«zip.__new__» ⟨[.type "zip", .ref l1, .ref l2], []⟩)
    (fun _ R s => IsSq k1 s.heap l1 xs ∧ IsSq k2 s.heap l2 ys ∧ R (.ok (.ret (.ref (zg4 k1 k2 s.heap l1 l2).objs.size))) { s with heap := zg5 k1 k2 s.heap l1 l2 }) :=
  match k1, k2 with
  | false, false => meets_zip_new l1 l2 xs ys
  | true, true => RZ.meets_zipT_new l1 l2 xs ys
  | false, true => meets_zgLT l1 l2 xs ys
  | true, false => meets_zgTL l1 l2 xs ys
section
variable {prog : Program} {w : World} {A : Around} {E : Value → Shared → Prop} {s : Shared}
theorem call_zg {k1 k2 : Bool} {l1 l2 : Addr} {xs ys : Array Value} {Q : Value → Shared → Prop} (q1 : IsSq k1 s.heap l1 xs) (q2 : IsSq k2 s.heap l2 ys)
    (h : ∀ h', IsZip h' (s.heap.objs.size + 4) (s.heap.objs.size + 2) (s.heap.objs.size + 3) .none → IsPair h' (s.heap.objs.size + 2) (.ref s.heap.objs.size) (.ref (s.heap.objs.size + 1)) →
      IsPair h' (s.heap.objs.size + 3) .none .none → IsSqI k1 h' s.heap.objs.size l1 0 → IsSqI k2 h' (s.heap.objs.size + 1) l2 0 → (∀ c o, s.heap.get? c = some o → h'.get? c = some o) → Q (.ref (s.heap.objs.size + 4)) { s with heap := h' }) :
    wpAny (model prog w) A (call (.type "zip") [.ref l1, .ref l2]) Q E s := by
  refine callType_new F.called_zip (by decide) (F.typeCall_zip_2 _ _) (F.newCall_zip_2 _ _) (fun obj => F.args_object_init_3 obj _ _) F.entry_zip_new (meets_zg k1 k2 l1 l2 xs ys) ⟨q1, q2, ?_⟩
  have e1 : (zg1 k1 s.heap l1).objs.size = s.heap.objs.size + 1 := Heap.size_push ..
  have e2 : (zg2 k1 k2 s.heap l1 l2).objs.size = s.heap.objs.size + 2 := by rw [Heap.size_push, e1]
  have e3 : (zg3 k1 k2 s.heap l1 l2).objs.size = s.heap.objs.size + 3 := by rw [Heap.size_push, e2]
  have e4 : (zg4 k1 k2 s.heap l1 l2).objs.size = s.heap.objs.size + 4 := by rw [Heap.size_push, e3]
  have g5 : (zg5 k1 k2 s.heap l1 l2).get? (zg4 k1 k2 s.heap l1 l2).objs.size = some _ := Heap.get?_push_size _ rfl
  have g4 : (zg5 k1 k2 s.heap l1 l2).get? (zg3 k1 k2 s.heap l1 l2).objs.size = some _ := Heap.get?_push_of_some _ (Heap.get?_push_size _ rfl)
  have g3 : (zg5 k1 k2 s.heap l1 l2).get? (zg2 k1 k2 s.heap l1 l2).objs.size = some _ := Heap.get?_push_of_some _ (Heap.get?_push_of_some _ (Heap.get?_push_size _ rfl))
  have g2 : (zg5 k1 k2 s.heap l1 l2).get? (zg1 k1 s.heap l1).objs.size = some _ := Heap.get?_push_of_some _ (Heap.get?_push_of_some _ (Heap.get?_push_of_some _ (Heap.get?_push_size _ rfl)))
  have g1 : (zg5 k1 k2 s.heap l1 l2).get? s.heap.objs.size = some _ := Heap.get?_push_of_some _ (Heap.get?_push_of_some _ (Heap.get?_push_of_some _ (Heap.get?_push_of_some _ (Heap.get?_push_size _ rfl))))
  show _ ∧ _
  rw [e2, e3, e4] at g5
  rw [e1, e2] at g3
  rw [e3] at g4
  rw [e1] at g2
  rw [e4]
  exact ⟨⟨_, g5, rfl⟩, h _ g5 g3 g4 ⟨_, g1, rfl, rfl⟩ ⟨_, g2, rfl, rfl⟩ fun c o q => Heap.get?_push_of_some _ (Heap.get?_push_of_some _ (Heap.get?_push_of_some _ (Heap.get?_push_of_some _ (Heap.get?_push_of_some _ q))))⟩
end
/-! ### the walk -/
/-- a list or a tuple, to be read -/
def SqG (k : Bool) (K : PySem.W.Frag) (H : Hp) (a : Addr) (xs : List V) : Prop := match k with | true => SqT K H a xs | false => SqL K H a xs
theorem sqG_is {X : Cx} {pins : List (Addr × Obj)} {σ : St} {H : Hp} {s : Shared} {k : Bool} {a : Addr} {xs : List V} (I : Inv X pins σ H s) (h : SqG k X.K H a xs) : ∃ its : List Value, Vals xs its ∧ IsSq k s.heap a its.toArray := by
  cases k
  · obtain ⟨its, r, p, _⟩ := I.list h
    exact ⟨its, r, p.isList⟩
  · obtain ⟨its, r, p, _⟩ := I.tuple h
    exact ⟨its, r, p⟩
theorem sqG_inj {X : Cx} {pins : List (Addr × Obj)} {σ : St} {H : Hp} {s : Shared} {k : Bool} {a : Addr} {xs ys : List V} (I : Inv X pins σ H s) (h : SqG k X.K H a xs) (h' : SqG k X.K H a ys) : xs = ys := by
  cases k
  · exact I.list_inj h h'
  · exact I.tuple_inj h h'
def ItzG (k1 k2 : Bool) (K : PySem.W.Frag) (a b : Addr) : It :=
  ⟨fun i H => ∃ (xs ys : List V) (x y : V), SqG k1 K H a xs ∧ SqG k2 K H b ys ∧ xs[i]? = some x ∧ ys[i]? = some y,
    fun i H v H' => ∃ T x y, v = .ref T ∧ H T = none ∧ H' = upd H T (.tup [x, y]) ∧ (∀ xs, SqG k1 K H a xs → xs[i]? = some x) ∧ ∀ ys, SqG k2 K H b ys → ys[i]? = some y,
    fun i H => ∃ xs ys : List V, SqG k1 K H a xs ∧ SqG k2 K H b ys ∧ (xs.length ≤ i ∨ ys.length ≤ i)⟩
theorem turn_zg {P : Program} {w : World} {K : PySem.W.Frag} {elts : List Expr} {kk : Nat} {tpos : Pos} {k1 k2 : Bool} {a b z TI TO i1 i2 : Addr} (D : ZipApart z TI TO i1 i2 a b) :
    Turn P w K (.Tuple elts kk tpos) (ItzG k1 k2 K a b) [z, TI, TO, i1, i2] z (fun i h => IsZip h z TI TO .none ∧ IsPair h TI (.ref i1) (.ref i2) ∧ (∃ x y, IsPair h TO x y) ∧ IsSqI k1 h i1 a i ∧ IsSqI k2 h i2 b i) where
  mem := by simp
  obj := fun i h st c hc => by
    obtain ⟨hz, hTI, ⟨x, y, hTO⟩, ⟨o1, e1, _, d1⟩, ⟨o2, e2, _, d2⟩⟩ := st
    simp only [List.mem_cons, List.not_mem_nil, or_false] at hc
    rcases hc with rfl | rfl | rfl | rfl | rfl
    · exact ⟨_, hz, fun v q => nomatch q⟩
    · exact ⟨_, hTI, fun v q => nomatch q⟩
    · exact ⟨_, hTO, fun v q => nomatch q⟩
    · exact ⟨o1, e1, fun v q => by rw [d1] at q; cases q⟩
    · exact ⟨o2, e2, fun v q => by rw [d2] at q; cases q⟩
  keep := fun i h h' st k => by
    obtain ⟨hz, hTI, ⟨x, y, hTO⟩, h1, h2⟩ := st
    exact ⟨k z (by simp) _ hz, k TI (by simp) _ hTI, ⟨x, y, k TO (by simp) _ hTO⟩, h1.by fun o q => k i1 (by simp) o q, h2.by fun o q => k i2 (by simp) o q⟩
  item := by
    intro X hP hw hK hc i pins s σ H E I hf st hg
    subst hP hw hK
    obtain ⟨hz, hTI, ⟨x0, y0, hTO⟩, h1, h2⟩ := st
    obtain ⟨xs, ys, x, y, hqx, hqy, hx, hy⟩ := hg
    obtain ⟨its, rv, p⟩ := sqG_is I hqx
    obtain ⟨its2, rv2, p2⟩ := sqG_is I hqy
    obtain ⟨u, hu, ru⟩ := rv.get hx
    obtain ⟨u2, hu2, ru2⟩ := rv2.get hy
    have zl : z < s.heap.objs.size := Heap.lt_size hz
    refine zg_pyitem D hz hTI hTO h1 h2 p p2 (x := u) (y := u2) (by simpa using hu) (by simpa using hu2) fun h' z' TO' h1' h2' hT hsz hk => ?_
    refine ⟨_, rfl, wpAny_letOwnedTupleGo_zip (s := { s with heap := h' }) z' fun h'' z'' sb => ?_⟩
    have hT2 : h''.get? s.heap.objs.size = some { cls := .type "tuple", data := .seq #[u, u2] } := (sb.2 _ (Nat.ne_of_gt zl)).trans hT
    have new : ObjOk X.prog X.w (upd H s.heap.objs.size (.tup [x, y])) h'' s.heap.objs.size (.tup [x, y]) := ⟨by show 2 ≤ sizeLine; decide, [u, u2], .cons ru (.cons ru2 .nil), ⟨_, hT2, rfl, _, rfl⟩⟩
    have off : ∀ c o, c ∉ [z, TI, TO, i1, i2] → s.heap.get? c = some o → h''.get? c = some o := fun c o hb q => by
      simp only [List.mem_cons, List.not_mem_nil, or_false, not_or] at hb
      exact (sb.2 c hb.1).trans (hk c o hb.1 hb.2.2.1 hb.2.2.2.1 hb.2.2.2.2 q)
    have I1 : Inv X pins σ (upd H s.heap.objs.size (.tup [x, y])) { s with heap := h'' } := I.turnedNew (t' := s.toks) (ch := [z, TI, TO, i1, i2]) off hf (Nat.le_refl _) new
    refine ⟨.ref s.heap.objs.size, _, I1, rfl, ⟨_, x, y, rfl, I.hok.fresh (Nat.le_refl _), rfl, fun l hl => by rw [sqG_inj I hl hqx]; exact hx, fun l hl => by rw [sqG_inj I hl hqy]; exact hy⟩, ⟨z'', ?_, ⟨u, u2, ?_⟩, ?_, ?_⟩, fun c hcm => ?_⟩
    · exact (sb.2 _ D.TIz).trans (hk _ _ D.TIz D.TITO D.TIi1 D.TIi2 hTI)
    · exact (sb.2 _ D.TOz).trans TO'
    · exact h1'.by fun o q => (sb.2 _ D.i1z).trans q
    · exact h2'.by fun o q => (sb.2 _ D.i2z).trans q
    · have hlt : c < s.heap.objs.size := by
        obtain ⟨_, e1, _⟩ := h1
        obtain ⟨_, e2, _⟩ := h2
        have hcm' := hcm
        simp only [List.mem_cons, List.not_mem_nil, or_false] at hcm'
        rcases hcm' with rfl | rfl | rfl | rfl | rfl
        · exact zl
        · exact Heap.lt_size hTI
        · exact Heap.lt_size hTO
        · exact Heap.lt_size e1
        · exact Heap.lt_size e2
      rw [upd_ne (Nat.ne_of_lt hlt)]
      exact (hf c hcm).1
  done := by
    intro X hP hw hK hc i pins s σ H E I hf st hg
    subst hP hw hK
    obtain ⟨hz, hTI, ⟨x0, y0, hTO⟩, h1, h2⟩ := st
    obtain ⟨xs, ys, hqx, hqy, hend⟩ := hg
    obtain ⟨its, rv, p⟩ := sqG_is I hqx
    obtain ⟨its2, rv2, p2⟩ := sqG_is I hqy
    have l1 := rv.length
    have l2 := rv2.length
    have he : its.toArray[i]? = none ∨ its2.toArray[i]? = none := by
      rcases hend with q | q
      · exact .inl (by simp; omega)
      · exact .inr (by simp; omega)
    refine zg_pyend (I.ok.hd hc) D hz hTI hTO h1 h2 p p2 he fun h' hk => ⟨rfl, I.turnedL (t' := s.toks) (ch := [z, TI, TO, i1, i2]) (fun c o hb q => ?_) hf⟩
    simp only [List.mem_cons, List.not_mem_nil, or_false, not_or] at hb
    exact hk c o hb.1 hb.2.2.1 hb.2.2.2.1 hb.2.2.2.2 q
  self := fun A i s Q E st h => wpAny_pyIter_zip st.1 h
def iZg (K : PySem.W.Frag) (ta : TA) : TI := fun σ H R => ta σ H fun vs H1 => ∃ k1 k2 a b xs ys, vs = [.ref a, .ref b] ∧ SqG k1 K H1 a xs ∧ SqG k2 K H1 b ys ∧ R (ItzG k1 k2 K a b) H1
theorem pi_zg {X : Cx} {e e2 : Expr} {ta : TA} {p pos tpos : Pos} {elts : List Expr} {kk : Nat} (hg : Gl X "zip") (hm : X.mg "zip" = none) (ha : PA X [e, e2] ta)
    (hs : starEach [e, e2] X.env = (false, eval e X.env) :: starEach [e2] X.env) (hpl : (backTo pos (starEach [e2] X.env)).any (·.1) = false) : PI X (.Tuple elts kk tpos) (.Call (.Name "zip" p) [e, e2] [] pos) (iZg X.K ta) := by
  refine ⟨fun pins s σ H R I h => ?_⟩
  refine Call_ (ld_blt I hg hm PyProof.Rows.boot_zip (PyProof.Rows.callWith_type1 (thn (ha.run pos pins s σ H _ I h) fun us s1 hh => ?_) hs hpl))
  obtain ⟨vs, H1, I1, r1, k1, k2, a, b, xs, ys, ex, hqx, hqy, q⟩ := hh
  subst ex
  cases r1 with
  | cons r rr =>
    cases rr with
    | cons r' rr =>
      cases rr; cases r; cases r'
      obtain ⟨its, rv, p1⟩ := sqG_is I1 hqx
      obtain ⟨its2, rv2, p2⟩ := sqG_is I1 hqy
      have la : a < s1.heap.objs.size := by obtain ⟨o, e, _⟩ := p1; exact Heap.lt_size e
      have lb : b < s1.heap.objs.size := by obtain ⟨o, e, _⟩ := p2; exact Heap.lt_size e
      refine call_zg p1 p2 fun h' hz hTI hTO h1 h2 hk => wpAny_pyIter_zip hz ?_
      have I2 : Inv X pins σ H1 { s1 with heap := h' } := I1.kept (t' := s1.toks) hk
      refine ⟨s1.heap.objs.size + 4, [s1.heap.objs.size + 4, s1.heap.objs.size + 2, s1.heap.objs.size + 3, s1.heap.objs.size, s1.heap.objs.size + 1], _, _, H1, rfl, I2, turn_zg (PySem.W.ktu_apart s1.heap.objs.size a b la lb), ⟨hz, hTI, ⟨_, _, hTO⟩, h1, h2⟩, fun c hcm => ?_, q⟩
      have hle : s1.heap.objs.size ≤ c := by
        simp only [List.mem_cons, List.not_mem_nil, or_false] at hcm
        rcases hcm with z | z | z | z | z <;> rw [z] <;> first | exact Nat.le_add_right _ _ | exact Nat.le_refl _
      exact I1.fpOk hle (I1.hok.fresh hle)
theorem SqG.up {k : Bool} {K : PySem.W.Frag} {H H' : Hp} {a : Addr} {xs : List V} (e : Same H H') (h : SqG k K H a xs) : SqG k K H' a xs := by
  cases k
  · exact e.seq h
  · have h : SqT K H a xs := h
    rcases h with (h | ⟨o, h⟩) | h
    · exact .inl (.inl (e _ _ h))
    · exact .inl (.inr ⟨o, e _ _ h⟩)
    · exact .inr h
/-- the pairs -/
def zipD (xs ys : List D) : List D := List.zipWith (fun x y => D.tup [x, y]) xs ys
theorem zipD_len (xs ys : List D) : (zipD xs ys).length = min xs.length ys.length := by simp [zipD]
theorem wk_zip {k1 k2 : Bool} {K : PySem.W.Frag} {Hb : Hp} {a b : Addr} {xs ys : List V} {ds es : List D} (h1 : SqG k1 K Hb a xs) (h2 : SqG k2 K Hb b ys) (r1 : DRs K Hb xs ds) (r2 : DRs K Hb ys es) : Wk K (ItzG k1 k2 K a b) Hb (zipD ds es) := by
  intro B H e1 e2
  have s1 := h1.up (e1.trans e2)
  have s2 := h2.up (e1.trans e2)
  refine ⟨fun i d hd => ?_, fun i hi => ⟨xs, ys, s1, s2, ?_⟩⟩
  · unfold zipD at hd
    rw [List.getElem?_zipWith] at hd
    cases z1 : ds[i]? with
    | none => rw [z1] at hd; simp at hd
    | some x =>
      cases z2 : es[i]? with
      | none => rw [z1, z2] at hd; simp at hd
      | some y =>
        rw [z1, z2] at hd
        have hd : D.tup [x, y] = d := by simpa using hd
        subst hd
        obtain ⟨v, hv, rv⟩ := r1.get' z1
        obtain ⟨u, hu, ru⟩ := r2.get' z2
        refine ⟨⟨xs, ys, v, u, s1, s2, hv, hu⟩, fun w H2 yl => ?_⟩
        obtain ⟨T, v', u', rfl, hT, rfl, f1, f2⟩ := yl
        have z3 := f1 xs s1
        rw [hv] at z3; injection z3 with z3; subst z3
        have z4 := f2 ys s2
        rw [hu] at z4; injection z4 with z4; subst z4
        refine ⟨upd B T (.tup [v, u]), Grow.lay e2 hT, .tup (.inl upd_same) (by show 2 ≤ sizeLine; decide) ?_⟩
        have up := same_lay (o := .tup [v, u]) e2 hT
        exact .cons (DR.up (e1.trans up) _ _ rv) (.cons (DR.up (e1.trans up) _ _ ru) .nil)
  · rw [zipD_len] at hi
    rw [r1.length, r2.length]
    omega
def dItm : D → Option (List D)
  | .lst ds => some ds
  | .frz ds => some ds
  | .tup ds => some ds
  | _ => none
theorem dItm_sq {K : PySem.W.Frag} {H : Hp} {v : V} {d : D} {ds : List D} (r : DR K H v d) (h : dItm d = some ds) : ∃ k a xs, v = .ref a ∧ SqG k K H a xs ∧ xs.length ≤ sizeLine ∧ DRs K H xs ds := by
  cases d with
  | lst ds' =>
    injection h with h; subst h
    cases r with
    | lst a1 a2 a3 => exact ⟨false, _, _, rfl, SqL.of a1, a2, a3⟩
  | frz ds' =>
    injection h with h; subst h
    cases r with
    | frz a1 a2 a3 => exact ⟨false, _, _, rfl, a1, a2, a3⟩
  | tup ds' =>
    injection h with h; subst h
    cases r with
    | tup a1 a2 a3 => exact ⟨true, _, _, rfl, a1.sq, a2, a3⟩
  | _ => cases h
def dZip (fr : DA) : DI := fun δ Q Xd => fr δ (fun ds => match ds with
  | [a, b] => ∃ xs ys, dItm a = some xs ∧ dItm b = some ys ∧ Q (zipD xs ys)
  | _ => False) Xd
section
variable {X : Cx} {W : WX} {a b : Expr} {pos : Pos}
theorem i_zip {tr : TA} {fr : DA} {p tpos : Pos} {elts : List Expr} {kk : Nat} (hm : X.mg "zip" = none) (h : AOk X W [a, b] tr fr) (hg : Gl X "zip" := by rfl) (hs : starEach [a, b] X.env = (false, eval a X.env) :: starEach [b] X.env := by rfl) (hpl : (backTo pos (starEach [b] X.env)).any (·.1) = false := by rfl) {K' : PySem.W.Frag} (hK : X.K = K' := by rfl) :
    IOk X W (.Tuple elts kk tpos) (.Call (.Name "zip" p) [a, b] [] pos) (iZg K' tr) (dZip fr) true := by
  subst hK
  refine ⟨pi_zg hg hm h.pa hs hpl, ?_⟩
  intro H0 Hb H σ δ R Qd Xd S e h1 q x
  refine h.ar H0 Hb H σ δ _ _ Xd S e h1 (fun ds vs B1 C1 h2 g1 r1 => ?_) x
  split at h2
  · obtain ⟨xs, ys, e1, e2, h2⟩ := h2
    cases r1 with
    | cons r1 r2 =>
      cases r2 with
      | cons r2 r3 =>
        cases r3
        obtain ⟨k1, l1, us, rfl, s1, n1, t1⟩ := dItm_sq r1 e1
        obtain ⟨k2, l2, ws, rfl, s2, n2, t2⟩ := dItm_sq r2 e2
        refine ⟨k1, k2, l1, l2, us, ws, rfl, s1.up g1.sub, s2.up g1.sub, q _ _ B1 C1 h2 (fun _ => ?_) g1 (wk_zip s1 s2 t1 t2)⟩
        rw [zipD_len, ← t1.length, ← t2.length]
        omega
  · exact h2.elim
end
end L2.DL

-- DLP
set_option Elab.async false
set_option linter.all false
set_option maxRecDepth 100000
set_option maxHeartbeats 1000000
/-! # DL, looking into an owned object; names of built-ins -/
namespace L2.DL
open PySem PySem.Spec PyProof.Rows
/-! ### peeking: an owned slot is seen while an expression is asked whose answer holds no mutable thing -/
mutual
def immD : D → Bool
  | .non => true
  | .bl _ => true
  | .int _ => true
  | .str _ => true
  | .tup ds => immDs ds
  | .val _ => true
  | .lst _ => false
  | .frz _ => false
  | .ins _ _ _ => false
  | .dct _ _ => false
  | .dcT _ _ => false
def immDs : List D → Bool
  | [] => true
  | d :: ds => immD d && immDs ds
end
def notTup : HO → Prop
  | .tup _ => False
  | _ => True
mutual
theorem imm_dr {K : PySem.W.Frag} {H : Hp} {l : Addr} {o : HO} (ho : H l = some o) (hn : notTup o) : ∀ (d : D) (v : V), immD d = true → DR K H v d → DR K (minus H l) v d
  | .non, _, _, h => by cases h; exact .non
  | .bl b, _, _, h => by cases h; exact .bl b
  | .int i, _, _, h => by cases h; exact .int i
  | .str x, _, _, h => by cases h; exact .str x
  | .val v, _, _, h => by cases h; exact .val v
  | .tup ds, _, z, h => by
    cases h with
    | tup h1 h2 h3 =>
      refine .tup ?_ h2 (imm_drs ho hn ds _ (by simpa [immD] using z) h3)
      rcases h1 with h1 | h1
      · refine .inl ?_
        rw [minus_ne ?_]
        · exact h1
        · intro e
          rw [e, ho] at h1
          injection h1 with h1
          rw [h1] at hn
          exact hn
      · exact .inr h1
  | .lst ds, _, z, _ => by simp [immD] at z
  | .frz ds, _, z, _ => by simp [immD] at z
  | .ins _ _ _, _, z, _ => by simp [immD] at z
  | .dct _ _, _, z, _ => by simp [immD] at z
  | .dcT _ _, _, z, _ => by simp [immD] at z
theorem imm_drs {K : PySem.W.Frag} {H : Hp} {l : Addr} {o : HO} (ho : H l = some o) (hn : notTup o) : ∀ (ds : List D) (vs : List V), immDs ds = true → DRs K H vs ds → DRs K (minus H l) vs ds
  | [], _, _, h => by cases h; exact .nil
  | d :: ds, _, z, h => by
    cases h with
    | cons h1 h2 =>
      have z' : immD d = true ∧ immDs ds = true := by simpa [immDs] using z
      exact .cons (imm_dr ho hn d _ z'.1 h1) (imm_drs ho hn ds _ z'.2 h2)
end
theorem OR.notTup {K : PySem.W.Frag} {H : Hp} {o : HO} {d : D} (h : OR K H o d) : L2.DL.notTup o := by cases h <;> exact trivial
theorem Slots.shown {K : PySem.W.Frag} {H0 Hb H : Hp} {σ : St} {δ : Env} (S : Slots K H0 Hb H σ δ) {i : Nat} {d : D} {l : Addr} {o : HO} (hd : δ[i]? = some (.own d)) (k1 : σ[i]? = some (some (.ref l))) (k3 : Hb l = none) (k5 : OR K Hb o d) : Slots K H0 (upd Hb l o) H σ (δ.set i (.val d)) := by
  have up : Same Hb (upd Hb l o) := fun b u z => by rw [upd_ne (ne_of_none z k3)]; exact z
  refine ⟨by rw [List.length_set]; exact S.len, fun j e he => ?_, fun j e he => ?_, fun j k d1 d2 a hne e1 e2 e3 e4 => ?_⟩
  · by_cases hj : i = j
    · subst hj
      rw [List.getElem?_set] at he
      simp only [if_true] at he
      split at he
      · injection he with he; injection he with he; subst he
        exact ⟨.ref l, k1, (k5.up up).dr upd_same⟩
      · cases he
    · rw [List.getElem?_set_ne hj] at he
      obtain ⟨v, h1, h2⟩ := S.val j e he
      exact ⟨v, h1, DR.up up _ _ h2⟩
  · by_cases hj : i = j
    · subst hj
      rw [List.getElem?_set] at he
      simp only [if_true] at he
      split at he
      · injection he with he; cases he
      · cases he
    · rw [List.getElem?_set_ne hj] at he
      obtain ⟨a, u, h1, h2, h3, h4, h5⟩ := S.own j e he
      have ne : a ≠ l := fun z => by subst z; exact S.apart i j d e a hj hd he k1 h1
      exact ⟨a, u, h1, h2, by rw [upd_ne ne]; exact h3, h4, h5.up up⟩
  · have f : ∀ (j : Nat) (e : D), (δ.set i (.val d))[j]? = some (.own e) → i ≠ j := fun j e he z => by
      subst z
      rw [List.getElem?_set] at he
      simp only [if_true] at he
      split at he
      · injection he with he; cases he
      · cases he
    have hj := f j d1 e1
    have hk := f k d2 e2
    rw [List.getElem?_set_ne hj] at e1
    rw [List.getElem?_set_ne hk] at e2
    exact S.apart j k _ _ a hne e1 e2 e3 e4
/-- .. and hidden again -/
theorem Grow.unpeek {Hb H Hb' H' : Hp} {l : Addr} {o : HO} (k3 : Hb l = none) (g : Grow (upd Hb l o) H Hb' H') : Grow Hb H (minus Hb' l) H' := by
  refine ⟨g.all, fun b u z => ?_, fun b u z => ?_, fun b z n => ?_⟩
  · have ne := ne_of_none z k3
    rw [minus_ne ne]
    exact g.vis b u (by rw [upd_ne ne]; exact z)
  · by_cases e : b = l
    · subst e; rw [minus_at] at z; cases z
    · rw [minus_ne e] at z; exact g.sub b u z
  · by_cases e : b = l
    · subst e; exact minus_at
    · rw [minus_ne e]
      exact g.hid b z (by rw [upd_ne e]; exact n)
section
variable {X : Cx} {W : WX} {e : Expr} {te : TE} {fe : DE} {tt : TT} {ft : DT}
def dPeek (i : Nat) (f : DE) : DE := fun δ Q Xd => match δ[i]? with
  | some (.own d) => f (δ.set i (.val d)) (fun d' => immD d' = true ∧ Q d') fun x => immDs x.ds = true ∧ Xd x
  | _ => f δ Q Xd
theorem xr_unpeek {K : PySem.W.Frag} {Hb' H' : Hp} {l : Addr} {o : HO} {c : Value} {dd : Option Addr} {x : XD} (ho : Hb' l = some o) (hn : notTup o) (z : immDs x.ds = true) (r : XR K Hb' H' c dd x) : XR K (minus Hb' l) H' c dd x := by
  obtain ⟨r1, r2⟩ := r
  refine ⟨r1, ?_⟩
  rcases r2 with r2 | ⟨a, fs, h1, h2, h3, h4⟩
  · exact .inl r2
  · exact .inr ⟨a, fs, h1, h2, h3, imm_drs ho hn _ _ z h4⟩
theorem er_peek {K : PySem.W.Frag} (i : Nat) (he : ER K W te fe) : ER K W te (dPeek i fe) := by
  intro H0 Hb H σ δ Q Qd Xd S e h q x
  unfold dPeek at h
  split at h
  · rename_i d hd
    obtain ⟨l, o, k1, k2, k3, k4, k5⟩ := S.own i d hd
    have sub : Same (upd Hb l o) H := fun b u z => by
      by_cases eb : b = l
      · subst eb; rw [upd_same] at z; rw [← z]; exact k4
      · rw [upd_ne eb] at z; exact e b u z
    refine he H0 (upd Hb l o) H σ _ Q _ _ (S.shown hd k1 k3 k5) sub h (fun d' v B C h1 g1 r1 => ?_) fun x' c dd B C h1 g1 r1 => ?_
    · exact q d' v _ C h1.2 (g1.unpeek k3) (imm_dr (g1.vis l o upd_same) k5.notTup d' v h1.1 r1)
    · exact x x' c dd _ C h1.2 (g1.unpeek k3) (xr_unpeek (g1.vis l o upd_same) k5.notTup h1.1 r1)
  · exact he H0 Hb H σ δ Q Qd Xd S e h q x
theorem e_peek (i : Nat) (he : EOk X W e te fe) : EOk X W e te (dPeek i fe) := ⟨he.pe, er_peek i he.er⟩
def dPeekT (i : Nat) (f : DT) : DT := fun δ Q Xd => match δ[i]? with
  | some (.own d) => f (δ.set i (.val d)) Q fun x => immDs x.ds = true ∧ Xd x
  | _ => f δ Q Xd
theorem t_peek (i : Nat) (he : TOk X W e tt ft) : TOk X W e tt (dPeekT i ft) := by
  refine ⟨he.pt, ?_⟩
  intro H0 Hb H σ δ Q Qd Xd S e h q x
  unfold dPeekT at h
  split at h
  · rename_i d hd
    obtain ⟨l, o, k1, k2, k3, k4, k5⟩ := S.own i d hd
    have sub : Same (upd Hb l o) H := fun b u z => by
      by_cases eb : b = l
      · subst eb; rw [upd_same] at z; rw [← z]; exact k4
      · rw [upd_ne eb] at z; exact e b u z
    refine he.tr H0 (upd Hb l o) H σ _ Q _ _ (S.shown hd k1 k3 k5) sub h (fun b B C h1 g1 => q b _ C h1 (g1.unpeek k3)) fun x' c dd B C h1 g1 r1 => ?_
    exact x x' c dd _ C h1.2 (g1.unpeek k3) (xr_unpeek (g1.vis l o upd_same) k5.notTup h1.1 r1)
  · exact he.tr H0 Hb H σ δ Q Qd Xd S e h q x
/-- x[i], x an owned list -/
def dIxO (i : Nat) (fi : DE) : DE := fun δ Q Xd => match δ[i]? with
  | some (.own (.lst ds)) => fi δ (fun k => match k with
      | .int k => ∃ d, atI ds k = some d ∧ Q d
      | _ => False) Xd
  | _ => False
theorem e_ixO {x : Str} {p1 pos : Pos} {b : Expr} {tb : TE} {fb : DE} (i : Nat) (hb : EOk X W b tb fb) (hs : PlainIx b := by exact fun _ _ => rfl) (hN : X.N[i]? = some x := by rfl) (hv : Vis X.env.scope x := by first | exact Or.inl rfl | exact Or.inr (Or.inl rfl) | exact Or.inr (Or.inr rfl)) (hd : (x == ("__debug__" : Str)) = false := by decide)
    (hcd : (x == ("__classdict__" : Str)) = false := by decide) {K' : PySem.W.Frag} (hK : X.K = K' := by rfl) : EOk X W (.Subscript (.Name x p1) b pos) (tOp (rIx K') (tVar i) tb) (dIxO i fb) := by
  subst hK
  refine ⟨pe_ix ix_seq (pe_var hN hv hd hcd) hb.pe hs, ?_⟩
  intro H0 Hb H σ δ Q Qd Xd S e h q x
  unfold dIxO at h
  split at h
  · rename_i ds hd
    obtain ⟨l, o, k1, k2, k3, k4, k5⟩ := S.own i _ hd
    cases k5 with
    | lst a1 a2 =>
      refine ⟨.ref l, k1, ?_⟩
      refine hb.er H0 Hb H σ δ _ _ Xd S e h (fun dk u B C h1 g1 r1 => ?_) x
      split at h1
      · obtain ⟨d, e1, h1⟩ := h1
        cases r1
        obtain ⟨v, e2, rv⟩ := atI_of a2 e1
        exact .inl ⟨l, _, _, v, rfl, rfl, SqL.of (g1.all _ _ k4), e2, (q.grow g1).here g1.sub h1 (DR.up g1.vis _ _ rv)⟩
      · exact h1.elim
  · exact h.elim
end

/-! ### the built-ins by their names -/
theorem bb_len : bootBuiltins "len" = some (.builtin "len") := by decide +kernel
theorem bb_abs : bootBuiltins "abs" = some (.builtin "abs") := by decide +kernel
theorem bb_int : bootBuiltins "int" = some (.type "int") := by decide +kernel
theorem bb_bool : bootBuiltins "bool" = some (.type "bool") := by decide +kernel
theorem bb_str : bootBuiltins "str" = some (.type "str") := by decide +kernel
theorem bb_tuple : bootBuiltins "tuple" = some (.type "tuple") := by decide +kernel
theorem bb_list : bootBuiltins "list" = some (.type "list") := by decide +kernel
theorem bb_dict : bootBuiltins "dict" = some (.type "dict") := by decide +kernel
theorem bb_all : bootBuiltins "all" = some (.builtin "all") := by decide +kernel
theorem bb_any : bootBuiltins "any" = some (.builtin "any") := by decide +kernel
theorem bb_sum : bootBuiltins "sum" = some (.builtin "sum") := by decide +kernel
theorem bb_max : bootBuiltins "max" = some (.builtin "max") := by decide +kernel
theorem bb_min : bootBuiltins "min" = some (.builtin "min") := by decide +kernel
theorem bb_isinstance : bootBuiltins "isinstance" = some (.builtin "isinstance") := by decide +kernel
theorem bb_sorted : bootBuiltins "sorted" = some (.builtin "sorted") := by decide +kernel
/-! ### binding -/
theorem KBn.tail {K : PySem.W.Frag} {fd : FuncData} {ps ks : List Str} {n : Nat} (h : ∀ us ws : List Value, us.length = n → ws.length = ks.length → bindArgs fd ⟨us, ks.zip ws⟩ = pure (ps.zip (us ++ ws))) : KBn K fd ps n ks (fun us ws => us ++ ws) (fun us ws => us ++ ws) :=
  ⟨fun s us ws _ h1 h2 => .of_eq (h us ws h1 h2), fun r1 r2 => r1.append r2⟩
/-! ### words that the printer uses -/
def dShow (i : Nat) (g : DSt) : DSt := fun F δ => g F (frzAt i δ)
abbrev dLtV : G2 := dCmpV fun i j => decide (i < j)
abbrev dLeV : G2 := dCmpV fun i j => decide (i ≤ j)
abbrev dGtV : G2 := dCmpV fun i j => decide (i > j)
abbrev dGeV : G2 := dCmpV fun i j => decide (i ≥ j)
/-! ### what a reading comes to -/
section
variable {δ : Env} {Q : DP} {Xd : XP} {F : DEnds}
theorem dVar_of {i : Nat} {d : D} (h : δ[i]? = some (.val d)) : dVar i δ Q Xd = Q d := by unfold dVar; rw [h]
theorem dC_of {d : D} : dC d δ Q Xd = Q d := rfl
theorem dOp_of {g : G2} {a b : DE} : dOp g a b δ Q Xd = a δ (fun x => b δ (fun y => g x y Q) Xd) Xd := rfl
end
end L2.DL

-- DLS
set_option Elab.async false
set_option linter.all false
set_option maxRecDepth 100000
set_option maxHeartbeats 1000000
/-! # DL, plain lemmas about readings over data -/
namespace L2.DL
open PySem PySem.Spec PyProof.Rows
/-! ### comprehensions -/
section
variable {g : DG} {ft : DT} {fe : DE} {δ : Env} {Q : DP} {α : Type}
theorem comp_map' (ι : α → D) (f : α → D) : ∀ (xs : List α) (out : List D), (∀ x ∈ xs, ∀ R : DP, R (f x) → g (ι x) δ fun δ2 => fe δ2 R fun _ => False) → Q (.lst (out ++ xs.map f)) → dLoop g dYes fe δ (xs.map ι) out Q
  | [], out, _, hQ => by simpa [dLoop] using hQ
  | x :: xs, out, h, hQ => by
    show g (ι x) δ fun δ2 => dYes δ2 (fun b => if b = true then fe δ2 (fun y => dLoop g dYes fe δ (xs.map ι) (out ++ [y]) Q) (fun _ => False) else dLoop g dYes fe δ (xs.map ι) out Q) fun _ => False
    simp only [dYes, if_true]
    exact h x List.mem_cons_self _ (comp_map' ι f xs _ (fun y hy => h y (List.mem_cons_of_mem _ hy)) (by simpa using hQ))
/-- [f x for x in xs] -/
theorem comp_map (ι : α → D) (f : α → D) (xs : List α) (h : ∀ x ∈ xs, ∀ R : DP, R (f x) → g (ι x) δ fun δ2 => fe δ2 R fun _ => False) (hQ : Q (.lst (xs.map f))) : dLoop g dYes fe δ (xs.map ι) [] Q :=
  comp_map' ι f xs [] h (by simpa using hQ)
theorem comp_filter' (ι : α → D) (p : α → Bool) (f : α → D) : ∀ (xs : List α) (out : List D), (∀ x ∈ xs, ∀ (R : DP) (S : Prop), (p x = true → R (f x)) → (p x = false → S) → g (ι x) δ fun δ2 => ft δ2 (fun b => if b = true then fe δ2 R (fun _ => False) else S) fun _ => False) → Q (.lst (out ++ (xs.filter p).map f)) → dLoop g ft fe δ (xs.map ι) out Q
  | [], out, _, hQ => by simpa [dLoop] using hQ
  | x :: xs, out, h, hQ => by
    show g (ι x) δ fun δ2 => ft δ2 (fun b => if b = true then fe δ2 (fun y => dLoop g ft fe δ (xs.map ι) (out ++ [y]) Q) (fun _ => False) else dLoop g ft fe δ (xs.map ι) out Q) fun _ => False
    refine h x List.mem_cons_self _ _ (fun hp => ?_) fun hp => ?_
    · exact comp_filter' ι p f xs _ (fun y hy => h y (List.mem_cons_of_mem _ hy)) (by simpa [List.filter_cons, hp] using hQ)
    · exact comp_filter' ι p f xs _ (fun y hy => h y (List.mem_cons_of_mem _ hy)) (by simpa [List.filter_cons, hp] using hQ)
/-- [f x for x in xs if p x] -/
theorem comp_filter (ι : α → D) (p : α → Bool) (f : α → D) (xs : List α) (h : ∀ x ∈ xs, ∀ (R : DP) (S : Prop), (p x = true → R (f x)) → (p x = false → S) → g (ι x) δ fun δ2 => ft δ2 (fun b => if b = true then fe δ2 R (fun _ => False) else S) fun _ => False)
    (hQ : Q (.lst ((xs.filter p).map f))) : dLoop g ft fe δ (xs.map ι) [] Q := comp_filter' ι p f xs [] h (by simpa using hQ)
theorem comp_rel' (ι : α → D) (P : α → D → Prop) : ∀ (xs : List α) (out : List D), (∀ x ∈ xs, ∀ R : DP, (∀ y, P x y → R y) → g (ι x) δ fun δ2 => fe δ2 R fun _ => False) → (∀ ys, Paired P xs ys → Q (.lst (out ++ ys))) → dLoop g dYes fe δ (xs.map ι) out Q
  | [], out, _, hQ => by simpa [dLoop] using hQ [] .nil
  | x :: xs, out, h, hQ => by
    show g (ι x) δ fun δ2 => dYes δ2 (fun b => if b = true then fe δ2 (fun y => dLoop g dYes fe δ (xs.map ι) (out ++ [y]) Q) (fun _ => False) else dLoop g dYes fe δ (xs.map ι) out Q) fun _ => False
    simp only [dYes, if_true]
    refine h x List.mem_cons_self _ fun y hy => comp_rel' ι P xs _ (fun z hz => h z (List.mem_cons_of_mem _ hz)) fun ys hys => ?_
    have := hQ (y :: ys) (.cons hy hys)
    simpa using this
/-- [.. for x in xs], each item some y with P x y -/
theorem comp_rel (ι : α → D) (P : α → D → Prop) (xs : List α) (h : ∀ x ∈ xs, ∀ R : DP, (∀ y, P x y → R y) → g (ι x) δ fun δ2 => fe δ2 R fun _ => False) (hQ : ∀ ys, Paired P xs ys → Q (.lst ys)) : dLoop g dYes fe δ (xs.map ι) [] Q :=
  comp_rel' ι P xs [] h (by simpa using hQ)
end
/-! ### loops -/
section
variable {f : DG} {g : DSt} {F : DEnds} {δ : Env}
theorem for_inv (ds : List D) (P : Nat → Env → Prop) (h0 : P 0 δ) (hs : ∀ (i : Nat) (d : D) (δ : Env) (R : Env → Prop), ds[i]? = some d → P i δ → (∀ δ', P (i + 1) δ' → R δ') → f d δ fun δ' => g { F with nx := R, ct := R, bk := F.nx } δ')
    (hd : ∀ δ, P ds.length δ → F.nx δ) : dForL f g F ds δ := by
  have key : ∀ (es : List D) (i : Nat) (δ : Env), ds.drop i = es → i ≤ ds.length → P i δ → dForL f g F es δ := by
    intro es
    induction es with
    | nil =>
      intro i δ he hi hp
      have : i = ds.length := by
        have := congrArg List.length he
        simp at this
        omega
      subst this
      exact hd δ hp
    | cons e es ih =>
      intro i δ he hi hp
      have hlt : i < ds.length := by
        have := congrArg List.length he
        simp at this
        omega
      have he' : ds[i]? = some e := by
        rw [← List.head?_drop, he]; rfl
      have hr : ds.drop (i + 1) = es := by
        rw [← List.tail_drop, he]; rfl
      exact hs i e δ _ he' hp fun δ' hp' => ih (i + 1) δ' hr hlt hp'
  exact key ds 0 δ (by simp) (Nat.zero_le _) h0
theorem while_inv {c : DT} (P : Nat → Env → Prop) (m0 : Nat) (h0 : P m0 δ) (hs : ∀ (m : Nat) (δ : Env) (R : Env → Prop), P m δ → (∀ m' δ', m' < m → P m' δ' → R δ') → c δ (fun b => if b = true then g { F with nx := R, ct := R, bk := F.nx } δ else F.nx δ) fun x => F.xc x δ) : dWhile c g F δ :=
  ⟨P, ⟨m0, h0⟩, fun m δ p => hs m δ _ p fun m' δ' l p' => ⟨m', l, p'⟩⟩
end
/-! ### ints -/
abbrev vec (ns : List Int) : D := .tup (ns.map .int)
abbrev ils (ns : List Int) : D := .lst (ns.map .int)
theorem int_inj : ∀ {a b : List Int}, a.map D.int = b.map D.int → a = b
  | [], [], _ => rfl
  | [], _ :: _, h => by cases h
  | _ :: _, [], h => by cases h
  | x :: a, y :: b, h => by
    injection h with h1 h2
    injection h1 with h1
    rw [h1, int_inj h2]
theorem zip_ints (a b : List Int) : zipD (a.map .int) (b.map .int) = (a.zip b).map fun p => D.tup [.int p.1, .int p.2] := by
  unfold zipD
  rw [List.zipWith_map, List.zip, List.map_zipWith]
theorem rngD_map (lo : Int) (n : Nat) : rngD lo n = (List.range n).map fun i => D.int (lo + (i : Nat)) := rfl
/-! ### equality -/
mutual
/-- ints, texts, None; lists and tuples of such -/
def plainD : D → Bool
  | .non => true
  | .int _ => true
  | .str _ => true
  | .lst ds => plainDs ds
  | .tup ds => plainDs ds
  | _ => false
def plainDs : List D → Bool
  | [] => true
  | d :: ds => plainD d && plainDs ds
end
mutual
theorem deqv_iff : ∀ (x y : D), plainD x = true → plainD y = true → (PyData.eqv (pd x) (pd y) = true ↔ x = y)
  | .non, y, _, hy => by cases y <;> simp [pd, PyData.eqv, plainD] at hy ⊢
  | .int i, y, _, hy => by cases y <;> simp [pd, PyData.eqv, plainD] at hy ⊢
  | .str s, y, _, hy => by cases y <;> simp [pd, PyData.eqv, plainD] at hy ⊢
  | .lst ds, y, hx, hy => by
    cases y with
    | lst es =>
      have := deqvs_iff ds es (by simpa [plainD] using hx) (by simpa [plainD] using hy)
      simp only [pd, PyData.eqv, this, D.lst.injEq]
    | _ => simp [pd, PyData.eqv, plainD] at hy ⊢
  | .tup ds, y, hx, hy => by
    cases y with
    | tup es =>
      have := deqvs_iff ds es (by simpa [plainD] using hx) (by simpa [plainD] using hy)
      simp only [pd, PyData.eqv, this, D.tup.injEq]
    | _ => simp [pd, PyData.eqv, plainD] at hy ⊢
  | .bl _, _, hx, _ => by simp [plainD] at hx
  | .frz _, _, hx, _ => by simp [plainD] at hx
  | .ins _ _ _, _, hx, _ => by simp [plainD] at hx
  | .dct _ _, _, hx, _ => by simp [plainD] at hx
  | .dcT _ _, _, hx, _ => by simp [plainD] at hx
  | .val _, _, hx, _ => by simp [plainD] at hx
theorem deqvs_iff : ∀ (xs ys : List D), plainDs xs = true → plainDs ys = true → (PyData.eqvAll (pds xs) (pds ys) = true ↔ xs = ys)
  | [], [], _, _ => by simp [pds, PyData.eqvAll]
  | [], _ :: _, _, _ => by simp [pds, PyData.eqvAll]
  | _ :: _, [], _, _ => by simp [pds, PyData.eqvAll]
  | x :: xs, y :: ys, hx, hy => by
    simp only [plainDs, Bool.and_eq_true] at hx hy
    simp only [pds, PyData.eqvAll, Bool.and_eq_true, deqv_iff x y hx.1 hy.1, deqvs_iff xs ys hx.2 hy.2, List.cons.injEq]
end
theorem deqv_dec {x y : D} (hx : plainD x = true) (hy : plainD y = true) [Decidable (x = y)] : deqv x y = decide (x = y) := by
  have := deqv_iff x y hx hy
  unfold deqv
  by_cases h : x = y
  · rw [decide_eq_true h, this.mpr h]
  · rw [decide_eq_false h]
    cases z : PyData.eqv (pd x) (pd y) with
    | false => rfl
    | true => exact absurd (this.mp z) h
theorem plain_ints : ∀ ns : List Int, plainDs (ns.map D.int) = true
  | [] => rfl
  | _ :: ns => by simp [plainDs, plainD, plain_ints ns]
theorem plainDs_iff : ∀ {ds : List D}, plainDs ds = true ↔ ∀ d ∈ ds, plainD d = true
  | [] => by simp [plainDs]
  | d :: ds => by simp [plainDs, plainDs_iff (ds := ds)]
/-- data that == takes, of a depth of at most k -/
def okD (k : Nat) (d : D) : Prop := (pd d).canLay0 = true ∧ (pd d).depth ≤ k
theorem okD.eq {k : Nat} {d : D} (h : okD k d) (hk : k ≤ 64) : okEq d = true := by
  unfold okEq SeqAt.shaped
  rw [h.1, Bool.true_and, decide_eq_true (Nat.le_trans h.2 hk)]
theorem okD.mono {j k : Nat} {d : D} (h : okD j d) (hk : j ≤ k) : okD k d := ⟨h.1, Nat.le_trans h.2 hk⟩
theorem ok_int {i : Int} : okD 0 (.int i) := ⟨rfl, Nat.le_refl _⟩
theorem ok_bl {i : Bool} : okD 0 (.bl i) := ⟨rfl, Nat.le_refl _⟩
theorem ok_non : okD 0 .non := ⟨rfl, Nat.le_refl _⟩
theorem ok_all {k : Nat} : ∀ {ds : List D}, (∀ d ∈ ds, okD k d) → PyData.canLayAll0 (pds ds) = true ∧ PyData.depthAll (pds ds) ≤ k
  | [], _ => ⟨rfl, Nat.zero_le _⟩
  | d :: ds, h => by
    obtain ⟨h1, h2⟩ := ok_all (fun e he => h e (List.mem_cons_of_mem _ he))
    obtain ⟨h3, h4⟩ := h d List.mem_cons_self
    refine ⟨by simp [pds, PyData.canLayAll0, h1, h3], ?_⟩
    simp only [pds, PyData.depthAll]
    omega
theorem ok_lst {k : Nat} {ds : List D} (h : ∀ d ∈ ds, okD k d) : okD (k + 1) (.lst ds) := by
  obtain ⟨h1, h2⟩ := ok_all h
  exact ⟨by simpa [pd, PyData.canLay0] using h1, by simp only [pd, PyData.depth]; omega⟩
theorem ok_tup {k : Nat} {ds : List D} (h : ∀ d ∈ ds, okD k d) : okD (k + 1) (.tup ds) := by
  obtain ⟨h1, h2⟩ := ok_all h
  exact ⟨by simpa [pd, PyData.canLay0] using h1, by simp only [pd, PyData.depth]; omega⟩
theorem ok_ils (ns : List Int) : okD 1 (ils ns) := ok_lst fun d h => by
  obtain ⟨n, _, rfl⟩ := List.mem_map.mp h
  exact ok_int
theorem ok_vec (ns : List Int) : okD 1 (vec ns) := ok_tup fun d h => by
  obtain ⟨n, _, rfl⟩ := List.mem_map.mp h
  exact ok_int
theorem okEq_int (i : Int) : okEq (.int i) = true := ok_int.eq (by decide)
theorem okEq_bl (i : Bool) : okEq (.bl i) = true := ok_bl.eq (by decide)
theorem okEq_non : okEq .non = true := ok_non.eq (by decide)
theorem okEq_ils (ns : List Int) : okEq (.lst (ns.map .int)) = true := (ok_ils ns).eq (by decide)
theorem okEq_vec (ns : List Int) : okEq (.tup (ns.map .int)) = true := (ok_vec ns).eq (by decide)
theorem deqv_int (i j : Int) : deqv (.int i) (.int j) = decide (i = j) := by
  unfold deqv
  simp only [pd, PyData.eqv]
  exact Bool.beq_eq_decide_eq i j
theorem deqv_bl (i j : Bool) : deqv (.bl i) (.bl j) = decide (i = j) := by
  unfold deqv
  simp only [pd, PyData.eqv]
  cases i <;> cases j <;> rfl
theorem deqv_ils (a b : List Int) : deqv (.lst (a.map .int)) (.lst (b.map .int)) = decide (a = b) := by
  have h := deqv_iff (.lst (a.map .int)) (.lst (b.map .int)) (plain_ints a) (plain_ints b)
  unfold deqv
  by_cases e : a = b
  · subst e; rw [h.mpr rfl]; simp
  · rw [decide_eq_false e]
    cases z : PyData.eqv (pd (.lst (a.map .int))) (pd (.lst (b.map .int))) with
    | false => rfl
    | true =>
      have z' := h.mp z
      injection z' with z'
      exact absurd (int_inj z') e
theorem deqv_vec (a b : List Int) : deqv (.tup (a.map .int)) (.tup (b.map .int)) = decide (a = b) := by
  have h := deqv_iff (.tup (a.map .int)) (.tup (b.map .int)) (plain_ints a) (plain_ints b)
  unfold deqv
  by_cases e : a = b
  · subst e; rw [h.mpr rfl]; simp
  · rw [decide_eq_false e]
    cases z : PyData.eqv (pd (.tup (a.map .int))) (pd (.tup (b.map .int))) with
    | false => rfl
    | true =>
      have z' := h.mp z
      injection z' with z'
      exact absurd (int_inj z') e
theorem deqv_refl {d : D} (h : okEq d = true) : deqv d d = true := SeqAt.eqv_refl _ (SeqAt.canLay_of_shaped h)
/-! ### isinstance -/
theorem isi_eq {x : D} {n t : String} {b : Bool} {Q : DP} (h1 : dTy x = some t) (h2 : kitB t n = some b) : dIsiV [x, .val (.ty n)] Q = Q (.bl b) := by
  refine propext ⟨fun ⟨t', b', e1, e2, q⟩ => ?_, fun q => ⟨t, b, h1, h2, q⟩⟩
  rw [h1] at e1; injection e1 with e1; subst e1
  rw [h2] at e2; injection e2 with e2; subst e2
  exact q
theorem isi_eqs {x : D} {cs : List D} {t : String} {b : Bool} {Q : DP} (h1 : dTy x = some t) (h2 : kitBs t cs = some b) : dIsiV [x, .tup cs] Q = Q (.bl b) := by
  refine propext ⟨fun ⟨t', b', e1, e2, q⟩ => ?_, fun q => ⟨t, b, h1, h2, q⟩⟩
  rw [h1] at e1; injection e1 with e1; subst e1
  rw [h2] at e2; injection e2 with e2; subst e2
  exact q
section
variable {Q : DP} {i : Int} {k : Bool} {s : Str} {ds : List D}
theorem isi_int_int : dIsiV [.int i, .val (.ty "int")] Q = Q (.bl true) := isi_eq (t := "int") rfl (by decide +kernel)
theorem isi_int_bool : dIsiV [.int i, .val (.ty "bool")] Q = Q (.bl false) := isi_eq (t := "int") rfl (by decide +kernel)
theorem isi_int_tuple : dIsiV [.int i, .val (.ty "tuple")] Q = Q (.bl false) := isi_eq (t := "int") rfl (by decide +kernel)
theorem isi_int_str : dIsiV [.int i, .val (.ty "str")] Q = Q (.bl false) := isi_eq (t := "int") rfl (by decide +kernel)
theorem isi_int_lt : dIsiV [.int i, .tup [.val (.ty "list"), .val (.ty "tuple")]] Q = Q (.bl false) := isi_eqs (t := "int") rfl (by decide +kernel)
theorem isi_bl_int : dIsiV [.bl k, .val (.ty "int")] Q = Q (.bl true) := isi_eq (t := "bool") rfl (by decide +kernel)
theorem isi_bl_bool : dIsiV [.bl k, .val (.ty "bool")] Q = Q (.bl true) := isi_eq (t := "bool") rfl (by decide +kernel)
theorem isi_bl_lt : dIsiV [.bl k, .tup [.val (.ty "list"), .val (.ty "tuple")]] Q = Q (.bl false) := isi_eqs (t := "bool") rfl (by decide +kernel)
theorem isi_str_str : dIsiV [.str s, .val (.ty "str")] Q = Q (.bl true) := isi_eq (t := "str") rfl (by decide +kernel)
theorem isi_str_lt : dIsiV [.str s, .tup [.val (.ty "list"), .val (.ty "tuple")]] Q = Q (.bl false) := isi_eqs (t := "str") rfl (by decide +kernel)
theorem isi_non_lt : dIsiV [.non, .tup [.val (.ty "list"), .val (.ty "tuple")]] Q = Q (.bl false) := isi_eqs (t := "NoneType") rfl (by decide +kernel)
theorem isi_tup_tuple : dIsiV [.tup ds, .val (.ty "tuple")] Q = Q (.bl true) := isi_eq (t := "tuple") rfl (by decide +kernel)
theorem isi_lst_tuple : dIsiV [.lst ds, .val (.ty "tuple")] Q = Q (.bl false) := isi_eq (t := "list") rfl (by decide +kernel)
theorem isi_tup_lt : dIsiV [.tup ds, .tup [.val (.ty "list"), .val (.ty "tuple")]] Q = Q (.bl true) := isi_eqs (t := "tuple") rfl (by decide +kernel)
theorem isi_lst_lt : dIsiV [.lst ds, .tup [.val (.ty "list"), .val (.ty "tuple")]] Q = Q (.bl true) := isi_eqs (t := "list") rfl (by decide +kernel)
end
/-! ### the equations -/
section
variable {Q : DP} {QB : Bool → Prop} {QL : List D → Prop} {i j : Int} {k : Bool} {s t : Str} {ds es : List D} {lo hi : Option Int} {p : Int → Int → Bool}
theorem q000 : (dAddV (.int i) (.int j) Q) = (Q (.int (i + j))) := rfl
theorem q001 : (dAddV (.str s) (.str t) Q) = ((s.length + t.length ≤ sizeLine ∧ Q (.str (s ++ t)))) := rfl
theorem q002 : (dAddV (.lst ds) (.lst es) Q) = ((ds.length + es.length ≤ sizeLine ∧ Q (.lst (ds ++ es)))) := rfl
theorem q003 : (dAddV (.tup ds) (.tup es) Q) = ((ds.length + es.length ≤ sizeLine ∧ Q (.tup (ds ++ es)))) := rfl
theorem q004 : (dSubV (.int i) (.int j) Q) = (Q (.int (i - j))) := rfl
theorem q005 : (dMulV (.int i) (.int j) Q) = ((mulOk i j ∧ Q (.int (i * j)))) := rfl
theorem q006 : (dMulV (.lst ds) (.int j) Q) = ((-(2 ^ 63) ≤ j ∧ j < 2 ^ 63 ∧ ds.length * j.toNat ≤ sizeLine ∧ Q (.lst (List.replicate j.toNat ds).flatten))) := rfl
theorem q007 : (dMulV (.tup ds) (.int j) Q) = ((ds ≠ [] ∧ 1 ≤ j ∧ j ≤ 1000 ∧ ds.length ≤ 1000 ∧ Q (.tup (List.replicate j.toNat ds).flatten))) := rfl
theorem q008 : (dFdivV (.int i) (.int j) Q) = ((divOk j ∧ Q (.int (i / j)))) := rfl
theorem q009 : (dModV (.int i) (.int j) Q) = ((0 < j ∧ Q (.int (i % j)))) := rfl
theorem q010 : (dPowV (.int i) (.int j) Q) = (((0 ≤ j ∧ j ≤ 1000000 ∧ i.natAbs < 2 ^ 64) ∧ Q (.int (i ^ j.toNat)))) := rfl
theorem q011 : (dNegV (.int i) Q) = (Q (.int (-i))) := rfl
theorem q012 : (dCmpV p (.int i) (.int j) Q) = (Q (.bl (p i j))) := rfl
theorem q013 : (dIxV (.lst ds) (.int i) Q) = (∃ d, atI ds i = some d ∧ Q d) := rfl
theorem q014 : (dSlV (.lst ds) lo hi Q) = (Q (.lst (cutG ds lo hi))) := rfl
theorem q015 : (dLenV [.lst ds] Q) = (Q (.int ds.length)) := rfl
theorem q016 : (dTupleV [.lst ds] Q) = (Q (.tup ds)) := rfl
theorem q017 : (dListV [.lst ds] Q) = (Q (.lst ds)) := rfl
theorem q018 : (dItems (.lst ds) QL) = (QL ds) := rfl
theorem q019 : (dItm (.lst ds)) = (some ds) := rfl
theorem q020 : (dTruV (.lst ds) QB) = (QB (!ds.isEmpty)) := rfl
theorem q021 : (dIxV (.frz ds) (.int i) Q) = (∃ d, atI ds i = some d ∧ Q d) := rfl
theorem q022 : (dSlV (.frz ds) lo hi Q) = (Q (.lst (cutG ds lo hi))) := rfl
theorem q023 : (dLenV [.frz ds] Q) = (Q (.int ds.length)) := rfl
theorem q024 : (dTupleV [.frz ds] Q) = (Q (.tup ds)) := rfl
theorem q025 : (dListV [.frz ds] Q) = (Q (.lst ds)) := rfl
theorem q026 : (dItems (.frz ds) QL) = (QL ds) := rfl
theorem q027 : (dItm (.frz ds)) = (some ds) := rfl
theorem q028 : (dTruV (.frz ds) QB) = (QB (!ds.isEmpty)) := rfl
theorem q029 : (dIxV (.tup ds) (.int i) Q) = (∃ d, atI ds i = some d ∧ Q d) := rfl
theorem q030 : (dSlV (.tup ds) lo hi Q) = (Q (.tup (cutG ds lo hi))) := rfl
theorem q031 : (dLenV [.tup ds] Q) = (Q (.int ds.length)) := rfl
theorem q032 : (dTupleV [.tup ds] Q) = (Q (.tup ds)) := rfl
theorem q033 : (dListV [.tup ds] Q) = (Q (.lst ds)) := rfl
theorem q034 : (dItems (.tup ds) QL) = (QL ds) := rfl
theorem q035 : (dItm (.tup ds)) = (some ds) := rfl
theorem q036 : (dTruV (.tup ds) QB) = (QB (!ds.isEmpty)) := rfl
theorem q037 : (dIxV (.str s) (.int i) Q) = ((s.length ≤ sizeLine ∧ ∃ c, atI s.cps.toList i = some c ∧ Q (.str ⟨#[c]⟩))) := rfl
theorem q038 : (dLenV [.str s] Q) = ((s.length ≤ sizeLine ∧ Q (.int s.length))) := rfl
theorem q039 : (dRevV (.lst ds) Q) = (Q (.lst ds.reverse)) := rfl
theorem q040 : (dRevV (.frz ds) Q) = (Q (.lst ds.reverse)) := rfl
theorem q041 : (dAbsV [.int i] Q) = (Q (.int (i.natAbs : Nat))) := rfl
theorem q042 : (dIntV [.int i] Q) = (Q (.int i)) := rfl
theorem q043 : (dIntV [.bl k] Q) = (Q (.int (if k = true then 1 else 0))) := rfl
theorem q044 : (dMaxV [.int i, .int j] Q) = (Q (.int (max i j))) := rfl
theorem q045 : (dMinV [.int i, .int j] Q) = (Q (.int (min i j))) := rfl
theorem q046 : (dMaxV [.lst ds] Q) = (∃ ns : List Int, ds = ns.map D.int ∧ 0 < ns.length ∧ ∀ m, m ∈ ns → (∀ y, y ∈ ns → y ≤ m) → Q (.int m)) := rfl
theorem q047 : (dMinV [.lst ds] Q) = (∃ ns : List Int, ds = ns.map D.int ∧ 0 < ns.length ∧ ∀ m, m ∈ ns → (∀ y, y ∈ ns → m ≤ y) → Q (.int m)) := rfl
theorem q048 : (dSumV [.lst ds] Q) = (∃ ns : List Int, ds = ns.map D.int ∧ Q (.int ns.sum)) := rfl
theorem q049 : (dSumV [.frz ds] Q) = (∃ ns : List Int, ds = ns.map D.int ∧ Q (.int ns.sum)) := rfl
theorem q050 : (dAllV [.lst ds] Q) = (∃ bs : List Bool, ds = bs.map D.bl ∧ Q (.bl (bs.all id))) := rfl
theorem q051 : (dAnyV [.lst ds] Q) = (∃ bs : List Bool, ds = bs.map D.bl ∧ Q (.bl (bs.any id))) := rfl
theorem q052 : (dTruV .non QB) = (QB false) := rfl
theorem q053 : (dTruV (.bl k) QB) = (QB k) := rfl
theorem q054 : (dTruV (.int i) QB) = (QB (i != 0)) := rfl
theorem q055 : (dTruV (.str s) QB) = ((s.length ≤ sizeLine ∧ QB ((s.length : Int) != 0))) := rfl
end
end L2.DL

-- K00F
set_option Elab.async false
set_option linter.all false
set_option maxRecDepth 100000
set_option maxHeartbeats 1000000
namespace L2.DL
open PySem PySem.Spec PyProof.Rows
/-! # What each def promises over data: vectors, figures -/
/-- a list or a tuple of these ints -/
def isV (d : D) (a : List Int) : Prop := dItm d = some (a.map .int)
theorem isV.cases {d : D} {a : List Int} (h : isV d a) : d = .lst (a.map .int) ∨ d = .frz (a.map .int) ∨ d = .tup (a.map .int) := by
  cases d <;> simp [isV, dItm] at h <;> simp [h]
theorem isV_ils (a : List Int) : isV (ils a) a := rfl
theorem isV_vec (a : List Int) : isV (vec a) a := rfl
theorem isV.items {d : D} {a : List Int} {Q : List D → Prop} (h : isV d a) : dItems d Q = Q (a.map .int) := by
  rcases h.cases with rfl | rfl | rfl <;> rfl
theorem isV.len {d : D} {a : List Int} {Q : DP} (h : isV d a) : dLenV [d] Q = Q (.int a.length) := by
  rcases h.cases with rfl | rfl | rfl <;> simp [dLenV]
mutual
def frozD : D → D
  | .lst ds => .tup (frozDs ds)
  | .tup ds => .tup (frozDs ds)
  | .non => .non
  | .bl b => .bl b
  | .int i => .int i
  | .str x => .str x
  | .frz ds => .frz ds
  | .ins C n d => .ins C n d
  | .dct k d => .dct k d
  | .dcT k d => .dcT k d
  | .val v => .val v
def frozDs : List D → List D
  | [] => []
  | d :: ds => frozD d :: frozDs ds
end
theorem frozDs_map : ∀ ds : List D, frozDs ds = ds.map frozD
  | [] => rfl
  | d :: ds => by simp [frozDs, frozDs_map ds]
/-- nested lists and tuples of leaves, of a depth of at most k -/
def okF : Nat → D → Prop
  | 0, d => (∃ i, d = .int i) ∨ (∃ b, d = .bl b) ∨ (∃ x, d = .str x) ∨ d = .non
  | k + 1, d => ((∃ i, d = .int i) ∨ (∃ b, d = .bl b) ∨ (∃ x, d = .str x) ∨ d = .non) ∨ ∃ ds, (d = .lst ds ∨ d = .tup ds) ∧ ∀ e ∈ ds, okF k e
def F_frozen (k : Nat) : FD := fun ds Q _ => ∃ d, ds = [d] ∧ okF k d ∧ Q (frozD d)
def F_frozenP : Nat → FD
  | 0 => fun _ _ _ => False
  | k + 1 => F_frozen k
def F_zero_vector : FD := fun ds Q _ => ∃ w : Int, ds = [.int w] ∧ 1 ≤ w ∧ w ≤ 1000 ∧ Q (vec (List.replicate w.toNat 0))
def vadd (a b : List Int) : List Int := List.zipWith (· + ·) a b
def F_added : FD := fun ds Q _ => ∃ x y a b, ds = [x, y] ∧ isV x a ∧ isV y b ∧ Q (vec (vadd a b))
def vmul (n : Int) (a : List Int) : List Int := a.map (n * ·)
def F_times : FD := fun ds Q _ => ∃ n x a, ds = [.int n, x] ∧ isV x a ∧ (∀ y ∈ a, mulOk n y) ∧ Q (vec (vmul n a))
def sg (x : Int) : Int := if x < 0 then -1 else 1
def F_signs_of : FD := fun ds Q _ => ∃ x a, ds = [x] ∧ isV x a ∧ Q (vec (a.map sg))
def hasSigns (a b : List Int) : Bool := decide (a.length = b.length) && (List.zipWith (fun x y => decide (x * y ≥ 0)) a b).all id
def F_has_signs : FD := fun ds Q _ => ∃ x y a b, ds = [x, y] ∧ isV x a ∧ isV y b ∧ (∀ z ∈ b, -(2 ^ 64) < z ∧ z < 2 ^ 64) ∧ Q (.bl (hasSigns a b))

def g_frozen (F_frozen : FD) : DSt := (dSeqS (dIfS (dTru (dCB dIsiV (dCons (dVar 0) (dCons (dTup (dCons (dC (.val (.ty "list"))) (dCons (dC (.val (.ty "tuple"))) dNil))) dNil)))) (dRet (dCB dTupleV (dCons (dComp (dSeq (dVar 0)) true (dgName 1) dYes (dCall F_frozen [] (dCons (dVar 1) dNil)) [1]) dNil))) dNext)
    (dRet (dVar 0)))
def g_zero_vector : DSt := (dRet (dOp dMulV (dTup (dCons (dC (.int 0)) dNil)) (dVar 0)))
def g_added : DSt := (dRet (dCB dTupleV (dCons (dComp (dZip (dCons (dVar 0) (dCons (dVar 1) dNil))) true (dgTup 2 (dgCons (dgName 2) (dgCons (dgName 3) dgNil))) dYes (dOp dAddV (dVar 2) (dVar 3)) [2, 3]) dNil)))
def g_times : DSt := (dRet (dCB dTupleV (dCons (dComp (dSeq (dVar 1)) true (dgName 2) dYes (dOp dMulV (dVar 0) (dVar 2)) [2]) dNil)))
def g_signs_of : DSt := (dRet (dCB dTupleV (dCons (dComp (dSeq (dVar 0)) true (dgName 1) dYes (dIfE (dTst (dOp dLtV (dVar 1) (dC (.int 0)))) (dUn dNegV (dC (.int 1))) (dC (.int 1))) [1]) dNil)))
def g_has_signs : DSt := (dSeqS (dIfS (dTst (dOp dNeV (dCB dLenV (dCons (dVar 0) dNil)) (dCB dLenV (dCons (dVar 1) dNil)))) (dRet (dC (.bl false))) dNext)
    (dRet (dCB dAllV (dCons (dComp (dZip (dCons (dVar 0) (dCons (dVar 1) dNil))) true (dgTup 2 (dgCons (dgName 2) (dgCons (dgName 3) dgNil))) dYes (dOp dGeV (dOp dMulV (dVar 2) (dVar 3)) (dC (.int 0))) [2, 3]) dNil))))

theorem does_frozen (k : Nat) : Does ["value", "item"] ["value"] (F_frozen k) (g_frozen (F_frozenP k)) := by
  rintro ds Q Xd ⟨d, rfl, ok, hq⟩
  refine ⟨rfl, ?_⟩
  have leaf : ((∃ i, d = .int i) ∨ (∃ b, d = .bl b) ∨ (∃ x, d = .str x) ∨ d = .non) → g_frozen (F_frozenP k) { nx := fun _ => Q .non, rt := Q, xc := fun x _ => Xd x } (dstart ["value", "item"] [d]) := by
    rintro (⟨i, rfl⟩ | ⟨b, rfl⟩ | ⟨x, rfl⟩ | rfl) <;>
    · show g_frozen _ _ [.val _, .no]
      simp -failIfUnchanged only [dSeqS, dSet, dSetO, dRet, dRetN, dIfS, dDrop, dNext, dBreak, dCont, dNever, dShow, dFor, dApp, dPutIx, dAsg, dOp, dUn, dTst, dTru, dAnd, dOr, dNot, dAndV, dOrV, dNotV, dIfE, dCons, dNil, dTup, dLst, dCB, dCall, dCallN, dC, dVar, dChain, dSeq, dRng1, dRng2, dZip, dComp, dYes, dgName, dgTup, dgCons, dgNil, dwipe, dPeek, dPeekT, dIxO, frzAt, dNoPart, dPart, dSl, dEqV, dNeV, q000, q001, q002, q003, q004, q005, q006, q007, q008, q009, q010, q011, q012, q013, q014, q015, q016, q017, q018, q019, q020, q021, q022, q023, q024, q025, q026, q027, q028, q029, q030, q031, q032, q033, q034, q035, q036, q037, q038, q039, q040, q041, q042, q043, q044, q045, q046, q047, q048, q049, q050, q051, q052, q053, q054, q055, List.getElem?_cons_zero, List.getElem?_cons_succ, List.set_cons_zero, List.set_cons_succ, List.cons_append, List.nil_append, List.append_nil, if_true, if_false, ite_true, ite_false, Bool.false_eq_true, decide_eq_true_eq, Bool.not_true, Bool.not_false, Bool.not_eq_true', decide_eq_false_iff_not, Bool.not_not, isi_int_int, isi_int_bool, isi_int_tuple, isi_int_str, isi_int_lt, isi_bl_int, isi_bl_bool, isi_bl_lt, isi_str_str, isi_str_lt, isi_non_lt, isi_tup_tuple, isi_lst_tuple, isi_tup_lt, isi_lst_lt, okEq_int, okEq_bl, okEq_non, okEq_ils, okEq_vec, deqv_int, deqv_bl, deqv_ils, deqv_vec, true_and, and_true, and_self, reduceCtorEq, not_true_eq_false, not_false_eq_true, false_imp_iff, true_imp_iff, forall_const, g_frozen]
      exact ⟨by decide, hq⟩
  have node : ∀ (k' : Nat) (ds : List D), k = k' + 1 → (d = .lst ds ∨ d = .tup ds) → (∀ e ∈ ds, okF k' e) → g_frozen (F_frozenP k) { nx := fun _ => Q .non, rt := Q, xc := fun x _ => Xd x } (dstart ["value", "item"] [d]) := by
    rintro k' ds rfl h he
    have hf : frozD d = .tup (ds.map frozD) := by rcases h with rfl | rfl <;> rw [frozD, frozDs_map]
    have go : dLoop (dgName 1) dYes (dCall (F_frozenP (k' + 1)) [] (dCons (dVar 1) dNil)) [.val d, .no] ds [] fun y => dTupleV [y] Q := by
      have e : ds = ds.map id := by simp
      rw [e]
      refine comp_map id frozD ds (fun x hx R hR => ?_) ?_
      · simp -failIfUnchanged only [dSeqS, dSet, dSetO, dRet, dRetN, dIfS, dDrop, dNext, dBreak, dCont, dNever, dShow, dFor, dApp, dPutIx, dAsg, dOp, dUn, dTst, dTru, dAnd, dOr, dNot, dAndV, dOrV, dNotV, dIfE, dCons, dNil, dTup, dLst, dCB, dCall, dCallN, dC, dVar, dChain, dSeq, dRng1, dRng2, dZip, dComp, dYes, dgName, dgTup, dgCons, dgNil, dwipe, dPeek, dPeekT, dIxO, frzAt, dNoPart, dPart, dSl, dEqV, dNeV, q000, q001, q002, q003, q004, q005, q006, q007, q008, q009, q010, q011, q012, q013, q014, q015, q016, q017, q018, q019, q020, q021, q022, q023, q024, q025, q026, q027, q028, q029, q030, q031, q032, q033, q034, q035, q036, q037, q038, q039, q040, q041, q042, q043, q044, q045, q046, q047, q048, q049, q050, q051, q052, q053, q054, q055, List.getElem?_cons_zero, List.getElem?_cons_succ, List.set_cons_zero, List.set_cons_succ, List.cons_append, List.nil_append, List.append_nil, if_true, if_false, ite_true, ite_false, Bool.false_eq_true, decide_eq_true_eq, Bool.not_true, Bool.not_false, Bool.not_eq_true', decide_eq_false_iff_not, Bool.not_not, isi_int_int, isi_int_bool, isi_int_tuple, isi_int_str, isi_int_lt, isi_bl_int, isi_bl_bool, isi_bl_lt, isi_str_str, isi_str_lt, isi_non_lt, isi_tup_tuple, isi_lst_tuple, isi_tup_lt, isi_lst_lt, okEq_int, okEq_bl, okEq_non, okEq_ils, okEq_vec, deqv_int, deqv_bl, deqv_ils, deqv_vec, true_and, and_true, and_self, reduceCtorEq, not_true_eq_false, not_false_eq_true, false_imp_iff, true_imp_iff, forall_const, id]
        exact ⟨x, rfl, he x hx, hR⟩
      · show Q (.tup (ds.map frozD))
        rw [← hf]
        exact hq
    show g_frozen _ _ [.val _, .no]
    rcases h with rfl | rfl <;>
    · simp -failIfUnchanged only [dSeqS, dSet, dSetO, dRet, dRetN, dIfS, dDrop, dNext, dBreak, dCont, dNever, dShow, dFor, dApp, dPutIx, dAsg, dOp, dUn, dTst, dTru, dAnd, dOr, dNot, dAndV, dOrV, dNotV, dIfE, dCons, dNil, dTup, dLst, dCB, dCall, dCallN, dC, dVar, dChain, dSeq, dRng1, dRng2, dZip, dComp, dYes, dgName, dgTup, dgCons, dgNil, dwipe, dPeek, dPeekT, dIxO, frzAt, dNoPart, dPart, dSl, dEqV, dNeV, q000, q001, q002, q003, q004, q005, q006, q007, q008, q009, q010, q011, q012, q013, q014, q015, q016, q017, q018, q019, q020, q021, q022, q023, q024, q025, q026, q027, q028, q029, q030, q031, q032, q033, q034, q035, q036, q037, q038, q039, q040, q041, q042, q043, q044, q045, q046, q047, q048, q049, q050, q051, q052, q053, q054, q055, List.getElem?_cons_zero, List.getElem?_cons_succ, List.set_cons_zero, List.set_cons_succ, List.cons_append, List.nil_append, List.append_nil, if_true, if_false, ite_true, ite_false, Bool.false_eq_true, decide_eq_true_eq, Bool.not_true, Bool.not_false, Bool.not_eq_true', decide_eq_false_iff_not, Bool.not_not, isi_int_int, isi_int_bool, isi_int_tuple, isi_int_str, isi_int_lt, isi_bl_int, isi_bl_bool, isi_bl_lt, isi_str_str, isi_str_lt, isi_non_lt, isi_tup_tuple, isi_lst_tuple, isi_tup_lt, isi_lst_lt, okEq_int, okEq_bl, okEq_non, okEq_ils, okEq_vec, deqv_int, deqv_bl, deqv_ils, deqv_vec, true_and, and_true, and_self, reduceCtorEq, not_true_eq_false, not_false_eq_true, false_imp_iff, true_imp_iff, forall_const, g_frozen]
      exact ⟨by decide, go⟩
  cases k with
  | zero => exact leaf ok
  | succ k' =>
    rcases ok with h | ⟨ds, h, he⟩
    · exact leaf h
    · exact node k' ds rfl h he
theorem does_zero_vector : Does ["width"] ["width"] F_zero_vector g_zero_vector := by
  rintro ds Q Xd ⟨w, rfl, h1, h2, hq⟩
  refine ⟨rfl, ?_⟩
  show g_zero_vector _ [.val _]
  simp -failIfUnchanged only [dSeqS, dSet, dSetO, dRet, dRetN, dIfS, dDrop, dNext, dBreak, dCont, dNever, dShow, dFor, dApp, dPutIx, dAsg, dOp, dUn, dTst, dTru, dAnd, dOr, dNot, dAndV, dOrV, dNotV, dIfE, dCons, dNil, dTup, dLst, dCB, dCall, dCallN, dC, dVar, dChain, dSeq, dRng1, dRng2, dZip, dComp, dYes, dgName, dgTup, dgCons, dgNil, dwipe, dPeek, dPeekT, dIxO, frzAt, dNoPart, dPart, dSl, dEqV, dNeV, q000, q001, q002, q003, q004, q005, q006, q007, q008, q009, q010, q011, q012, q013, q014, q015, q016, q017, q018, q019, q020, q021, q022, q023, q024, q025, q026, q027, q028, q029, q030, q031, q032, q033, q034, q035, q036, q037, q038, q039, q040, q041, q042, q043, q044, q045, q046, q047, q048, q049, q050, q051, q052, q053, q054, q055, List.getElem?_cons_zero, List.getElem?_cons_succ, List.set_cons_zero, List.set_cons_succ, List.cons_append, List.nil_append, List.append_nil, if_true, if_false, ite_true, ite_false, Bool.false_eq_true, decide_eq_true_eq, Bool.not_true, Bool.not_false, Bool.not_eq_true', decide_eq_false_iff_not, Bool.not_not, isi_int_int, isi_int_bool, isi_int_tuple, isi_int_str, isi_int_lt, isi_bl_int, isi_bl_bool, isi_bl_lt, isi_str_str, isi_str_lt, isi_non_lt, isi_tup_tuple, isi_lst_tuple, isi_tup_lt, isi_lst_lt, okEq_int, okEq_bl, okEq_non, okEq_ils, okEq_vec, deqv_int, deqv_bl, deqv_ils, deqv_vec, true_and, and_true, and_self, reduceCtorEq, not_true_eq_false, not_false_eq_true, false_imp_iff, true_imp_iff, forall_const, g_zero_vector]
  refine ⟨by decide, by simp, h1, h2, by decide, ?_⟩
  have e : (List.replicate w.toNat [D.int 0]).flatten = (List.replicate w.toNat (0 : Int)).map .int := by
    rw [List.map_replicate]
    generalize w.toNat = n
    induction n with
    | zero => rfl
    | succ n ih => rw [List.replicate_succ, List.flatten_cons, ih, List.replicate_succ]; rfl
  rw [e]
  exact hq
theorem does_added : Does ["one", "two", "first", "second"] ["one", "two"] F_added g_added := by
  rintro ds Q Xd ⟨x, y, a, b, rfl, hx, hy, hq⟩
  refine ⟨rfl, ?_⟩
  show g_added _ [.val _, .val _, .no, .no]
  simp -failIfUnchanged only [dSeqS, dSet, dSetO, dRet, dRetN, dIfS, dDrop, dNext, dBreak, dCont, dNever, dShow, dFor, dApp, dPutIx, dAsg, dOp, dUn, dTst, dTru, dAnd, dOr, dNot, dAndV, dOrV, dNotV, dIfE, dCons, dNil, dTup, dLst, dCB, dCall, dCallN, dC, dVar, dChain, dSeq, dRng1, dRng2, dZip, dComp, dYes, dgName, dgTup, dgCons, dgNil, dwipe, dPeek, dPeekT, dIxO, frzAt, dNoPart, dPart, dSl, dEqV, dNeV, q000, q001, q002, q003, q004, q005, q006, q007, q008, q009, q010, q011, q012, q013, q014, q015, q016, q017, q018, q019, q020, q021, q022, q023, q024, q025, q026, q027, q028, q029, q030, q031, q032, q033, q034, q035, q036, q037, q038, q039, q040, q041, q042, q043, q044, q045, q046, q047, q048, q049, q050, q051, q052, q053, q054, q055, List.getElem?_cons_zero, List.getElem?_cons_succ, List.set_cons_zero, List.set_cons_succ, List.cons_append, List.nil_append, List.append_nil, if_true, if_false, ite_true, ite_false, Bool.false_eq_true, decide_eq_true_eq, Bool.not_true, Bool.not_false, Bool.not_eq_true', decide_eq_false_iff_not, Bool.not_not, isi_int_int, isi_int_bool, isi_int_tuple, isi_int_str, isi_int_lt, isi_bl_int, isi_bl_bool, isi_bl_lt, isi_str_str, isi_str_lt, isi_non_lt, isi_tup_tuple, isi_lst_tuple, isi_tup_lt, isi_lst_lt, okEq_int, okEq_bl, okEq_non, okEq_ils, okEq_vec, deqv_int, deqv_bl, deqv_ils, deqv_vec, true_and, and_true, and_self, reduceCtorEq, not_true_eq_false, not_false_eq_true, false_imp_iff, true_imp_iff, forall_const, g_added]
  refine ⟨_, _, hx, hy, ?_⟩
  rw [zip_ints]
  refine comp_map (fun p : Int × Int => D.tup [.int p.1, .int p.2]) (fun p => .int (p.1 + p.2)) (a.zip b) (fun p _ R hR => ?_) ?_
  · simp -failIfUnchanged only [dSeqS, dSet, dSetO, dRet, dRetN, dIfS, dDrop, dNext, dBreak, dCont, dNever, dShow, dFor, dApp, dPutIx, dAsg, dOp, dUn, dTst, dTru, dAnd, dOr, dNot, dAndV, dOrV, dNotV, dIfE, dCons, dNil, dTup, dLst, dCB, dCall, dCallN, dC, dVar, dChain, dSeq, dRng1, dRng2, dZip, dComp, dYes, dgName, dgTup, dgCons, dgNil, dwipe, dPeek, dPeekT, dIxO, frzAt, dNoPart, dPart, dSl, dEqV, dNeV, q000, q001, q002, q003, q004, q005, q006, q007, q008, q009, q010, q011, q012, q013, q014, q015, q016, q017, q018, q019, q020, q021, q022, q023, q024, q025, q026, q027, q028, q029, q030, q031, q032, q033, q034, q035, q036, q037, q038, q039, q040, q041, q042, q043, q044, q045, q046, q047, q048, q049, q050, q051, q052, q053, q054, q055, List.getElem?_cons_zero, List.getElem?_cons_succ, List.set_cons_zero, List.set_cons_succ, List.cons_append, List.nil_append, List.append_nil, if_true, if_false, ite_true, ite_false, Bool.false_eq_true, decide_eq_true_eq, Bool.not_true, Bool.not_false, Bool.not_eq_true', decide_eq_false_iff_not, Bool.not_not, isi_int_int, isi_int_bool, isi_int_tuple, isi_int_str, isi_int_lt, isi_bl_int, isi_bl_bool, isi_bl_lt, isi_str_str, isi_str_lt, isi_non_lt, isi_tup_tuple, isi_lst_tuple, isi_tup_lt, isi_lst_lt, okEq_int, okEq_bl, okEq_non, okEq_ils, okEq_vec, deqv_int, deqv_bl, deqv_ils, deqv_vec, true_and, and_true, and_self, reduceCtorEq, not_true_eq_false, not_false_eq_true, false_imp_iff, true_imp_iff, forall_const]
    exact ⟨rfl, hR⟩
  · simp -failIfUnchanged only [dSeqS, dSet, dSetO, dRet, dRetN, dIfS, dDrop, dNext, dBreak, dCont, dNever, dShow, dFor, dApp, dPutIx, dAsg, dOp, dUn, dTst, dTru, dAnd, dOr, dNot, dAndV, dOrV, dNotV, dIfE, dCons, dNil, dTup, dLst, dCB, dCall, dCallN, dC, dVar, dChain, dSeq, dRng1, dRng2, dZip, dComp, dYes, dgName, dgTup, dgCons, dgNil, dwipe, dPeek, dPeekT, dIxO, frzAt, dNoPart, dPart, dSl, dEqV, dNeV, q000, q001, q002, q003, q004, q005, q006, q007, q008, q009, q010, q011, q012, q013, q014, q015, q016, q017, q018, q019, q020, q021, q022, q023, q024, q025, q026, q027, q028, q029, q030, q031, q032, q033, q034, q035, q036, q037, q038, q039, q040, q041, q042, q043, q044, q045, q046, q047, q048, q049, q050, q051, q052, q053, q054, q055, List.getElem?_cons_zero, List.getElem?_cons_succ, List.set_cons_zero, List.set_cons_succ, List.cons_append, List.nil_append, List.append_nil, if_true, if_false, ite_true, ite_false, Bool.false_eq_true, decide_eq_true_eq, Bool.not_true, Bool.not_false, Bool.not_eq_true', decide_eq_false_iff_not, Bool.not_not, isi_int_int, isi_int_bool, isi_int_tuple, isi_int_str, isi_int_lt, isi_bl_int, isi_bl_bool, isi_bl_lt, isi_str_str, isi_str_lt, isi_non_lt, isi_tup_tuple, isi_lst_tuple, isi_tup_lt, isi_lst_lt, okEq_int, okEq_bl, okEq_non, okEq_ils, okEq_vec, deqv_int, deqv_bl, deqv_ils, deqv_vec, true_and, and_true, and_self, reduceCtorEq, not_true_eq_false, not_false_eq_true, false_imp_iff, true_imp_iff, forall_const]
    have e : (a.zip b).map (fun p => D.int (p.1 + p.2)) = (vadd a b).map .int := by
      unfold vadd
      rw [List.map_zipWith, List.zip, List.map_zipWith]
    rw [e]
    exact hq
theorem does_times : Does ["number", "vector", "entry"] ["number", "vector"] F_times g_times := by
  rintro ds Q Xd ⟨n, x, a, rfl, hx, hm, hq⟩
  refine ⟨rfl, ?_⟩
  show g_times _ [.val _, .val _, .no]
  simp -failIfUnchanged only [dSeqS, dSet, dSetO, dRet, dRetN, dIfS, dDrop, dNext, dBreak, dCont, dNever, dShow, dFor, dApp, dPutIx, dAsg, dOp, dUn, dTst, dTru, dAnd, dOr, dNot, dAndV, dOrV, dNotV, dIfE, dCons, dNil, dTup, dLst, dCB, dCall, dCallN, dC, dVar, dChain, dSeq, dRng1, dRng2, dZip, dComp, dYes, dgName, dgTup, dgCons, dgNil, dwipe, dPeek, dPeekT, dIxO, frzAt, dNoPart, dPart, dSl, dEqV, dNeV, q000, q001, q002, q003, q004, q005, q006, q007, q008, q009, q010, q011, q012, q013, q014, q015, q016, q017, q018, q019, q020, q021, q022, q023, q024, q025, q026, q027, q028, q029, q030, q031, q032, q033, q034, q035, q036, q037, q038, q039, q040, q041, q042, q043, q044, q045, q046, q047, q048, q049, q050, q051, q052, q053, q054, q055, List.getElem?_cons_zero, List.getElem?_cons_succ, List.set_cons_zero, List.set_cons_succ, List.cons_append, List.nil_append, List.append_nil, if_true, if_false, ite_true, ite_false, Bool.false_eq_true, decide_eq_true_eq, Bool.not_true, Bool.not_false, Bool.not_eq_true', decide_eq_false_iff_not, Bool.not_not, isi_int_int, isi_int_bool, isi_int_tuple, isi_int_str, isi_int_lt, isi_bl_int, isi_bl_bool, isi_bl_lt, isi_str_str, isi_str_lt, isi_non_lt, isi_tup_tuple, isi_lst_tuple, isi_tup_lt, isi_lst_lt, okEq_int, okEq_bl, okEq_non, okEq_ils, okEq_vec, deqv_int, deqv_bl, deqv_ils, deqv_vec, true_and, and_true, and_self, reduceCtorEq, not_true_eq_false, not_false_eq_true, false_imp_iff, true_imp_iff, forall_const, g_times, hx.items]
  refine comp_map D.int (fun y => .int (n * y)) a (fun y hy R hR => ?_) ?_
  · simp -failIfUnchanged only [dSeqS, dSet, dSetO, dRet, dRetN, dIfS, dDrop, dNext, dBreak, dCont, dNever, dShow, dFor, dApp, dPutIx, dAsg, dOp, dUn, dTst, dTru, dAnd, dOr, dNot, dAndV, dOrV, dNotV, dIfE, dCons, dNil, dTup, dLst, dCB, dCall, dCallN, dC, dVar, dChain, dSeq, dRng1, dRng2, dZip, dComp, dYes, dgName, dgTup, dgCons, dgNil, dwipe, dPeek, dPeekT, dIxO, frzAt, dNoPart, dPart, dSl, dEqV, dNeV, q000, q001, q002, q003, q004, q005, q006, q007, q008, q009, q010, q011, q012, q013, q014, q015, q016, q017, q018, q019, q020, q021, q022, q023, q024, q025, q026, q027, q028, q029, q030, q031, q032, q033, q034, q035, q036, q037, q038, q039, q040, q041, q042, q043, q044, q045, q046, q047, q048, q049, q050, q051, q052, q053, q054, q055, List.getElem?_cons_zero, List.getElem?_cons_succ, List.set_cons_zero, List.set_cons_succ, List.cons_append, List.nil_append, List.append_nil, if_true, if_false, ite_true, ite_false, Bool.false_eq_true, decide_eq_true_eq, Bool.not_true, Bool.not_false, Bool.not_eq_true', decide_eq_false_iff_not, Bool.not_not, isi_int_int, isi_int_bool, isi_int_tuple, isi_int_str, isi_int_lt, isi_bl_int, isi_bl_bool, isi_bl_lt, isi_str_str, isi_str_lt, isi_non_lt, isi_tup_tuple, isi_lst_tuple, isi_tup_lt, isi_lst_lt, okEq_int, okEq_bl, okEq_non, okEq_ils, okEq_vec, deqv_int, deqv_bl, deqv_ils, deqv_vec, true_and, and_true, and_self, reduceCtorEq, not_true_eq_false, not_false_eq_true, false_imp_iff, true_imp_iff, forall_const]
    exact ⟨hm y hy, hR⟩
  · simp -failIfUnchanged only [dSeqS, dSet, dSetO, dRet, dRetN, dIfS, dDrop, dNext, dBreak, dCont, dNever, dShow, dFor, dApp, dPutIx, dAsg, dOp, dUn, dTst, dTru, dAnd, dOr, dNot, dAndV, dOrV, dNotV, dIfE, dCons, dNil, dTup, dLst, dCB, dCall, dCallN, dC, dVar, dChain, dSeq, dRng1, dRng2, dZip, dComp, dYes, dgName, dgTup, dgCons, dgNil, dwipe, dPeek, dPeekT, dIxO, frzAt, dNoPart, dPart, dSl, dEqV, dNeV, q000, q001, q002, q003, q004, q005, q006, q007, q008, q009, q010, q011, q012, q013, q014, q015, q016, q017, q018, q019, q020, q021, q022, q023, q024, q025, q026, q027, q028, q029, q030, q031, q032, q033, q034, q035, q036, q037, q038, q039, q040, q041, q042, q043, q044, q045, q046, q047, q048, q049, q050, q051, q052, q053, q054, q055, List.getElem?_cons_zero, List.getElem?_cons_succ, List.set_cons_zero, List.set_cons_succ, List.cons_append, List.nil_append, List.append_nil, if_true, if_false, ite_true, ite_false, Bool.false_eq_true, decide_eq_true_eq, Bool.not_true, Bool.not_false, Bool.not_eq_true', decide_eq_false_iff_not, Bool.not_not, isi_int_int, isi_int_bool, isi_int_tuple, isi_int_str, isi_int_lt, isi_bl_int, isi_bl_bool, isi_bl_lt, isi_str_str, isi_str_lt, isi_non_lt, isi_tup_tuple, isi_lst_tuple, isi_tup_lt, isi_lst_lt, okEq_int, okEq_bl, okEq_non, okEq_ils, okEq_vec, deqv_int, deqv_bl, deqv_ils, deqv_vec, true_and, and_true, and_self, reduceCtorEq, not_true_eq_false, not_false_eq_true, false_imp_iff, true_imp_iff, forall_const]
    have e : a.map (fun y => D.int (n * y)) = (vmul n a).map .int := by simp [vmul]
    rw [e]
    exact hq
theorem does_signs_of : Does ["vector", "entry"] ["vector"] F_signs_of g_signs_of := by
  rintro ds Q Xd ⟨x, a, rfl, hx, hq⟩
  refine ⟨rfl, ?_⟩
  show g_signs_of _ [.val _, .no]
  simp -failIfUnchanged only [dSeqS, dSet, dSetO, dRet, dRetN, dIfS, dDrop, dNext, dBreak, dCont, dNever, dShow, dFor, dApp, dPutIx, dAsg, dOp, dUn, dTst, dTru, dAnd, dOr, dNot, dAndV, dOrV, dNotV, dIfE, dCons, dNil, dTup, dLst, dCB, dCall, dCallN, dC, dVar, dChain, dSeq, dRng1, dRng2, dZip, dComp, dYes, dgName, dgTup, dgCons, dgNil, dwipe, dPeek, dPeekT, dIxO, frzAt, dNoPart, dPart, dSl, dEqV, dNeV, q000, q001, q002, q003, q004, q005, q006, q007, q008, q009, q010, q011, q012, q013, q014, q015, q016, q017, q018, q019, q020, q021, q022, q023, q024, q025, q026, q027, q028, q029, q030, q031, q032, q033, q034, q035, q036, q037, q038, q039, q040, q041, q042, q043, q044, q045, q046, q047, q048, q049, q050, q051, q052, q053, q054, q055, List.getElem?_cons_zero, List.getElem?_cons_succ, List.set_cons_zero, List.set_cons_succ, List.cons_append, List.nil_append, List.append_nil, if_true, if_false, ite_true, ite_false, Bool.false_eq_true, decide_eq_true_eq, Bool.not_true, Bool.not_false, Bool.not_eq_true', decide_eq_false_iff_not, Bool.not_not, isi_int_int, isi_int_bool, isi_int_tuple, isi_int_str, isi_int_lt, isi_bl_int, isi_bl_bool, isi_bl_lt, isi_str_str, isi_str_lt, isi_non_lt, isi_tup_tuple, isi_lst_tuple, isi_tup_lt, isi_lst_lt, okEq_int, okEq_bl, okEq_non, okEq_ils, okEq_vec, deqv_int, deqv_bl, deqv_ils, deqv_vec, true_and, and_true, and_self, reduceCtorEq, not_true_eq_false, not_false_eq_true, false_imp_iff, true_imp_iff, forall_const, g_signs_of, hx.items]
  refine comp_map D.int (fun y => .int (sg y)) a (fun y hy R hR => ?_) ?_
  · simp -failIfUnchanged only [dSeqS, dSet, dSetO, dRet, dRetN, dIfS, dDrop, dNext, dBreak, dCont, dNever, dShow, dFor, dApp, dPutIx, dAsg, dOp, dUn, dTst, dTru, dAnd, dOr, dNot, dAndV, dOrV, dNotV, dIfE, dCons, dNil, dTup, dLst, dCB, dCall, dCallN, dC, dVar, dChain, dSeq, dRng1, dRng2, dZip, dComp, dYes, dgName, dgTup, dgCons, dgNil, dwipe, dPeek, dPeekT, dIxO, frzAt, dNoPart, dPart, dSl, dEqV, dNeV, q000, q001, q002, q003, q004, q005, q006, q007, q008, q009, q010, q011, q012, q013, q014, q015, q016, q017, q018, q019, q020, q021, q022, q023, q024, q025, q026, q027, q028, q029, q030, q031, q032, q033, q034, q035, q036, q037, q038, q039, q040, q041, q042, q043, q044, q045, q046, q047, q048, q049, q050, q051, q052, q053, q054, q055, List.getElem?_cons_zero, List.getElem?_cons_succ, List.set_cons_zero, List.set_cons_succ, List.cons_append, List.nil_append, List.append_nil, if_true, if_false, ite_true, ite_false, Bool.false_eq_true, decide_eq_true_eq, Bool.not_true, Bool.not_false, Bool.not_eq_true', decide_eq_false_iff_not, Bool.not_not, isi_int_int, isi_int_bool, isi_int_tuple, isi_int_str, isi_int_lt, isi_bl_int, isi_bl_bool, isi_bl_lt, isi_str_str, isi_str_lt, isi_non_lt, isi_tup_tuple, isi_lst_tuple, isi_tup_lt, isi_lst_lt, okEq_int, okEq_bl, okEq_non, okEq_ils, okEq_vec, deqv_int, deqv_bl, deqv_ils, deqv_vec, true_and, and_true, and_self, reduceCtorEq, not_true_eq_false, not_false_eq_true, false_imp_iff, true_imp_iff, forall_const]
    by_cases h : y < 0
    · simpa [h, sg] using hR
    · simpa [h, sg] using hR
  · simp -failIfUnchanged only [dSeqS, dSet, dSetO, dRet, dRetN, dIfS, dDrop, dNext, dBreak, dCont, dNever, dShow, dFor, dApp, dPutIx, dAsg, dOp, dUn, dTst, dTru, dAnd, dOr, dNot, dAndV, dOrV, dNotV, dIfE, dCons, dNil, dTup, dLst, dCB, dCall, dCallN, dC, dVar, dChain, dSeq, dRng1, dRng2, dZip, dComp, dYes, dgName, dgTup, dgCons, dgNil, dwipe, dPeek, dPeekT, dIxO, frzAt, dNoPart, dPart, dSl, dEqV, dNeV, q000, q001, q002, q003, q004, q005, q006, q007, q008, q009, q010, q011, q012, q013, q014, q015, q016, q017, q018, q019, q020, q021, q022, q023, q024, q025, q026, q027, q028, q029, q030, q031, q032, q033, q034, q035, q036, q037, q038, q039, q040, q041, q042, q043, q044, q045, q046, q047, q048, q049, q050, q051, q052, q053, q054, q055, List.getElem?_cons_zero, List.getElem?_cons_succ, List.set_cons_zero, List.set_cons_succ, List.cons_append, List.nil_append, List.append_nil, if_true, if_false, ite_true, ite_false, Bool.false_eq_true, decide_eq_true_eq, Bool.not_true, Bool.not_false, Bool.not_eq_true', decide_eq_false_iff_not, Bool.not_not, isi_int_int, isi_int_bool, isi_int_tuple, isi_int_str, isi_int_lt, isi_bl_int, isi_bl_bool, isi_bl_lt, isi_str_str, isi_str_lt, isi_non_lt, isi_tup_tuple, isi_lst_tuple, isi_tup_lt, isi_lst_lt, okEq_int, okEq_bl, okEq_non, okEq_ils, okEq_vec, deqv_int, deqv_bl, deqv_ils, deqv_vec, true_and, and_true, and_self, reduceCtorEq, not_true_eq_false, not_false_eq_true, false_imp_iff, true_imp_iff, forall_const]
    have e : a.map (fun y => D.int (sg y)) = (a.map sg).map .int := by simp
    rw [e]
    exact hq
theorem does_has_signs : Does ["vector", "signs", "entry", "sign"] ["vector", "signs"] F_has_signs g_has_signs := by
  rintro ds Q Xd ⟨x, y, a, b, rfl, hx, hy, hb, hq⟩
  refine ⟨rfl, ?_⟩
  show g_has_signs _ [.val _, .val _, .no, .no]
  simp -failIfUnchanged only [dSeqS, dSet, dSetO, dRet, dRetN, dIfS, dDrop, dNext, dBreak, dCont, dNever, dShow, dFor, dApp, dPutIx, dAsg, dOp, dUn, dTst, dTru, dAnd, dOr, dNot, dAndV, dOrV, dNotV, dIfE, dCons, dNil, dTup, dLst, dCB, dCall, dCallN, dC, dVar, dChain, dSeq, dRng1, dRng2, dZip, dComp, dYes, dgName, dgTup, dgCons, dgNil, dwipe, dPeek, dPeekT, dIxO, frzAt, dNoPart, dPart, dSl, dEqV, dNeV, q000, q001, q002, q003, q004, q005, q006, q007, q008, q009, q010, q011, q012, q013, q014, q015, q016, q017, q018, q019, q020, q021, q022, q023, q024, q025, q026, q027, q028, q029, q030, q031, q032, q033, q034, q035, q036, q037, q038, q039, q040, q041, q042, q043, q044, q045, q046, q047, q048, q049, q050, q051, q052, q053, q054, q055, List.getElem?_cons_zero, List.getElem?_cons_succ, List.set_cons_zero, List.set_cons_succ, List.cons_append, List.nil_append, List.append_nil, if_true, if_false, ite_true, ite_false, Bool.false_eq_true, decide_eq_true_eq, Bool.not_true, Bool.not_false, Bool.not_eq_true', decide_eq_false_iff_not, Bool.not_not, isi_int_int, isi_int_bool, isi_int_tuple, isi_int_str, isi_int_lt, isi_bl_int, isi_bl_bool, isi_bl_lt, isi_str_str, isi_str_lt, isi_non_lt, isi_tup_tuple, isi_lst_tuple, isi_tup_lt, isi_lst_lt, okEq_int, okEq_bl, okEq_non, okEq_ils, okEq_vec, deqv_int, deqv_bl, deqv_ils, deqv_vec, true_and, and_true, and_self, reduceCtorEq, not_true_eq_false, not_false_eq_true, false_imp_iff, true_imp_iff, forall_const, g_has_signs, hx.len, hy.len]
  by_cases h : a.length = b.length
  · simp only [h]
    simp -failIfUnchanged only [dSeqS, dSet, dSetO, dRet, dRetN, dIfS, dDrop, dNext, dBreak, dCont, dNever, dShow, dFor, dApp, dPutIx, dAsg, dOp, dUn, dTst, dTru, dAnd, dOr, dNot, dAndV, dOrV, dNotV, dIfE, dCons, dNil, dTup, dLst, dCB, dCall, dCallN, dC, dVar, dChain, dSeq, dRng1, dRng2, dZip, dComp, dYes, dgName, dgTup, dgCons, dgNil, dwipe, dPeek, dPeekT, dIxO, frzAt, dNoPart, dPart, dSl, dEqV, dNeV, q000, q001, q002, q003, q004, q005, q006, q007, q008, q009, q010, q011, q012, q013, q014, q015, q016, q017, q018, q019, q020, q021, q022, q023, q024, q025, q026, q027, q028, q029, q030, q031, q032, q033, q034, q035, q036, q037, q038, q039, q040, q041, q042, q043, q044, q045, q046, q047, q048, q049, q050, q051, q052, q053, q054, q055, List.getElem?_cons_zero, List.getElem?_cons_succ, List.set_cons_zero, List.set_cons_succ, List.cons_append, List.nil_append, List.append_nil, if_true, if_false, ite_true, ite_false, Bool.false_eq_true, decide_eq_true_eq, Bool.not_true, Bool.not_false, Bool.not_eq_true', decide_eq_false_iff_not, Bool.not_not, isi_int_int, isi_int_bool, isi_int_tuple, isi_int_str, isi_int_lt, isi_bl_int, isi_bl_bool, isi_bl_lt, isi_str_str, isi_str_lt, isi_non_lt, isi_tup_tuple, isi_lst_tuple, isi_tup_lt, isi_lst_lt, okEq_int, okEq_bl, okEq_non, okEq_ils, okEq_vec, deqv_int, deqv_bl, deqv_ils, deqv_vec, true_and, and_true, and_self, reduceCtorEq, not_true_eq_false, not_false_eq_true, false_imp_iff, true_imp_iff, forall_const]
    refine ⟨_, _, hx, hy, ?_⟩
    rw [zip_ints]
    refine comp_map (fun p : Int × Int => D.tup [.int p.1, .int p.2]) (fun p => .bl (decide (p.1 * p.2 ≥ 0))) (a.zip b) (fun p hp R hR => ?_) ?_
    · simp -failIfUnchanged only [dSeqS, dSet, dSetO, dRet, dRetN, dIfS, dDrop, dNext, dBreak, dCont, dNever, dShow, dFor, dApp, dPutIx, dAsg, dOp, dUn, dTst, dTru, dAnd, dOr, dNot, dAndV, dOrV, dNotV, dIfE, dCons, dNil, dTup, dLst, dCB, dCall, dCallN, dC, dVar, dChain, dSeq, dRng1, dRng2, dZip, dComp, dYes, dgName, dgTup, dgCons, dgNil, dwipe, dPeek, dPeekT, dIxO, frzAt, dNoPart, dPart, dSl, dEqV, dNeV, q000, q001, q002, q003, q004, q005, q006, q007, q008, q009, q010, q011, q012, q013, q014, q015, q016, q017, q018, q019, q020, q021, q022, q023, q024, q025, q026, q027, q028, q029, q030, q031, q032, q033, q034, q035, q036, q037, q038, q039, q040, q041, q042, q043, q044, q045, q046, q047, q048, q049, q050, q051, q052, q053, q054, q055, List.getElem?_cons_zero, List.getElem?_cons_succ, List.set_cons_zero, List.set_cons_succ, List.cons_append, List.nil_append, List.append_nil, if_true, if_false, ite_true, ite_false, Bool.false_eq_true, decide_eq_true_eq, Bool.not_true, Bool.not_false, Bool.not_eq_true', decide_eq_false_iff_not, Bool.not_not, isi_int_int, isi_int_bool, isi_int_tuple, isi_int_str, isi_int_lt, isi_bl_int, isi_bl_bool, isi_bl_lt, isi_str_str, isi_str_lt, isi_non_lt, isi_tup_tuple, isi_lst_tuple, isi_tup_lt, isi_lst_lt, okEq_int, okEq_bl, okEq_non, okEq_ils, okEq_vec, deqv_int, deqv_bl, deqv_ils, deqv_vec, true_and, and_true, and_self, reduceCtorEq, not_true_eq_false, not_false_eq_true, false_imp_iff, true_imp_iff, forall_const]
      exact ⟨rfl, .inl (.inr (hb p.2 (List.of_mem_zip (a := p.1) (b := p.2) hp).2)), hR⟩
    · simp -failIfUnchanged only [dSeqS, dSet, dSetO, dRet, dRetN, dIfS, dDrop, dNext, dBreak, dCont, dNever, dShow, dFor, dApp, dPutIx, dAsg, dOp, dUn, dTst, dTru, dAnd, dOr, dNot, dAndV, dOrV, dNotV, dIfE, dCons, dNil, dTup, dLst, dCB, dCall, dCallN, dC, dVar, dChain, dSeq, dRng1, dRng2, dZip, dComp, dYes, dgName, dgTup, dgCons, dgNil, dwipe, dPeek, dPeekT, dIxO, frzAt, dNoPart, dPart, dSl, dEqV, dNeV, q000, q001, q002, q003, q004, q005, q006, q007, q008, q009, q010, q011, q012, q013, q014, q015, q016, q017, q018, q019, q020, q021, q022, q023, q024, q025, q026, q027, q028, q029, q030, q031, q032, q033, q034, q035, q036, q037, q038, q039, q040, q041, q042, q043, q044, q045, q046, q047, q048, q049, q050, q051, q052, q053, q054, q055, List.getElem?_cons_zero, List.getElem?_cons_succ, List.set_cons_zero, List.set_cons_succ, List.cons_append, List.nil_append, List.append_nil, if_true, if_false, ite_true, ite_false, Bool.false_eq_true, decide_eq_true_eq, Bool.not_true, Bool.not_false, Bool.not_eq_true', decide_eq_false_iff_not, Bool.not_not, isi_int_int, isi_int_bool, isi_int_tuple, isi_int_str, isi_int_lt, isi_bl_int, isi_bl_bool, isi_bl_lt, isi_str_str, isi_str_lt, isi_non_lt, isi_tup_tuple, isi_lst_tuple, isi_tup_lt, isi_lst_lt, okEq_int, okEq_bl, okEq_non, okEq_ils, okEq_vec, deqv_int, deqv_bl, deqv_ils, deqv_vec, true_and, and_true, and_self, reduceCtorEq, not_true_eq_false, not_false_eq_true, false_imp_iff, true_imp_iff, forall_const]
      refine ⟨List.zipWith (fun x y => decide (x * y ≥ 0)) a b, ?_, ?_⟩
      · rw [List.map_zipWith, List.zip, List.map_zipWith]
      · have e : hasSigns a b = (List.zipWith (fun x y => decide (x * y ≥ 0)) a b).all id := by simp [hasSigns, h]
        rw [← e]
        exact hq
  · have h' : ¬ ((a.length : Int) = b.length) := by omega
    simp only [h']
    simp -failIfUnchanged only [dSeqS, dSet, dSetO, dRet, dRetN, dIfS, dDrop, dNext, dBreak, dCont, dNever, dShow, dFor, dApp, dPutIx, dAsg, dOp, dUn, dTst, dTru, dAnd, dOr, dNot, dAndV, dOrV, dNotV, dIfE, dCons, dNil, dTup, dLst, dCB, dCall, dCallN, dC, dVar, dChain, dSeq, dRng1, dRng2, dZip, dComp, dYes, dgName, dgTup, dgCons, dgNil, dwipe, dPeek, dPeekT, dIxO, frzAt, dNoPart, dPart, dSl, dEqV, dNeV, q000, q001, q002, q003, q004, q005, q006, q007, q008, q009, q010, q011, q012, q013, q014, q015, q016, q017, q018, q019, q020, q021, q022, q023, q024, q025, q026, q027, q028, q029, q030, q031, q032, q033, q034, q035, q036, q037, q038, q039, q040, q041, q042, q043, q044, q045, q046, q047, q048, q049, q050, q051, q052, q053, q054, q055, List.getElem?_cons_zero, List.getElem?_cons_succ, List.set_cons_zero, List.set_cons_succ, List.cons_append, List.nil_append, List.append_nil, if_true, if_false, ite_true, ite_false, Bool.false_eq_true, decide_eq_true_eq, Bool.not_true, Bool.not_false, Bool.not_eq_true', decide_eq_false_iff_not, Bool.not_not, isi_int_int, isi_int_bool, isi_int_tuple, isi_int_str, isi_int_lt, isi_bl_int, isi_bl_bool, isi_bl_lt, isi_str_str, isi_str_lt, isi_non_lt, isi_tup_tuple, isi_lst_tuple, isi_tup_lt, isi_lst_lt, okEq_int, okEq_bl, okEq_non, okEq_ils, okEq_vec, deqv_int, deqv_bl, deqv_ils, deqv_vec, true_and, and_true, and_self, reduceCtorEq, not_true_eq_false, not_false_eq_true, false_imp_iff, true_imp_iff, forall_const]
    have e : hasSigns a b = false := by simp [hasSigns, h]
    rw [← e]
    exact hq
end L2.DL

-- K00G
set_option Elab.async false
set_option linter.all false
set_option maxRecDepth 100000
set_option maxHeartbeats 1000000
namespace L2.DL
open PySem PySem.Spec PyProof.Rows
/-! # digit rows -/
def rowAt (b : Nat) (a : List Int) (t : Nat) : List Int := a.map fun x => sg x * ((x.natAbs / b ^ t % b : Nat) : Int)
def leftAt (b : Nat) (a : List Int) (t : Nat) : List Int := a.map fun x => ((x.natAbs / b ^ t : Nat) : Int)
/-- so many digits -/
structure isN (b : Nat) (a : List Int) (n : Nat) : Prop where
  top : ∀ x ∈ a, x.natAbs / b ^ n = 0
  low : ∀ m, m < n → ∃ x ∈ a, 0 < x.natAbs / b ^ m
theorem isN.uniq {b n m : Nat} {a : List Int} (hb : 1 < b) (h : isN b a n) (h' : isN b a m) : n = m := by
  have key : ∀ {n m : Nat}, isN b a n → isN b a m → ¬ n < m := fun {n m} h h' hlt => by
    obtain ⟨x, hx, hp⟩ := h'.low n hlt
    rw [h.top x hx] at hp
    exact absurd hp (Nat.lt_irrefl _)
  rcases Nat.lt_trichotomy n m with z | z | z
  · exact absurd z (key h h')
  · exact z
  · exact absurd z (key h' h)
def figs (b : Nat) (a : List Int) (n : Nat) : List (List Int) := (List.range n).reverse.map (rowAt b a)
theorem figs_len (b : Nat) (a : List Int) (n : Nat) : (figs b a n).length = n := by simp [figs]
theorem lt_pow {b t : Nat} (hb : 2 ≤ b) : t < b ^ t := Nat.lt_of_lt_of_le (Nat.lt_two_pow_self) (Nat.pow_le_pow_left hb t)
theorem small_of_pos {b t x : Nat} (hb : 2 ≤ b) (h : 0 < x / b ^ t) : t < x := by
  have h1 : b ^ t ≤ x := by
    by_cases z : x < b ^ t
    · rw [Nat.div_eq_of_lt z] at h; exact absurd h (Nat.lt_irrefl _)
    · omega
  exact Nat.lt_of_lt_of_le (lt_pow hb) h1
theorem pos_lt {b t x N : Nat} (hb : 2 ≤ b) (h : 0 < x / b ^ t) (hx : x < 2 ^ N) : t < N := by
  have h1 : b ^ t ≤ x := by
    by_cases z : x < b ^ t
    · rw [Nat.div_eq_of_lt z] at h; exact absurd h (Nat.lt_irrefl _)
    · omega
  have h2 : 2 ^ t ≤ b ^ t := Nat.pow_le_pow_left hb t
  exact (Nat.pow_lt_pow_iff_right (by decide)).mp (Nat.lt_of_le_of_lt (Nat.le_trans h2 h1) hx)
theorem le_sum : ∀ {l : List Nat} {x : Nat}, x ∈ l → x ≤ l.sum
  | y :: l, x, h => by
    rw [List.sum_cons]
    rcases List.mem_cons.mp h with rfl | h
    · omega
    · have := le_sum h; omega
theorem left_zero (b : Nat) (a : List Int) : leftAt b a 0 = a.map fun x => ((x.natAbs : Nat) : Int) := by simp [leftAt]
theorem left_next (b : Nat) (a : List Int) (t : Nat) : (leftAt b a t).map (fun x => x / (b : Int)) = leftAt b a (t + 1) := by
  unfold leftAt
  rw [List.map_map]
  refine List.map_congr_left fun x _ => ?_
  show ((x.natAbs / b ^ t : Nat) : Int) / (b : Int) = _
  rw [← Int.natCast_ediv, Nat.div_div_eq_div_mul, Nat.pow_succ]
theorem row_zip (b : Nat) (a : List Int) (t : Nat) : ((a.map sg).zip (leftAt b a t)).map (fun p => p.1 * (p.2 % (b : Int))) = rowAt b a t := by
  unfold leftAt rowAt
  rw [List.zip, List.map_zipWith, List.zipWith_map_left, List.zipWith_map_right]
  induction a with
  | nil => rfl
  | cons x a ih => simp only [List.zipWith_cons_cons, List.map_cons, Int.natCast_emod, List.cons.injEq, true_and]; exact ih
def F_figures_of : FD := fun ds Q _ => ∃ (x : D) (a : List Int) (b : Nat), ds = [x, .int b] ∧ isV x a ∧ a ≠ [] ∧ (∀ y ∈ a, y.natAbs < 2 ^ 4000) ∧ 2 ≤ b ∧ b ≤ 8 ∧ ∀ n, isN b a n → Q (.tup ((figs b a n).map vec))
def g_figures_of : DSt := (dSeqS (dSet 2 (dCall F_signs_of [] (dCons (dVar 0) dNil)))
    (dSeqS (dSet 3 (dComp (dSeq (dVar 0)) true (dgName 5) dYes (dCB dAbsV (dCons (dVar 5) dNil)) [5]))
    (dSeqS (dSetO 4 (dLst dNil))
    (dSeqS (dWhile (dTst (dOp dGtV (dCB dMaxV (dCons (dVar 3) dNil)) (dC (.int 0)))) (dSeqS (dApp 4 (dCB dTupleV (dCons (dComp (dZip (dCons (dVar 2) (dCons (dVar 3) dNil))) true (dgTup 2 (dgCons (dgName 6) (dgCons (dgName 5) dgNil))) dYes (dOp dMulV (dVar 6) (dOp dModV (dVar 5) (dVar 1))) [6, 5]) dNil)))
    (dSet 3 (dComp (dSeq (dVar 3)) true (dgName 5) dYes (dOp dFdivV (dVar 5) (dVar 1)) [5]))))
    (dShow 4 (dRet (dCB dTupleV (dCons (dUn dRevV (dVar 4)) dNil))))))))
theorem figs_rev (b : Nat) (a : List Int) (n : Nat) : (((List.range n).map fun t => vec (rowAt b a t))).reverse = (figs b a n).map vec := by
  unfold figs
  rw [List.map_map, ← List.map_reverse]
  rfl
theorem sg_small (x : Int) : -(2 ^ 64) < sg x ∧ sg x < 2 ^ 64 := by
  unfold sg
  split <;> decide
theorem divOk_nat {b : Nat} (h1 : 0 < b) (h : b < 2 ^ 9000) : divOk (b : Int) := by
  refine ⟨by omega, ?_⟩
  rw [Int.natAbs_natCast]
  exact (Nat.log2_lt (by omega)).mpr h
theorem divOk_8 {b : Nat} (h1 : 0 < b) (h : b ≤ 8) : divOk (b : Int) := divOk_nat h1 (Nat.lt_of_le_of_lt h (Nat.lt_of_lt_of_le (by decide : 8 < 2 ^ 4) (Nat.pow_le_pow_right (n := 2) (by omega) (by omega))))
theorem does_figures_of : Does ["vector", "base", "signs", "left", "rows", "entry", "sign"] ["vector", "base"] F_figures_of g_figures_of := by
  rintro ds Q Xd ⟨x, a, b, rfl, hx, hne, hbig, hb, hb8, hq⟩
  refine ⟨rfl, ?_⟩
  have hd := divOk_8 (b := b) (by omega) hb8
  show g_figures_of _ [.val _, .val _, .no, .no, .no, .no, .no]
  simp -failIfUnchanged only [dSeqS, dSet, dSetO, dRet, dRetN, dIfS, dDrop, dNext, dBreak, dCont, dNever, dShow, dFor, dApp, dPutIx, dAsg, dOp, dUn, dTst, dTru, dAnd, dOr, dNot, dAndV, dOrV, dNotV, dIfE, dCons, dNil, dTup, dLst, dCB, dCall, dCallN, dC, dVar, dChain, dSeq, dRng1, dRng2, dZip, dComp, dYes, dgName, dgTup, dgCons, dgNil, dwipe, dPeek, dPeekT, dIxO, frzAt, dNoPart, dPart, dSl, dEqV, dNeV, q000, q001, q002, q003, q004, q005, q006, q007, q008, q009, q010, q011, q012, q013, q014, q015, q016, q017, q018, q019, q020, q021, q022, q023, q024, q025, q026, q027, q028, q029, q030, q031, q032, q033, q034, q035, q036, q037, q038, q039, q040, q041, q042, q043, q044, q045, q046, q047, q048, q049, q050, q051, q052, q053, q054, q055, List.getElem?_cons_zero, List.getElem?_cons_succ, List.set_cons_zero, List.set_cons_succ, List.cons_append, List.nil_append, List.append_nil, if_true, if_false, ite_true, ite_false, Bool.false_eq_true, decide_eq_true_eq, Bool.not_true, Bool.not_false, Bool.not_eq_true', decide_eq_false_iff_not, Bool.not_not, isi_int_int, isi_int_bool, isi_int_tuple, isi_int_str, isi_int_lt, isi_bl_int, isi_bl_bool, isi_bl_lt, isi_str_str, isi_str_lt, isi_non_lt, isi_tup_tuple, isi_lst_tuple, isi_tup_lt, isi_lst_lt, okEq_int, okEq_bl, okEq_non, okEq_ils, okEq_vec, deqv_int, deqv_bl, deqv_ils, deqv_vec, true_and, and_true, and_self, reduceCtorEq, not_true_eq_false, not_false_eq_true, false_imp_iff, true_imp_iff, forall_const, g_figures_of, hx.items]
  refine ⟨x, a, rfl, hx, ?_⟩
  simp -failIfUnchanged only [dSeqS, dSet, dSetO, dRet, dRetN, dIfS, dDrop, dNext, dBreak, dCont, dNever, dShow, dFor, dApp, dPutIx, dAsg, dOp, dUn, dTst, dTru, dAnd, dOr, dNot, dAndV, dOrV, dNotV, dIfE, dCons, dNil, dTup, dLst, dCB, dCall, dCallN, dC, dVar, dChain, dSeq, dRng1, dRng2, dZip, dComp, dYes, dgName, dgTup, dgCons, dgNil, dwipe, dPeek, dPeekT, dIxO, frzAt, dNoPart, dPart, dSl, dEqV, dNeV, q000, q001, q002, q003, q004, q005, q006, q007, q008, q009, q010, q011, q012, q013, q014, q015, q016, q017, q018, q019, q020, q021, q022, q023, q024, q025, q026, q027, q028, q029, q030, q031, q032, q033, q034, q035, q036, q037, q038, q039, q040, q041, q042, q043, q044, q045, q046, q047, q048, q049, q050, q051, q052, q053, q054, q055, List.getElem?_cons_zero, List.getElem?_cons_succ, List.set_cons_zero, List.set_cons_succ, List.cons_append, List.nil_append, List.append_nil, if_true, if_false, ite_true, ite_false, Bool.false_eq_true, decide_eq_true_eq, Bool.not_true, Bool.not_false, Bool.not_eq_true', decide_eq_false_iff_not, Bool.not_not, isi_int_int, isi_int_bool, isi_int_tuple, isi_int_str, isi_int_lt, isi_bl_int, isi_bl_bool, isi_bl_lt, isi_str_str, isi_str_lt, isi_non_lt, isi_tup_tuple, isi_lst_tuple, isi_tup_lt, isi_lst_lt, okEq_int, okEq_bl, okEq_non, okEq_ils, okEq_vec, deqv_int, deqv_bl, deqv_ils, deqv_vec, true_and, and_true, and_self, reduceCtorEq, not_true_eq_false, not_false_eq_true, false_imp_iff, true_imp_iff, forall_const, hx.items]
  refine comp_map D.int (fun y => .int ((y.natAbs : Nat) : Int)) a (fun y hy R hR => ?_) ?_
  · simp -failIfUnchanged only [dSeqS, dSet, dSetO, dRet, dRetN, dIfS, dDrop, dNext, dBreak, dCont, dNever, dShow, dFor, dApp, dPutIx, dAsg, dOp, dUn, dTst, dTru, dAnd, dOr, dNot, dAndV, dOrV, dNotV, dIfE, dCons, dNil, dTup, dLst, dCB, dCall, dCallN, dC, dVar, dChain, dSeq, dRng1, dRng2, dZip, dComp, dYes, dgName, dgTup, dgCons, dgNil, dwipe, dPeek, dPeekT, dIxO, frzAt, dNoPart, dPart, dSl, dEqV, dNeV, q000, q001, q002, q003, q004, q005, q006, q007, q008, q009, q010, q011, q012, q013, q014, q015, q016, q017, q018, q019, q020, q021, q022, q023, q024, q025, q026, q027, q028, q029, q030, q031, q032, q033, q034, q035, q036, q037, q038, q039, q040, q041, q042, q043, q044, q045, q046, q047, q048, q049, q050, q051, q052, q053, q054, q055, List.getElem?_cons_zero, List.getElem?_cons_succ, List.set_cons_zero, List.set_cons_succ, List.cons_append, List.nil_append, List.append_nil, if_true, if_false, ite_true, ite_false, Bool.false_eq_true, decide_eq_true_eq, Bool.not_true, Bool.not_false, Bool.not_eq_true', decide_eq_false_iff_not, Bool.not_not, isi_int_int, isi_int_bool, isi_int_tuple, isi_int_str, isi_int_lt, isi_bl_int, isi_bl_bool, isi_bl_lt, isi_str_str, isi_str_lt, isi_non_lt, isi_tup_tuple, isi_lst_tuple, isi_tup_lt, isi_lst_lt, okEq_int, okEq_bl, okEq_non, okEq_ils, okEq_vec, deqv_int, deqv_bl, deqv_ils, deqv_vec, true_and, and_true, and_self, reduceCtorEq, not_true_eq_false, not_false_eq_true, false_imp_iff, true_imp_iff, forall_const]
    exact hR
  rw [show a.map (fun y => D.int ((y.natAbs : Nat) : Int)) = (leftAt b a 0).map .int by rw [left_zero]; simp]
  refine ⟨by decide, ?_⟩
  refine while_inv (fun m δ => ∃ (t : Nat) (e s : DS), m = (a.map Int.natAbs).sum - t ∧ (∀ m, m < t → ∃ x ∈ a, 0 < x.natAbs / b ^ m) ∧
    δ = [.val x, .val (.int b), .val (vec (a.map sg)), .val (ils (leftAt b a t)), .own (.lst ((List.range t).map fun t => vec (rowAt b a t))), e, s]) ((a.map Int.natAbs).sum) ⟨0, _, _, rfl, fun m hm => absurd hm (Nat.not_lt_zero _), rfl⟩ ?_
  rintro m δ R ⟨t, e, s, rfl, hlow, rfl⟩ hR
  simp -failIfUnchanged only [dSeqS, dSet, dSetO, dRet, dRetN, dIfS, dDrop, dNext, dBreak, dCont, dNever, dShow, dFor, dApp, dPutIx, dAsg, dOp, dUn, dTst, dTru, dAnd, dOr, dNot, dAndV, dOrV, dNotV, dIfE, dCons, dNil, dTup, dLst, dCB, dCall, dCallN, dC, dVar, dChain, dSeq, dRng1, dRng2, dZip, dComp, dYes, dgName, dgTup, dgCons, dgNil, dwipe, dPeek, dPeekT, dIxO, frzAt, dNoPart, dPart, dSl, dEqV, dNeV, q000, q001, q002, q003, q004, q005, q006, q007, q008, q009, q010, q011, q012, q013, q014, q015, q016, q017, q018, q019, q020, q021, q022, q023, q024, q025, q026, q027, q028, q029, q030, q031, q032, q033, q034, q035, q036, q037, q038, q039, q040, q041, q042, q043, q044, q045, q046, q047, q048, q049, q050, q051, q052, q053, q054, q055, List.getElem?_cons_zero, List.getElem?_cons_succ, List.set_cons_zero, List.set_cons_succ, List.cons_append, List.nil_append, List.append_nil, if_true, if_false, ite_true, ite_false, Bool.false_eq_true, decide_eq_true_eq, Bool.not_true, Bool.not_false, Bool.not_eq_true', decide_eq_false_iff_not, Bool.not_not, isi_int_int, isi_int_bool, isi_int_tuple, isi_int_str, isi_int_lt, isi_bl_int, isi_bl_bool, isi_bl_lt, isi_str_str, isi_str_lt, isi_non_lt, isi_tup_tuple, isi_lst_tuple, isi_tup_lt, isi_lst_lt, okEq_int, okEq_bl, okEq_non, okEq_ils, okEq_vec, deqv_int, deqv_bl, deqv_ils, deqv_vec, true_and, and_true, and_self, reduceCtorEq, not_true_eq_false, not_false_eq_true, false_imp_iff, true_imp_iff, forall_const]
  refine ⟨leftAt b a t, rfl, by simpa [leftAt, List.length_pos_iff] using hne, fun mx hm hle => ?_⟩
  by_cases hpos : mx > 0
  · have some_pos : ∃ y ∈ a, 0 < y.natAbs / b ^ t := by
      obtain ⟨y, hy, rfl⟩ := List.mem_map.mp hm
      exact ⟨y, hy, by omega⟩
    have ht : t < (a.map Int.natAbs).sum := by
      obtain ⟨y, hy, hp⟩ := some_pos
      exact Nat.lt_of_lt_of_le (small_of_pos hb hp) (le_sum (List.mem_map_of_mem hy))
    have ht4 : t < 4000 := by
      obtain ⟨y, hy, hp⟩ := some_pos
      exact pos_lt hb hp (hbig y hy)
    simp only [hpos]
    simp -failIfUnchanged only [dSeqS, dSet, dSetO, dRet, dRetN, dIfS, dDrop, dNext, dBreak, dCont, dNever, dShow, dFor, dApp, dPutIx, dAsg, dOp, dUn, dTst, dTru, dAnd, dOr, dNot, dAndV, dOrV, dNotV, dIfE, dCons, dNil, dTup, dLst, dCB, dCall, dCallN, dC, dVar, dChain, dSeq, dRng1, dRng2, dZip, dComp, dYes, dgName, dgTup, dgCons, dgNil, dwipe, dPeek, dPeekT, dIxO, frzAt, dNoPart, dPart, dSl, dEqV, dNeV, q000, q001, q002, q003, q004, q005, q006, q007, q008, q009, q010, q011, q012, q013, q014, q015, q016, q017, q018, q019, q020, q021, q022, q023, q024, q025, q026, q027, q028, q029, q030, q031, q032, q033, q034, q035, q036, q037, q038, q039, q040, q041, q042, q043, q044, q045, q046, q047, q048, q049, q050, q051, q052, q053, q054, q055, List.getElem?_cons_zero, List.getElem?_cons_succ, List.set_cons_zero, List.set_cons_succ, List.cons_append, List.nil_append, List.append_nil, if_true, if_false, ite_true, ite_false, Bool.false_eq_true, decide_eq_true_eq, Bool.not_true, Bool.not_false, Bool.not_eq_true', decide_eq_false_iff_not, Bool.not_not, isi_int_int, isi_int_bool, isi_int_tuple, isi_int_str, isi_int_lt, isi_bl_int, isi_bl_bool, isi_bl_lt, isi_str_str, isi_str_lt, isi_non_lt, isi_tup_tuple, isi_lst_tuple, isi_tup_lt, isi_lst_lt, okEq_int, okEq_bl, okEq_non, okEq_ils, okEq_vec, deqv_int, deqv_bl, deqv_ils, deqv_vec, true_and, and_true, and_self, reduceCtorEq, not_true_eq_false, not_false_eq_true, false_imp_iff, true_imp_iff, forall_const]
    refine ⟨_, _, rfl, rfl, ?_⟩
    rw [zip_ints]
    refine comp_map (fun p : Int × Int => D.tup [.int p.1, .int p.2]) (fun p => .int (p.1 * (p.2 % (b : Int)))) ((a.map sg).zip (leftAt b a t)) (fun p hp R hR => ?_) ?_
    · simp -failIfUnchanged only [dSeqS, dSet, dSetO, dRet, dRetN, dIfS, dDrop, dNext, dBreak, dCont, dNever, dShow, dFor, dApp, dPutIx, dAsg, dOp, dUn, dTst, dTru, dAnd, dOr, dNot, dAndV, dOrV, dNotV, dIfE, dCons, dNil, dTup, dLst, dCB, dCall, dCallN, dC, dVar, dChain, dSeq, dRng1, dRng2, dZip, dComp, dYes, dgName, dgTup, dgCons, dgNil, dwipe, dPeek, dPeekT, dIxO, frzAt, dNoPart, dPart, dSl, dEqV, dNeV, q000, q001, q002, q003, q004, q005, q006, q007, q008, q009, q010, q011, q012, q013, q014, q015, q016, q017, q018, q019, q020, q021, q022, q023, q024, q025, q026, q027, q028, q029, q030, q031, q032, q033, q034, q035, q036, q037, q038, q039, q040, q041, q042, q043, q044, q045, q046, q047, q048, q049, q050, q051, q052, q053, q054, q055, List.getElem?_cons_zero, List.getElem?_cons_succ, List.set_cons_zero, List.set_cons_succ, List.cons_append, List.nil_append, List.append_nil, if_true, if_false, ite_true, ite_false, Bool.false_eq_true, decide_eq_true_eq, Bool.not_true, Bool.not_false, Bool.not_eq_true', decide_eq_false_iff_not, Bool.not_not, isi_int_int, isi_int_bool, isi_int_tuple, isi_int_str, isi_int_lt, isi_bl_int, isi_bl_bool, isi_bl_lt, isi_str_str, isi_str_lt, isi_non_lt, isi_tup_tuple, isi_lst_tuple, isi_tup_lt, isi_lst_lt, okEq_int, okEq_bl, okEq_non, okEq_ils, okEq_vec, deqv_int, deqv_bl, deqv_ils, deqv_vec, true_and, and_true, and_self, reduceCtorEq, not_true_eq_false, not_false_eq_true, false_imp_iff, true_imp_iff, forall_const]
      refine ⟨rfl, by omega, .inl (.inl ?_), hR⟩
      obtain ⟨y, _, hy⟩ := List.mem_map.mp (List.of_mem_zip (a := p.1) (b := p.2) hp).1
      rw [← hy]
      exact sg_small y
    simp -failIfUnchanged only [dSeqS, dSet, dSetO, dRet, dRetN, dIfS, dDrop, dNext, dBreak, dCont, dNever, dShow, dFor, dApp, dPutIx, dAsg, dOp, dUn, dTst, dTru, dAnd, dOr, dNot, dAndV, dOrV, dNotV, dIfE, dCons, dNil, dTup, dLst, dCB, dCall, dCallN, dC, dVar, dChain, dSeq, dRng1, dRng2, dZip, dComp, dYes, dgName, dgTup, dgCons, dgNil, dwipe, dPeek, dPeekT, dIxO, frzAt, dNoPart, dPart, dSl, dEqV, dNeV, q000, q001, q002, q003, q004, q005, q006, q007, q008, q009, q010, q011, q012, q013, q014, q015, q016, q017, q018, q019, q020, q021, q022, q023, q024, q025, q026, q027, q028, q029, q030, q031, q032, q033, q034, q035, q036, q037, q038, q039, q040, q041, q042, q043, q044, q045, q046, q047, q048, q049, q050, q051, q052, q053, q054, q055, List.getElem?_cons_zero, List.getElem?_cons_succ, List.set_cons_zero, List.set_cons_succ, List.cons_append, List.nil_append, List.append_nil, if_true, if_false, ite_true, ite_false, Bool.false_eq_true, decide_eq_true_eq, Bool.not_true, Bool.not_false, Bool.not_eq_true', decide_eq_false_iff_not, Bool.not_not, isi_int_int, isi_int_bool, isi_int_tuple, isi_int_str, isi_int_lt, isi_bl_int, isi_bl_bool, isi_bl_lt, isi_str_str, isi_str_lt, isi_non_lt, isi_tup_tuple, isi_lst_tuple, isi_tup_lt, isi_lst_lt, okEq_int, okEq_bl, okEq_non, okEq_ils, okEq_vec, deqv_int, deqv_bl, deqv_ils, deqv_vec, true_and, and_true, and_self, reduceCtorEq, not_true_eq_false, not_false_eq_true, false_imp_iff, true_imp_iff, forall_const]
    rw [show ((a.map sg).zip (leftAt b a t)).map (fun p => D.int (p.1 * (p.2 % (b : Int)))) = (rowAt b a t).map .int by rw [← row_zip, List.map_map]; rfl]
    refine ⟨?_, ?_⟩
    · rw [List.length_map, List.length_range, sizeLine_eq]
      omega
    refine comp_map D.int (fun y => .int (y / (b : Int))) (leftAt b a t) (fun y hy R hR => ?_) ?_
    · simp -failIfUnchanged only [dSeqS, dSet, dSetO, dRet, dRetN, dIfS, dDrop, dNext, dBreak, dCont, dNever, dShow, dFor, dApp, dPutIx, dAsg, dOp, dUn, dTst, dTru, dAnd, dOr, dNot, dAndV, dOrV, dNotV, dIfE, dCons, dNil, dTup, dLst, dCB, dCall, dCallN, dC, dVar, dChain, dSeq, dRng1, dRng2, dZip, dComp, dYes, dgName, dgTup, dgCons, dgNil, dwipe, dPeek, dPeekT, dIxO, frzAt, dNoPart, dPart, dSl, dEqV, dNeV, q000, q001, q002, q003, q004, q005, q006, q007, q008, q009, q010, q011, q012, q013, q014, q015, q016, q017, q018, q019, q020, q021, q022, q023, q024, q025, q026, q027, q028, q029, q030, q031, q032, q033, q034, q035, q036, q037, q038, q039, q040, q041, q042, q043, q044, q045, q046, q047, q048, q049, q050, q051, q052, q053, q054, q055, List.getElem?_cons_zero, List.getElem?_cons_succ, List.set_cons_zero, List.set_cons_succ, List.cons_append, List.nil_append, List.append_nil, if_true, if_false, ite_true, ite_false, Bool.false_eq_true, decide_eq_true_eq, Bool.not_true, Bool.not_false, Bool.not_eq_true', decide_eq_false_iff_not, Bool.not_not, isi_int_int, isi_int_bool, isi_int_tuple, isi_int_str, isi_int_lt, isi_bl_int, isi_bl_bool, isi_bl_lt, isi_str_str, isi_str_lt, isi_non_lt, isi_tup_tuple, isi_lst_tuple, isi_tup_lt, isi_lst_lt, okEq_int, okEq_bl, okEq_non, okEq_ils, okEq_vec, deqv_int, deqv_bl, deqv_ils, deqv_vec, true_and, and_true, and_self, reduceCtorEq, not_true_eq_false, not_false_eq_true, false_imp_iff, true_imp_iff, forall_const]
      exact ⟨hd, hR⟩
    refine hR _ _ ?_ ⟨t + 1, e, s, rfl, ?_, ?_⟩
    · omega
    · intro k hk
      by_cases z : k < t
      · exact hlow k z
      · have : k = t := by omega
        subst this
        exact some_pos
    · rw [show (leftAt b a t).map (fun y => D.int (y / (b : Int))) = (leftAt b a (t + 1)).map .int by rw [← left_next, List.map_map]; rfl]
      rw [List.range_succ, List.map_append]
      rfl
  · simp only [hpos]
    simp -failIfUnchanged only [dSeqS, dSet, dSetO, dRet, dRetN, dIfS, dDrop, dNext, dBreak, dCont, dNever, dShow, dFor, dApp, dPutIx, dAsg, dOp, dUn, dTst, dTru, dAnd, dOr, dNot, dAndV, dOrV, dNotV, dIfE, dCons, dNil, dTup, dLst, dCB, dCall, dCallN, dC, dVar, dChain, dSeq, dRng1, dRng2, dZip, dComp, dYes, dgName, dgTup, dgCons, dgNil, dwipe, dPeek, dPeekT, dIxO, frzAt, dNoPart, dPart, dSl, dEqV, dNeV, q000, q001, q002, q003, q004, q005, q006, q007, q008, q009, q010, q011, q012, q013, q014, q015, q016, q017, q018, q019, q020, q021, q022, q023, q024, q025, q026, q027, q028, q029, q030, q031, q032, q033, q034, q035, q036, q037, q038, q039, q040, q041, q042, q043, q044, q045, q046, q047, q048, q049, q050, q051, q052, q053, q054, q055, List.getElem?_cons_zero, List.getElem?_cons_succ, List.set_cons_zero, List.set_cons_succ, List.cons_append, List.nil_append, List.append_nil, if_true, if_false, ite_true, ite_false, Bool.false_eq_true, decide_eq_true_eq, Bool.not_true, Bool.not_false, Bool.not_eq_true', decide_eq_false_iff_not, Bool.not_not, isi_int_int, isi_int_bool, isi_int_tuple, isi_int_str, isi_int_lt, isi_bl_int, isi_bl_bool, isi_bl_lt, isi_str_str, isi_str_lt, isi_non_lt, isi_tup_tuple, isi_lst_tuple, isi_tup_lt, isi_lst_lt, okEq_int, okEq_bl, okEq_non, okEq_ils, okEq_vec, deqv_int, deqv_bl, deqv_ils, deqv_vec, true_and, and_true, and_self, reduceCtorEq, not_true_eq_false, not_false_eq_true, false_imp_iff, true_imp_iff, forall_const]
    rw [figs_rev]
    refine hq t ⟨fun y hy => ?_, hlow⟩
    have := hle _ (List.mem_map_of_mem (f := fun x => ((x.natAbs / b ^ t : Nat) : Int)) hy)
    generalize y.natAbs / b ^ t = q at this ⊢
    omega

/-! # order_of -/
def ordStep (b : Int) (t r : List Int) : List Int := vadd (vmul b t) r
def orderOf (b : Int) (w : Nat) (rows : List (List Int)) : List Int := rows.foldl (ordStep b) (List.replicate w 0)
/-- rows as lists or tuples in a list or a tuple -/
def isRows (d : D) (rows : List (List Int)) : Prop := ∃ ds, (d = .lst ds ∨ d = .tup ds) ∧ Paired isV ds rows ∧ ∀ e ∈ ds, okF 1 e
theorem okF_ints (ns : List Int) : ∀ e ∈ ns.map D.int, okF 0 e := fun e h => by
  obtain ⟨i, _, rfl⟩ := List.mem_map.mp h
  exact .inl ⟨i, rfl⟩
theorem okF_ils (ns : List Int) : okF 1 (ils ns) := .inr ⟨_, .inl rfl, okF_ints ns⟩
theorem okF_vec (ns : List Int) : okF 1 (vec ns) := .inr ⟨_, .inr rfl, okF_ints ns⟩
theorem froz_ints (ns : List Int) : frozDs (ns.map D.int) = ns.map D.int := by
  rw [frozDs_map, List.map_map]
  exact List.map_congr_left fun x _ => rfl
theorem froz_isV {d : D} {a : List Int} (h : isV d a) (hk : okF 1 d) : frozD d = vec a := by
  rcases h.cases with rfl | rfl | rfl
  · rw [frozD, froz_ints]
  · rcases hk with (⟨i, h⟩ | ⟨i, h⟩ | ⟨i, h⟩ | h) | ⟨ds, h | h, _⟩ <;> cases h
  · rw [frozD, froz_ints]
theorem froz_rows : ∀ {ds : List D} {rows : List (List Int)}, Paired isV ds rows → (∀ e ∈ ds, okF 1 e) → frozDs ds = rows.map vec
  | _, _, .nil, _ => rfl
  | _, _, .cons r t, h => by
    rw [frozDs, froz_isV r (h _ List.mem_cons_self), froz_rows t fun e he => h e (List.mem_cons_of_mem _ he)]
    rfl
theorem isRows.froz {d : D} {rows : List (List Int)} (h : isRows d rows) : frozD d = .tup (rows.map vec) := by
  obtain ⟨ds, e, p, k⟩ := h
  rcases e with rfl | rfl <;> rw [frozD, froz_rows p k]
theorem isRows.ok {d : D} {rows : List (List Int)} (h : isRows d rows) : okF 2 d := by
  obtain ⟨ds, e, p, k⟩ := h
  exact .inr ⟨ds, e, k⟩
def F_order_of : FD := fun ds Q _ => ∃ (x : D) (rows : List (List Int)) (w : Int) (b : Int), ds = [x, .int w, .int b] ∧ isRows x rows ∧ 1 ≤ w ∧ w ≤ 1000 ∧ 2 ≤ b ∧ b ≤ 8 ∧ Q (vec (orderOf b w.toNat rows))
def g_order_of (F_frozen : FD) : DSt := (dSeqS (dSet 3 (dCall F_zero_vector [] (dCons (dVar 1) dNil)))
    (dSeqS (dFor (dSeq (dCall F_frozen [] (dCons (dVar 0) dNil))) (dgName 4) (dSet 3 (dCall F_added [] (dCons (dCall F_times [] (dCons (dVar 2) (dCons (dVar 3) dNil))) (dCons (dVar 4) dNil)))))
    (dRet (dVar 3))))
theorem take_more {α : Type} {l : List α} {i : Nat} {x : α} (h : l[i]? = some x) : l.take (i + 1) = l.take i ++ [x] := by
  rw [List.take_add_one, h]
  rfl
theorem map_get {α β : Type} {f : α → β} {l : List α} {i : Nat} {y : β} (h : (l.map f)[i]? = some y) : ∃ x, l[i]? = some x ∧ y = f x := by
  rw [List.getElem?_map] at h
  cases e : l[i]? with
  | none => rw [e] at h; cases h
  | some x => rw [e] at h; injection h with h; exact ⟨x, rfl, h.symm⟩
theorem small8 {b : Int} (h1 : 2 ≤ b) (h2 : b ≤ 8) : -(2 ^ 64) < b ∧ b < 2 ^ 64 := by omega
theorem does_order_of : Does ["rows", "width", "base", "total", "row"] ["rows", "width", "base"] F_order_of (g_order_of (F_frozen 2)) := by
  rintro ds Q Xd ⟨x, rows, w, b, rfl, hr, hw1, hw2, hb, hb8, hq⟩
  refine ⟨rfl, ?_⟩
  show g_order_of (F_frozen 2) _ [.val _, .val _, .val _, .no, .no]
  simp -failIfUnchanged only [dSeqS, dSet, dSetO, dRet, dRetN, dIfS, dDrop, dNext, dBreak, dCont, dNever, dShow, dFor, dApp, dPutIx, dAsg, dOp, dUn, dTst, dTru, dAnd, dOr, dNot, dAndV, dOrV, dNotV, dIfE, dCons, dNil, dTup, dLst, dCB, dCall, dCallN, dC, dVar, dChain, dSeq, dRng1, dRng2, dZip, dComp, dYes, dgName, dgTup, dgCons, dgNil, dwipe, dPeek, dPeekT, dIxO, frzAt, dNoPart, dPart, dSl, dEqV, dNeV, q000, q001, q002, q003, q004, q005, q006, q007, q008, q009, q010, q011, q012, q013, q014, q015, q016, q017, q018, q019, q020, q021, q022, q023, q024, q025, q026, q027, q028, q029, q030, q031, q032, q033, q034, q035, q036, q037, q038, q039, q040, q041, q042, q043, q044, q045, q046, q047, q048, q049, q050, q051, q052, q053, q054, q055, List.getElem?_cons_zero, List.getElem?_cons_succ, List.set_cons_zero, List.set_cons_succ, List.cons_append, List.nil_append, List.append_nil, if_true, if_false, ite_true, ite_false, Bool.false_eq_true, decide_eq_true_eq, Bool.not_true, Bool.not_false, Bool.not_eq_true', decide_eq_false_iff_not, Bool.not_not, isi_int_int, isi_int_bool, isi_int_tuple, isi_int_str, isi_int_lt, isi_bl_int, isi_bl_bool, isi_bl_lt, isi_str_str, isi_str_lt, isi_non_lt, isi_tup_tuple, isi_lst_tuple, isi_tup_lt, isi_lst_lt, okEq_int, okEq_bl, okEq_non, okEq_ils, okEq_vec, deqv_int, deqv_bl, deqv_ils, deqv_vec, true_and, and_true, and_self, reduceCtorEq, not_true_eq_false, not_false_eq_true, false_imp_iff, true_imp_iff, forall_const, g_order_of]
  refine ⟨w, rfl, hw1, hw2, ?_⟩
  simp -failIfUnchanged only [dSeqS, dSet, dSetO, dRet, dRetN, dIfS, dDrop, dNext, dBreak, dCont, dNever, dShow, dFor, dApp, dPutIx, dAsg, dOp, dUn, dTst, dTru, dAnd, dOr, dNot, dAndV, dOrV, dNotV, dIfE, dCons, dNil, dTup, dLst, dCB, dCall, dCallN, dC, dVar, dChain, dSeq, dRng1, dRng2, dZip, dComp, dYes, dgName, dgTup, dgCons, dgNil, dwipe, dPeek, dPeekT, dIxO, frzAt, dNoPart, dPart, dSl, dEqV, dNeV, q000, q001, q002, q003, q004, q005, q006, q007, q008, q009, q010, q011, q012, q013, q014, q015, q016, q017, q018, q019, q020, q021, q022, q023, q024, q025, q026, q027, q028, q029, q030, q031, q032, q033, q034, q035, q036, q037, q038, q039, q040, q041, q042, q043, q044, q045, q046, q047, q048, q049, q050, q051, q052, q053, q054, q055, List.getElem?_cons_zero, List.getElem?_cons_succ, List.set_cons_zero, List.set_cons_succ, List.cons_append, List.nil_append, List.append_nil, if_true, if_false, ite_true, ite_false, Bool.false_eq_true, decide_eq_true_eq, Bool.not_true, Bool.not_false, Bool.not_eq_true', decide_eq_false_iff_not, Bool.not_not, isi_int_int, isi_int_bool, isi_int_tuple, isi_int_str, isi_int_lt, isi_bl_int, isi_bl_bool, isi_bl_lt, isi_str_str, isi_str_lt, isi_non_lt, isi_tup_tuple, isi_lst_tuple, isi_tup_lt, isi_lst_lt, okEq_int, okEq_bl, okEq_non, okEq_ils, okEq_vec, deqv_int, deqv_bl, deqv_ils, deqv_vec, true_and, and_true, and_self, reduceCtorEq, not_true_eq_false, not_false_eq_true, false_imp_iff, true_imp_iff, forall_const]
  refine ⟨x, rfl, hr.ok, ?_⟩
  rw [hr.froz]
  simp -failIfUnchanged only [dSeqS, dSet, dSetO, dRet, dRetN, dIfS, dDrop, dNext, dBreak, dCont, dNever, dShow, dFor, dApp, dPutIx, dAsg, dOp, dUn, dTst, dTru, dAnd, dOr, dNot, dAndV, dOrV, dNotV, dIfE, dCons, dNil, dTup, dLst, dCB, dCall, dCallN, dC, dVar, dChain, dSeq, dRng1, dRng2, dZip, dComp, dYes, dgName, dgTup, dgCons, dgNil, dwipe, dPeek, dPeekT, dIxO, frzAt, dNoPart, dPart, dSl, dEqV, dNeV, q000, q001, q002, q003, q004, q005, q006, q007, q008, q009, q010, q011, q012, q013, q014, q015, q016, q017, q018, q019, q020, q021, q022, q023, q024, q025, q026, q027, q028, q029, q030, q031, q032, q033, q034, q035, q036, q037, q038, q039, q040, q041, q042, q043, q044, q045, q046, q047, q048, q049, q050, q051, q052, q053, q054, q055, List.getElem?_cons_zero, List.getElem?_cons_succ, List.set_cons_zero, List.set_cons_succ, List.cons_append, List.nil_append, List.append_nil, if_true, if_false, ite_true, ite_false, Bool.false_eq_true, decide_eq_true_eq, Bool.not_true, Bool.not_false, Bool.not_eq_true', decide_eq_false_iff_not, Bool.not_not, isi_int_int, isi_int_bool, isi_int_tuple, isi_int_str, isi_int_lt, isi_bl_int, isi_bl_bool, isi_bl_lt, isi_str_str, isi_str_lt, isi_non_lt, isi_tup_tuple, isi_lst_tuple, isi_tup_lt, isi_lst_lt, okEq_int, okEq_bl, okEq_non, okEq_ils, okEq_vec, deqv_int, deqv_bl, deqv_ils, deqv_vec, true_and, and_true, and_self, reduceCtorEq, not_true_eq_false, not_false_eq_true, false_imp_iff, true_imp_iff, forall_const]
  refine for_inv _ (fun i δ => ∃ r, δ = [.val x, .val (.int w), .val (.int b), .val (vec (orderOf b w.toNat (rows.take i))), r]) ⟨_, rfl⟩ ?_ ?_
  · rintro i d δ R hi ⟨r, rfl⟩ hR
    obtain ⟨row, hrow, rfl⟩ := map_get hi
    simp -failIfUnchanged only [dSeqS, dSet, dSetO, dRet, dRetN, dIfS, dDrop, dNext, dBreak, dCont, dNever, dShow, dFor, dApp, dPutIx, dAsg, dOp, dUn, dTst, dTru, dAnd, dOr, dNot, dAndV, dOrV, dNotV, dIfE, dCons, dNil, dTup, dLst, dCB, dCall, dCallN, dC, dVar, dChain, dSeq, dRng1, dRng2, dZip, dComp, dYes, dgName, dgTup, dgCons, dgNil, dwipe, dPeek, dPeekT, dIxO, frzAt, dNoPart, dPart, dSl, dEqV, dNeV, q000, q001, q002, q003, q004, q005, q006, q007, q008, q009, q010, q011, q012, q013, q014, q015, q016, q017, q018, q019, q020, q021, q022, q023, q024, q025, q026, q027, q028, q029, q030, q031, q032, q033, q034, q035, q036, q037, q038, q039, q040, q041, q042, q043, q044, q045, q046, q047, q048, q049, q050, q051, q052, q053, q054, q055, List.getElem?_cons_zero, List.getElem?_cons_succ, List.set_cons_zero, List.set_cons_succ, List.cons_append, List.nil_append, List.append_nil, if_true, if_false, ite_true, ite_false, Bool.false_eq_true, decide_eq_true_eq, Bool.not_true, Bool.not_false, Bool.not_eq_true', decide_eq_false_iff_not, Bool.not_not, isi_int_int, isi_int_bool, isi_int_tuple, isi_int_str, isi_int_lt, isi_bl_int, isi_bl_bool, isi_bl_lt, isi_str_str, isi_str_lt, isi_non_lt, isi_tup_tuple, isi_lst_tuple, isi_tup_lt, isi_lst_lt, okEq_int, okEq_bl, okEq_non, okEq_ils, okEq_vec, deqv_int, deqv_bl, deqv_ils, deqv_vec, true_and, and_true, and_self, reduceCtorEq, not_true_eq_false, not_false_eq_true, false_imp_iff, true_imp_iff, forall_const]
    refine ⟨b, _, orderOf b w.toNat (rows.take i), rfl, isV_vec _, fun y _ => .inl (.inl (small8 hb hb8)), ?_⟩
    simp -failIfUnchanged only [dSeqS, dSet, dSetO, dRet, dRetN, dIfS, dDrop, dNext, dBreak, dCont, dNever, dShow, dFor, dApp, dPutIx, dAsg, dOp, dUn, dTst, dTru, dAnd, dOr, dNot, dAndV, dOrV, dNotV, dIfE, dCons, dNil, dTup, dLst, dCB, dCall, dCallN, dC, dVar, dChain, dSeq, dRng1, dRng2, dZip, dComp, dYes, dgName, dgTup, dgCons, dgNil, dwipe, dPeek, dPeekT, dIxO, frzAt, dNoPart, dPart, dSl, dEqV, dNeV, q000, q001, q002, q003, q004, q005, q006, q007, q008, q009, q010, q011, q012, q013, q014, q015, q016, q017, q018, q019, q020, q021, q022, q023, q024, q025, q026, q027, q028, q029, q030, q031, q032, q033, q034, q035, q036, q037, q038, q039, q040, q041, q042, q043, q044, q045, q046, q047, q048, q049, q050, q051, q052, q053, q054, q055, List.getElem?_cons_zero, List.getElem?_cons_succ, List.set_cons_zero, List.set_cons_succ, List.cons_append, List.nil_append, List.append_nil, if_true, if_false, ite_true, ite_false, Bool.false_eq_true, decide_eq_true_eq, Bool.not_true, Bool.not_false, Bool.not_eq_true', decide_eq_false_iff_not, Bool.not_not, isi_int_int, isi_int_bool, isi_int_tuple, isi_int_str, isi_int_lt, isi_bl_int, isi_bl_bool, isi_bl_lt, isi_str_str, isi_str_lt, isi_non_lt, isi_tup_tuple, isi_lst_tuple, isi_tup_lt, isi_lst_lt, okEq_int, okEq_bl, okEq_non, okEq_ils, okEq_vec, deqv_int, deqv_bl, deqv_ils, deqv_vec, true_and, and_true, and_self, reduceCtorEq, not_true_eq_false, not_false_eq_true, false_imp_iff, true_imp_iff, forall_const]
    refine ⟨_, _, vmul b (orderOf b w.toNat (rows.take i)), row, rfl, isV_vec _, isV_vec _, hR _ ⟨.val (vec row), ?_⟩⟩
    rw [take_more hrow]
    unfold orderOf
    rw [List.foldl_append]
    rfl
  · rintro δ ⟨r, rfl⟩
    simp -failIfUnchanged only [dSeqS, dSet, dSetO, dRet, dRetN, dIfS, dDrop, dNext, dBreak, dCont, dNever, dShow, dFor, dApp, dPutIx, dAsg, dOp, dUn, dTst, dTru, dAnd, dOr, dNot, dAndV, dOrV, dNotV, dIfE, dCons, dNil, dTup, dLst, dCB, dCall, dCallN, dC, dVar, dChain, dSeq, dRng1, dRng2, dZip, dComp, dYes, dgName, dgTup, dgCons, dgNil, dwipe, dPeek, dPeekT, dIxO, frzAt, dNoPart, dPart, dSl, dEqV, dNeV, q000, q001, q002, q003, q004, q005, q006, q007, q008, q009, q010, q011, q012, q013, q014, q015, q016, q017, q018, q019, q020, q021, q022, q023, q024, q025, q026, q027, q028, q029, q030, q031, q032, q033, q034, q035, q036, q037, q038, q039, q040, q041, q042, q043, q044, q045, q046, q047, q048, q049, q050, q051, q052, q053, q054, q055, List.getElem?_cons_zero, List.getElem?_cons_succ, List.set_cons_zero, List.set_cons_succ, List.cons_append, List.nil_append, List.append_nil, if_true, if_false, ite_true, ite_false, Bool.false_eq_true, decide_eq_true_eq, Bool.not_true, Bool.not_false, Bool.not_eq_true', decide_eq_false_iff_not, Bool.not_not, isi_int_int, isi_int_bool, isi_int_tuple, isi_int_str, isi_int_lt, isi_bl_int, isi_bl_bool, isi_bl_lt, isi_str_str, isi_str_lt, isi_non_lt, isi_tup_tuple, isi_lst_tuple, isi_tup_lt, isi_lst_lt, okEq_int, okEq_bl, okEq_non, okEq_ils, okEq_vec, deqv_int, deqv_bl, deqv_ils, deqv_vec, true_and, and_true, and_self, reduceCtorEq, not_true_eq_false, not_false_eq_true, false_imp_iff, true_imp_iff, forall_const]
    rw [List.length_map, List.take_length]
    exact hq
end L2.DL

-- K00H
set_option Elab.async false
set_option linter.all false
set_option maxRecDepth 100000
set_option maxHeartbeats 1000000
namespace L2.DL
open PySem PySem.Spec PyProof.Rows
/-! # the law's own small defs -/
theorem seq_cut {g h : DSt} {F : DEnds} {δ : Env} (P : Env → Prop) (h1 : ∀ R : Env → Prop, (∀ δ', P δ' → R δ') → g { F with nx := R } δ) (h2 : ∀ δ', P δ' → h F δ') : dSeqS g h F δ := h1 _ h2
theorem mul_l {i j : Int} (h1 : -(2 ^ 64) < i) (h2 : i < 2 ^ 64) : mulOk i j := .inl (.inl ⟨h1, h2⟩)
theorem mul_r {i j : Int} (h1 : -(2 ^ 64) < j) (h2 : j < 2 ^ 64) : mulOk i j := .inl (.inr ⟨h1, h2⟩)
theorem divOk_small {j : Int} (h1 : 0 < j) (h2 : j < 2 ^ 64) : divOk j := by
  refine ⟨h1, ?_⟩
  have : j.natAbs < 2 ^ 64 := by omega
  have h3 : j.natAbs.log2 < 64 := (Nat.log2_lt (by omega)).mpr this
  omega
theorem atI_map {α β : Type} (f : α → β) (xs : List α) (i : Int) : atI (xs.map f) i = (atI xs i).map f := by
  unfold atI
  rw [List.length_map]
  cases ixN xs.length i with
  | none => rfl
  | some j => simp
theorem atI_in {α : Type} {xs : List α} {i : Int} (h0 : 0 ≤ i) (h : i < xs.length) : ∃ x, atI xs i = some x ∧ xs[i.toNat]? = some x := by
  have hl : i.toNat < xs.length := by omega
  refine ⟨xs[i.toNat], ?_, by simp [hl]⟩
  unfold atI ixN
  rw [if_pos h0, if_pos h]
  simp [hl]
theorem atI_get {α : Type} {xs : List α} {i : Nat} {x : α} (h : xs[i]? = some x) : atI xs (i : Int) = some x := by
  have hl := (List.getElem?_eq_some_iff.mp h).1
  unfold atI ixN
  rw [if_pos (by omega), if_pos (by omega)]
  simpa using h

def F__law_whole : FD := fun ds Q _ => ∃ i, ds = [.int i] ∧ Q (.bl true)
def g__law_whole : DSt := (dRet (dAndV (dCB dIsiV (dCons (dVar 0) (dCons (dC (.val (.ty "int"))) dNil))) (dNotV (dCB dIsiV (dCons (dVar 0) (dCons (dC (.val (.ty "bool"))) dNil))))))
theorem does__law_whole : Does ["value"] ["value"] F__law_whole g__law_whole := by
  rintro ds Q Xd ⟨i, rfl, hq⟩
  refine ⟨rfl, ?_⟩
  show g__law_whole _ [.val _]
  simp -failIfUnchanged only [dSeqS, dSet, dSetO, dRet, dRetN, dIfS, dDrop, dNext, dBreak, dCont, dNever, dShow, dFor, dApp, dPutIx, dAsg, dOp, dUn, dTst, dTru, dAnd, dOr, dNot, dAndV, dOrV, dNotV, dIfE, dCons, dNil, dTup, dLst, dCB, dCall, dCallN, dC, dVar, dChain, dSeq, dRng1, dRng2, dZip, dComp, dYes, dgName, dgTup, dgCons, dgNil, dwipe, dPeek, dPeekT, dIxO, frzAt, dNoPart, dPart, dSl, dEqV, dNeV, q000, q001, q002, q003, q004, q005, q006, q007, q008, q009, q010, q011, q012, q013, q014, q015, q016, q017, q018, q019, q020, q021, q022, q023, q024, q025, q026, q027, q028, q029, q030, q031, q032, q033, q034, q035, q036, q037, q038, q039, q040, q041, q042, q043, q044, q045, q046, q047, q048, q049, q050, q051, q052, q053, q054, q055, List.getElem?_cons_zero, List.getElem?_cons_succ, List.set_cons_zero, List.set_cons_succ, List.cons_append, List.nil_append, List.append_nil, if_true, if_false, ite_true, ite_false, Bool.false_eq_true, decide_eq_true_eq, Bool.not_true, Bool.not_false, Bool.not_eq_true', decide_eq_false_iff_not, Bool.not_not, isi_int_int, isi_int_bool, isi_int_tuple, isi_int_str, isi_int_lt, isi_bl_int, isi_bl_bool, isi_bl_lt, isi_str_str, isi_str_lt, isi_non_lt, isi_tup_tuple, isi_lst_tuple, isi_tup_lt, isi_lst_lt, okEq_int, okEq_bl, okEq_non, okEq_ils, okEq_vec, deqv_int, deqv_bl, deqv_ils, deqv_vec, true_and, and_true, and_self, reduceCtorEq, not_true_eq_false, not_false_eq_true, false_imp_iff, true_imp_iff, forall_const, g__law_whole]
  exact hq

def F__law_cell : FD := fun ds Q _ => ∃ (ns : List Int) (k : Int), ds = [.frz (ns.map .int), .int k] ∧ 0 ≤ k ∧ k < 2 ^ 62 ∧ ∀ n, Q (.int n)
def g__law_cell : DSt := (dSeqS (dIfS (dTst (dOp dLtV (dVar 1) (dCB dLenV (dCons (dVar 0) dNil)))) (dRet (dOp dIxV (dVar 0) (dVar 1))) dNext)
    (dSeqS (dSet 2 (dC (.int 17)))
    (dSeqS (dFor (dSeq (dVar 0)) (dgName 3) (dSet 2 (dOp dModV (dCB dIntV (dCons (dOp dAddV (dOp dMulV (dVar 2) (dC (.int 31))) (dOp dModV (dCB dIntV (dCons (dVar 3) dNil)) (dC (.int 1000003)))) dNil)) (dC (.int 1000003)))))
    (dRet (dOp dModV (dCB dIntV (dCons (dOp dMulV (dOp dMulV (dOp dAddV (dVar 2) (dC (.int 7))) (dOp dAddV (dVar 1) (dC (.int 3)))) (dC (.int 69621))) dNil)) (dC (.int 2147483647)))))))
theorem does__law_cell : Does ["script", "k", "seed", "cell"] ["script", "k"] F__law_cell g__law_cell := by
  rintro ds Q Xd ⟨ns, k, rfl, h0, h1, hq⟩
  refine ⟨rfl, ?_⟩
  show g__law_cell _ [.val _, .val _, .no, .no]
  simp -failIfUnchanged only [dSeqS, dSet, dSetO, dRet, dRetN, dIfS, dDrop, dNext, dBreak, dCont, dNever, dShow, dFor, dApp, dPutIx, dAsg, dOp, dUn, dTst, dTru, dAnd, dOr, dNot, dAndV, dOrV, dNotV, dIfE, dCons, dNil, dTup, dLst, dCB, dCall, dCallN, dC, dVar, dChain, dSeq, dRng1, dRng2, dZip, dComp, dYes, dgName, dgTup, dgCons, dgNil, dwipe, dPeek, dPeekT, dIxO, frzAt, dNoPart, dPart, dSl, dEqV, dNeV, q000, q001, q002, q003, q004, q005, q006, q007, q008, q009, q010, q011, q012, q013, q014, q015, q016, q017, q018, q019, q020, q021, q022, q023, q024, q025, q026, q027, q028, q029, q030, q031, q032, q033, q034, q035, q036, q037, q038, q039, q040, q041, q042, q043, q044, q045, q046, q047, q048, q049, q050, q051, q052, q053, q054, q055, List.getElem?_cons_zero, List.getElem?_cons_succ, List.set_cons_zero, List.set_cons_succ, List.cons_append, List.nil_append, List.append_nil, if_true, if_false, ite_true, ite_false, Bool.false_eq_true, decide_eq_true_eq, Bool.not_true, Bool.not_false, Bool.not_eq_true', decide_eq_false_iff_not, Bool.not_not, isi_int_int, isi_int_bool, isi_int_tuple, isi_int_str, isi_int_lt, isi_bl_int, isi_bl_bool, isi_bl_lt, isi_str_str, isi_str_lt, isi_non_lt, isi_tup_tuple, isi_lst_tuple, isi_tup_lt, isi_lst_lt, okEq_int, okEq_bl, okEq_non, okEq_ils, okEq_vec, deqv_int, deqv_bl, deqv_ils, deqv_vec, true_and, and_true, and_self, reduceCtorEq, not_true_eq_false, not_false_eq_true, false_imp_iff, true_imp_iff, forall_const, g__law_cell]
  by_cases h : k < (ns.map D.int).length
  · simp only [h]
    simp -failIfUnchanged only [dSeqS, dSet, dSetO, dRet, dRetN, dIfS, dDrop, dNext, dBreak, dCont, dNever, dShow, dFor, dApp, dPutIx, dAsg, dOp, dUn, dTst, dTru, dAnd, dOr, dNot, dAndV, dOrV, dNotV, dIfE, dCons, dNil, dTup, dLst, dCB, dCall, dCallN, dC, dVar, dChain, dSeq, dRng1, dRng2, dZip, dComp, dYes, dgName, dgTup, dgCons, dgNil, dwipe, dPeek, dPeekT, dIxO, frzAt, dNoPart, dPart, dSl, dEqV, dNeV, q000, q001, q002, q003, q004, q005, q006, q007, q008, q009, q010, q011, q012, q013, q014, q015, q016, q017, q018, q019, q020, q021, q022, q023, q024, q025, q026, q027, q028, q029, q030, q031, q032, q033, q034, q035, q036, q037, q038, q039, q040, q041, q042, q043, q044, q045, q046, q047, q048, q049, q050, q051, q052, q053, q054, q055, List.getElem?_cons_zero, List.getElem?_cons_succ, List.set_cons_zero, List.set_cons_succ, List.cons_append, List.nil_append, List.append_nil, if_true, if_false, ite_true, ite_false, Bool.false_eq_true, decide_eq_true_eq, Bool.not_true, Bool.not_false, Bool.not_eq_true', decide_eq_false_iff_not, Bool.not_not, isi_int_int, isi_int_bool, isi_int_tuple, isi_int_str, isi_int_lt, isi_bl_int, isi_bl_bool, isi_bl_lt, isi_str_str, isi_str_lt, isi_non_lt, isi_tup_tuple, isi_lst_tuple, isi_tup_lt, isi_lst_lt, okEq_int, okEq_bl, okEq_non, okEq_ils, okEq_vec, deqv_int, deqv_bl, deqv_ils, deqv_vec, true_and, and_true, and_self, reduceCtorEq, not_true_eq_false, not_false_eq_true, false_imp_iff, true_imp_iff, forall_const]
    obtain ⟨x, hx, _⟩ := atI_in (xs := ns) h0 (by simpa using h)
    exact ⟨.int x, by rw [atI_map, hx]; rfl, hq x⟩
  · simp only [h]
    simp -failIfUnchanged only [dSeqS, dSet, dSetO, dRet, dRetN, dIfS, dDrop, dNext, dBreak, dCont, dNever, dShow, dFor, dApp, dPutIx, dAsg, dOp, dUn, dTst, dTru, dAnd, dOr, dNot, dAndV, dOrV, dNotV, dIfE, dCons, dNil, dTup, dLst, dCB, dCall, dCallN, dC, dVar, dChain, dSeq, dRng1, dRng2, dZip, dComp, dYes, dgName, dgTup, dgCons, dgNil, dwipe, dPeek, dPeekT, dIxO, frzAt, dNoPart, dPart, dSl, dEqV, dNeV, q000, q001, q002, q003, q004, q005, q006, q007, q008, q009, q010, q011, q012, q013, q014, q015, q016, q017, q018, q019, q020, q021, q022, q023, q024, q025, q026, q027, q028, q029, q030, q031, q032, q033, q034, q035, q036, q037, q038, q039, q040, q041, q042, q043, q044, q045, q046, q047, q048, q049, q050, q051, q052, q053, q054, q055, List.getElem?_cons_zero, List.getElem?_cons_succ, List.set_cons_zero, List.set_cons_succ, List.cons_append, List.nil_append, List.append_nil, if_true, if_false, ite_true, ite_false, Bool.false_eq_true, decide_eq_true_eq, Bool.not_true, Bool.not_false, Bool.not_eq_true', decide_eq_false_iff_not, Bool.not_not, isi_int_int, isi_int_bool, isi_int_tuple, isi_int_str, isi_int_lt, isi_bl_int, isi_bl_bool, isi_bl_lt, isi_str_str, isi_str_lt, isi_non_lt, isi_tup_tuple, isi_lst_tuple, isi_tup_lt, isi_lst_lt, okEq_int, okEq_bl, okEq_non, okEq_ils, okEq_vec, deqv_int, deqv_bl, deqv_ils, deqv_vec, true_and, and_true, and_self, reduceCtorEq, not_true_eq_false, not_false_eq_true, false_imp_iff, true_imp_iff, forall_const]
    refine for_inv _ (fun i δ => ∃ (seed : Int) (c : DS), 0 ≤ seed ∧ seed < 1000003 ∧ δ = [.val (.frz (ns.map .int)), .val (.int k), .val (.int seed), c]) ⟨17, _, by omega, by omega, rfl⟩ ?_ ?_
    · rintro i d δ R hi ⟨seed, c, s0, s1, rfl⟩ hR
      obtain ⟨x, hx, rfl⟩ := map_get hi
      simp -failIfUnchanged only [dSeqS, dSet, dSetO, dRet, dRetN, dIfS, dDrop, dNext, dBreak, dCont, dNever, dShow, dFor, dApp, dPutIx, dAsg, dOp, dUn, dTst, dTru, dAnd, dOr, dNot, dAndV, dOrV, dNotV, dIfE, dCons, dNil, dTup, dLst, dCB, dCall, dCallN, dC, dVar, dChain, dSeq, dRng1, dRng2, dZip, dComp, dYes, dgName, dgTup, dgCons, dgNil, dwipe, dPeek, dPeekT, dIxO, frzAt, dNoPart, dPart, dSl, dEqV, dNeV, q000, q001, q002, q003, q004, q005, q006, q007, q008, q009, q010, q011, q012, q013, q014, q015, q016, q017, q018, q019, q020, q021, q022, q023, q024, q025, q026, q027, q028, q029, q030, q031, q032, q033, q034, q035, q036, q037, q038, q039, q040, q041, q042, q043, q044, q045, q046, q047, q048, q049, q050, q051, q052, q053, q054, q055, List.getElem?_cons_zero, List.getElem?_cons_succ, List.set_cons_zero, List.set_cons_succ, List.cons_append, List.nil_append, List.append_nil, if_true, if_false, ite_true, ite_false, Bool.false_eq_true, decide_eq_true_eq, Bool.not_true, Bool.not_false, Bool.not_eq_true', decide_eq_false_iff_not, Bool.not_not, isi_int_int, isi_int_bool, isi_int_tuple, isi_int_str, isi_int_lt, isi_bl_int, isi_bl_bool, isi_bl_lt, isi_str_str, isi_str_lt, isi_non_lt, isi_tup_tuple, isi_lst_tuple, isi_tup_lt, isi_lst_lt, okEq_int, okEq_bl, okEq_non, okEq_ils, okEq_vec, deqv_int, deqv_bl, deqv_ils, deqv_vec, true_and, and_true, and_self, reduceCtorEq, not_true_eq_false, not_false_eq_true, false_imp_iff, true_imp_iff, forall_const]
      refine ⟨mul_r (by omega) (by omega), by omega, by omega, hR _ ⟨(seed * 31 + x % 1000003) % 1000003, .val (.int x), Int.emod_nonneg _ (by omega), Int.emod_lt_of_pos _ (by omega), rfl⟩⟩
    · rintro δ ⟨seed, c, s0, s1, rfl⟩
      simp -failIfUnchanged only [dSeqS, dSet, dSetO, dRet, dRetN, dIfS, dDrop, dNext, dBreak, dCont, dNever, dShow, dFor, dApp, dPutIx, dAsg, dOp, dUn, dTst, dTru, dAnd, dOr, dNot, dAndV, dOrV, dNotV, dIfE, dCons, dNil, dTup, dLst, dCB, dCall, dCallN, dC, dVar, dChain, dSeq, dRng1, dRng2, dZip, dComp, dYes, dgName, dgTup, dgCons, dgNil, dwipe, dPeek, dPeekT, dIxO, frzAt, dNoPart, dPart, dSl, dEqV, dNeV, q000, q001, q002, q003, q004, q005, q006, q007, q008, q009, q010, q011, q012, q013, q014, q015, q016, q017, q018, q019, q020, q021, q022, q023, q024, q025, q026, q027, q028, q029, q030, q031, q032, q033, q034, q035, q036, q037, q038, q039, q040, q041, q042, q043, q044, q045, q046, q047, q048, q049, q050, q051, q052, q053, q054, q055, List.getElem?_cons_zero, List.getElem?_cons_succ, List.set_cons_zero, List.set_cons_succ, List.cons_append, List.nil_append, List.append_nil, if_true, if_false, ite_true, ite_false, Bool.false_eq_true, decide_eq_true_eq, Bool.not_true, Bool.not_false, Bool.not_eq_true', decide_eq_false_iff_not, Bool.not_not, isi_int_int, isi_int_bool, isi_int_tuple, isi_int_str, isi_int_lt, isi_bl_int, isi_bl_bool, isi_bl_lt, isi_str_str, isi_str_lt, isi_non_lt, isi_tup_tuple, isi_lst_tuple, isi_tup_lt, isi_lst_lt, okEq_int, okEq_bl, okEq_non, okEq_ils, okEq_vec, deqv_int, deqv_bl, deqv_ils, deqv_vec, true_and, and_true, and_self, reduceCtorEq, not_true_eq_false, not_false_eq_true, false_imp_iff, true_imp_iff, forall_const]
      exact ⟨mul_l (by omega) (by omega), mul_r (by omega) (by omega), by omega, hq _⟩

/-- a digit for each size -/
abbrev rowOk (sizes row : List Int) : Prop := Paired (fun s d => 0 ≤ d ∧ d < s) sizes row
def F__law_digits : FD := fun ds Q _ => ∃ (c : Int) (sizes : List Int), ds = [.int c, .lst (sizes.map .int)] ∧ (∀ s ∈ sizes, 0 < s ∧ s < 2 ^ 64) ∧ sizes.length < 1000000 ∧ ∀ row, rowOk sizes row → Q (.lst (row.map .int))
def g__law_digits : DSt := (dSeqS (dSetO 2 (dLst dNil))
    (dSeqS (dSet 3 (dCB dIntV (dCons (dVar 0) dNil)))
    (dSeqS (dIfS (dTst (dOp dGeV (dVar 3) (dOp dPowV (dC (.int 10)) (dC (.int 18))))) (dSeqS (dSet 3 (dOp dSubV (dVar 3) (dOp dPowV (dC (.int 10)) (dC (.int 18)))))
    (dSeqS (dFor (dSeq (dVar 1)) (dgName 6) (dSeqS (dApp 2 (dOp dModV (dCB dIntV (dCons (dVar 3) dNil)) (dVar 6)))
    (dSet 3 (dOp dFdivV (dCB dIntV (dCons (dVar 3) dNil)) (dVar 6)))))
    (dShow 2 (dRet (dVar 2))))) dNext)
    (dSeqS (dSet 4 (dOp dModV (dCB dIntV (dCons (dVar 3) dNil)) (dC (.int 2147483629))))
    (dSeqS (dFor (dRng1 (dCons (dCB dLenV (dCons (dVar 1) dNil)) dNil)) (dgName 5) (dSeqS (dSet 4 (dOp dModV (dCB dIntV (dCons (dOp dAddV (dOp dAddV (dOp dMulV (dVar 4) (dC (.int 48271))) (dOp dMulV (dC (.int 974711)) (dVar 5))) (dC (.int 12345))) dNil)) (dC (.int 2147483647))))
    (dSeqS (dSet 7 (dOp dModV (dCB dIntV (dCons (dOp dMulV (dVar 4) (dOp dAddV (dOp dFdivV (dVar 4) (dC (.int 65537))) (dC (.int 3)))) dNil)) (dC (.int 2147483629))))
    (dApp 2 (dOp dModV (dOp dFdivV (dVar 7) (dC (.int 19))) (dOp dIxV (dVar 1) (dVar 5)))))))
    (dShow 2 (dRet (dVar 2))))))))
theorem paired_snoc {α β : Type} {P : α → β → Prop} : ∀ {xs : List α} {ys : List β} {x : α} {y : β}, Paired P xs ys → P x y → Paired P (xs ++ [x]) (ys ++ [y])
  | _, _, _, _, .nil, h => .cons h .nil
  | _, _, _, _, .cons r t, h => .cons r (paired_snoc t h)
theorem does__law_digits : Does ["cell", "sizes", "row", "rest", "seed", "k", "size", "twice"] ["cell", "sizes"] F__law_digits g__law_digits := by
  rintro ds Q Xd ⟨c, sizes, rfl, hs, hl, hq⟩
  refine ⟨rfl, ?_⟩
  have line : sizes.length < sizeLine := by rw [sizeLine_eq]; omega
  show g__law_digits _ [.val _, .val _, .no, .no, .no, .no, .no, .no]
  simp -failIfUnchanged only [dSeqS, dSet, dSetO, dRet, dRetN, dIfS, dDrop, dNext, dBreak, dCont, dNever, dShow, dFor, dApp, dPutIx, dAsg, dOp, dUn, dTst, dTru, dAnd, dOr, dNot, dAndV, dOrV, dNotV, dIfE, dCons, dNil, dTup, dLst, dCB, dCall, dCallN, dC, dVar, dChain, dSeq, dRng1, dRng2, dZip, dComp, dYes, dgName, dgTup, dgCons, dgNil, dwipe, dPeek, dPeekT, dIxO, frzAt, dNoPart, dPart, dSl, dEqV, dNeV, q000, q001, q002, q003, q004, q005, q006, q007, q008, q009, q010, q011, q012, q013, q014, q015, q016, q017, q018, q019, q020, q021, q022, q023, q024, q025, q026, q027, q028, q029, q030, q031, q032, q033, q034, q035, q036, q037, q038, q039, q040, q041, q042, q043, q044, q045, q046, q047, q048, q049, q050, q051, q052, q053, q054, q055, List.getElem?_cons_zero, List.getElem?_cons_succ, List.set_cons_zero, List.set_cons_succ, List.cons_append, List.nil_append, List.append_nil, if_true, if_false, ite_true, ite_false, Bool.false_eq_true, decide_eq_true_eq, Bool.not_true, Bool.not_false, Bool.not_eq_true', decide_eq_false_iff_not, Bool.not_not, isi_int_int, isi_int_bool, isi_int_tuple, isi_int_str, isi_int_lt, isi_bl_int, isi_bl_bool, isi_bl_lt, isi_str_str, isi_str_lt, isi_non_lt, isi_tup_tuple, isi_lst_tuple, isi_tup_lt, isi_lst_lt, okEq_int, okEq_bl, okEq_non, okEq_ils, okEq_vec, deqv_int, deqv_bl, deqv_ils, deqv_vec, true_and, and_true, and_self, reduceCtorEq, not_true_eq_false, not_false_eq_true, false_imp_iff, true_imp_iff, forall_const, g__law_digits]
  refine ⟨by decide, by decide, ?_⟩
  by_cases h : c ≥ 10 ^ (18 : Int).toNat
  · simp only [h]
    simp -failIfUnchanged only [dSeqS, dSet, dSetO, dRet, dRetN, dIfS, dDrop, dNext, dBreak, dCont, dNever, dShow, dFor, dApp, dPutIx, dAsg, dOp, dUn, dTst, dTru, dAnd, dOr, dNot, dAndV, dOrV, dNotV, dIfE, dCons, dNil, dTup, dLst, dCB, dCall, dCallN, dC, dVar, dChain, dSeq, dRng1, dRng2, dZip, dComp, dYes, dgName, dgTup, dgCons, dgNil, dwipe, dPeek, dPeekT, dIxO, frzAt, dNoPart, dPart, dSl, dEqV, dNeV, q000, q001, q002, q003, q004, q005, q006, q007, q008, q009, q010, q011, q012, q013, q014, q015, q016, q017, q018, q019, q020, q021, q022, q023, q024, q025, q026, q027, q028, q029, q030, q031, q032, q033, q034, q035, q036, q037, q038, q039, q040, q041, q042, q043, q044, q045, q046, q047, q048, q049, q050, q051, q052, q053, q054, q055, List.getElem?_cons_zero, List.getElem?_cons_succ, List.set_cons_zero, List.set_cons_succ, List.cons_append, List.nil_append, List.append_nil, if_true, if_false, ite_true, ite_false, Bool.false_eq_true, decide_eq_true_eq, Bool.not_true, Bool.not_false, Bool.not_eq_true', decide_eq_false_iff_not, Bool.not_not, isi_int_int, isi_int_bool, isi_int_tuple, isi_int_str, isi_int_lt, isi_bl_int, isi_bl_bool, isi_bl_lt, isi_str_str, isi_str_lt, isi_non_lt, isi_tup_tuple, isi_lst_tuple, isi_tup_lt, isi_lst_lt, okEq_int, okEq_bl, okEq_non, okEq_ils, okEq_vec, deqv_int, deqv_bl, deqv_ils, deqv_vec, true_and, and_true, and_self, reduceCtorEq, not_true_eq_false, not_false_eq_true, false_imp_iff, true_imp_iff, forall_const]
    refine ⟨by decide, ?_⟩
    refine for_inv _ (fun i δ => ∃ (row : List Int) (rest : Int) (z : DS), rowOk (sizes.take i) row ∧ δ = [.val (.int c), .val (.lst (sizes.map .int)), .own (.lst (row.map .int)), .val (.int rest), .no, .no, z, .no]) ⟨[], _, _, .nil, rfl⟩ ?_ ?_
    · rintro i d δ R hi ⟨row, rest, z, hrow, rfl⟩ hR
      obtain ⟨s, hsz, rfl⟩ := map_get hi
      have hs' := hs s (List.mem_of_getElem? hsz)
      simp -failIfUnchanged only [dSeqS, dSet, dSetO, dRet, dRetN, dIfS, dDrop, dNext, dBreak, dCont, dNever, dShow, dFor, dApp, dPutIx, dAsg, dOp, dUn, dTst, dTru, dAnd, dOr, dNot, dAndV, dOrV, dNotV, dIfE, dCons, dNil, dTup, dLst, dCB, dCall, dCallN, dC, dVar, dChain, dSeq, dRng1, dRng2, dZip, dComp, dYes, dgName, dgTup, dgCons, dgNil, dwipe, dPeek, dPeekT, dIxO, frzAt, dNoPart, dPart, dSl, dEqV, dNeV, q000, q001, q002, q003, q004, q005, q006, q007, q008, q009, q010, q011, q012, q013, q014, q015, q016, q017, q018, q019, q020, q021, q022, q023, q024, q025, q026, q027, q028, q029, q030, q031, q032, q033, q034, q035, q036, q037, q038, q039, q040, q041, q042, q043, q044, q045, q046, q047, q048, q049, q050, q051, q052, q053, q054, q055, List.getElem?_cons_zero, List.getElem?_cons_succ, List.set_cons_zero, List.set_cons_succ, List.cons_append, List.nil_append, List.append_nil, if_true, if_false, ite_true, ite_false, Bool.false_eq_true, decide_eq_true_eq, Bool.not_true, Bool.not_false, Bool.not_eq_true', decide_eq_false_iff_not, Bool.not_not, isi_int_int, isi_int_bool, isi_int_tuple, isi_int_str, isi_int_lt, isi_bl_int, isi_bl_bool, isi_bl_lt, isi_str_str, isi_str_lt, isi_non_lt, isi_tup_tuple, isi_lst_tuple, isi_tup_lt, isi_lst_lt, okEq_int, okEq_bl, okEq_non, okEq_ils, okEq_vec, deqv_int, deqv_bl, deqv_ils, deqv_vec, true_and, and_true, and_self, reduceCtorEq, not_true_eq_false, not_false_eq_true, false_imp_iff, true_imp_iff, forall_const]
      have hlen := hrow.length
      have hi' := (List.getElem?_eq_some_iff.mp hsz).1
      rw [List.length_take] at hlen
      refine ⟨hs'.1, by rw [List.length_map]; omega, divOk_small hs'.1 hs'.2, hR _ ⟨row ++ [rest % s], rest / s, .val (.int s), ?_, ?_⟩⟩
      · rw [take_more hsz]
        exact paired_snoc hrow ⟨Int.emod_nonneg _ (by omega), Int.emod_lt_of_pos _ hs'.1⟩
      · rw [List.map_append]; rfl
    · rintro δ ⟨row, rest, z, hrow, rfl⟩
      simp -failIfUnchanged only [dSeqS, dSet, dSetO, dRet, dRetN, dIfS, dDrop, dNext, dBreak, dCont, dNever, dShow, dFor, dApp, dPutIx, dAsg, dOp, dUn, dTst, dTru, dAnd, dOr, dNot, dAndV, dOrV, dNotV, dIfE, dCons, dNil, dTup, dLst, dCB, dCall, dCallN, dC, dVar, dChain, dSeq, dRng1, dRng2, dZip, dComp, dYes, dgName, dgTup, dgCons, dgNil, dwipe, dPeek, dPeekT, dIxO, frzAt, dNoPart, dPart, dSl, dEqV, dNeV, q000, q001, q002, q003, q004, q005, q006, q007, q008, q009, q010, q011, q012, q013, q014, q015, q016, q017, q018, q019, q020, q021, q022, q023, q024, q025, q026, q027, q028, q029, q030, q031, q032, q033, q034, q035, q036, q037, q038, q039, q040, q041, q042, q043, q044, q045, q046, q047, q048, q049, q050, q051, q052, q053, q054, q055, List.getElem?_cons_zero, List.getElem?_cons_succ, List.set_cons_zero, List.set_cons_succ, List.cons_append, List.nil_append, List.append_nil, if_true, if_false, ite_true, ite_false, Bool.false_eq_true, decide_eq_true_eq, Bool.not_true, Bool.not_false, Bool.not_eq_true', decide_eq_false_iff_not, Bool.not_not, isi_int_int, isi_int_bool, isi_int_tuple, isi_int_str, isi_int_lt, isi_bl_int, isi_bl_bool, isi_bl_lt, isi_str_str, isi_str_lt, isi_non_lt, isi_tup_tuple, isi_lst_tuple, isi_tup_lt, isi_lst_lt, okEq_int, okEq_bl, okEq_non, okEq_ils, okEq_vec, deqv_int, deqv_bl, deqv_ils, deqv_vec, true_and, and_true, and_self, reduceCtorEq, not_true_eq_false, not_false_eq_true, false_imp_iff, true_imp_iff, forall_const]
      rw [List.length_map, List.take_length] at hrow
      exact hq row hrow
  · simp only [h]
    simp -failIfUnchanged only [dSeqS, dSet, dSetO, dRet, dRetN, dIfS, dDrop, dNext, dBreak, dCont, dNever, dShow, dFor, dApp, dPutIx, dAsg, dOp, dUn, dTst, dTru, dAnd, dOr, dNot, dAndV, dOrV, dNotV, dIfE, dCons, dNil, dTup, dLst, dCB, dCall, dCallN, dC, dVar, dChain, dSeq, dRng1, dRng2, dZip, dComp, dYes, dgName, dgTup, dgCons, dgNil, dwipe, dPeek, dPeekT, dIxO, frzAt, dNoPart, dPart, dSl, dEqV, dNeV, q000, q001, q002, q003, q004, q005, q006, q007, q008, q009, q010, q011, q012, q013, q014, q015, q016, q017, q018, q019, q020, q021, q022, q023, q024, q025, q026, q027, q028, q029, q030, q031, q032, q033, q034, q035, q036, q037, q038, q039, q040, q041, q042, q043, q044, q045, q046, q047, q048, q049, q050, q051, q052, q053, q054, q055, List.getElem?_cons_zero, List.getElem?_cons_succ, List.set_cons_zero, List.set_cons_succ, List.cons_append, List.nil_append, List.append_nil, if_true, if_false, ite_true, ite_false, Bool.false_eq_true, decide_eq_true_eq, Bool.not_true, Bool.not_false, Bool.not_eq_true', decide_eq_false_iff_not, Bool.not_not, isi_int_int, isi_int_bool, isi_int_tuple, isi_int_str, isi_int_lt, isi_bl_int, isi_bl_bool, isi_bl_lt, isi_str_str, isi_str_lt, isi_non_lt, isi_tup_tuple, isi_lst_tuple, isi_tup_lt, isi_lst_lt, okEq_int, okEq_bl, okEq_non, okEq_ils, okEq_vec, deqv_int, deqv_bl, deqv_ils, deqv_vec, true_and, and_true, and_self, reduceCtorEq, not_true_eq_false, not_false_eq_true, false_imp_iff, true_imp_iff, forall_const]
    refine ⟨by decide, by omega, by rw [List.length_map]; omega, ?_⟩
    rw [Int.toNat_natCast]
    rw [rngD_map]
    refine for_inv _ (fun i δ => ∃ (row : List Int) (seed : Int) (k t : DS), 0 ≤ seed ∧ seed < 2147483647 ∧ rowOk (sizes.take i) row ∧ δ = [.val (.int c), .val (.lst (sizes.map .int)), .own (.lst (row.map .int)), .val (.int c), .val (.int seed), k, .no, t]) ?_ ?_ ?_
    · exact ⟨[], _, _, _, Int.emod_nonneg _ (by omega), Int.lt_trans (Int.emod_lt_of_pos _ (by omega)) (by omega), .nil, rfl⟩
    · rintro i d δ R hi ⟨row, seed, k, t, s0, s1, hrow, rfl⟩ hR
      obtain ⟨j, hj, rfl⟩ := map_get hi
      have hij : j = i := by
        have := List.getElem?_range (n := (sizes.map D.int).length) (i := i) (by
          have := (List.getElem?_eq_some_iff.mp hj).1
          simpa using this)
        rw [this] at hj; injection hj with hj; exact hj.symm
      subst hij
      have hlt : j < sizes.length := by
        have := (List.getElem?_eq_some_iff.mp hj).1
        simpa using this
      have hsz : sizes[j]? = some sizes[j] := by simp [hlt]
      have hs' := hs _ (List.mem_of_getElem? hsz)
      have hlen := hrow.length
      rw [List.length_take] at hlen
      simp -failIfUnchanged only [dSeqS, dSet, dSetO, dRet, dRetN, dIfS, dDrop, dNext, dBreak, dCont, dNever, dShow, dFor, dApp, dPutIx, dAsg, dOp, dUn, dTst, dTru, dAnd, dOr, dNot, dAndV, dOrV, dNotV, dIfE, dCons, dNil, dTup, dLst, dCB, dCall, dCallN, dC, dVar, dChain, dSeq, dRng1, dRng2, dZip, dComp, dYes, dgName, dgTup, dgCons, dgNil, dwipe, dPeek, dPeekT, dIxO, frzAt, dNoPart, dPart, dSl, dEqV, dNeV, q000, q001, q002, q003, q004, q005, q006, q007, q008, q009, q010, q011, q012, q013, q014, q015, q016, q017, q018, q019, q020, q021, q022, q023, q024, q025, q026, q027, q028, q029, q030, q031, q032, q033, q034, q035, q036, q037, q038, q039, q040, q041, q042, q043, q044, q045, q046, q047, q048, q049, q050, q051, q052, q053, q054, q055, List.getElem?_cons_zero, List.getElem?_cons_succ, List.set_cons_zero, List.set_cons_succ, List.cons_append, List.nil_append, List.append_nil, if_true, if_false, ite_true, ite_false, Bool.false_eq_true, decide_eq_true_eq, Bool.not_true, Bool.not_false, Bool.not_eq_true', decide_eq_false_iff_not, Bool.not_not, isi_int_int, isi_int_bool, isi_int_tuple, isi_int_str, isi_int_lt, isi_bl_int, isi_bl_bool, isi_bl_lt, isi_str_str, isi_str_lt, isi_non_lt, isi_tup_tuple, isi_lst_tuple, isi_tup_lt, isi_lst_lt, okEq_int, okEq_bl, okEq_non, okEq_ils, okEq_vec, deqv_int, deqv_bl, deqv_ils, deqv_vec, true_and, and_true, and_self, reduceCtorEq, not_true_eq_false, not_false_eq_true, false_imp_iff, true_imp_iff, forall_const]
      have e1 := Int.emod_nonneg (seed * 48271 + 974711 * (0 + (j : Int)) + 12345) (b := 2147483647) (by omega)
      have e2 := Int.emod_lt_of_pos (seed * 48271 + 974711 * (0 + (j : Int)) + 12345) (b := 2147483647) (by omega)
      refine ⟨mul_r (by omega) (by omega), mul_l (by omega) (by omega), by omega, divOk_small (by omega) (by omega), mul_l (by omega) (by omega), by omega, divOk_small (by omega) (by omega), .int sizes[j], ?_, ?_⟩
      · rw [Int.zero_add]
        exact atI_get (by rw [List.getElem?_map, hsz]; rfl)
      simp -failIfUnchanged only [dSeqS, dSet, dSetO, dRet, dRetN, dIfS, dDrop, dNext, dBreak, dCont, dNever, dShow, dFor, dApp, dPutIx, dAsg, dOp, dUn, dTst, dTru, dAnd, dOr, dNot, dAndV, dOrV, dNotV, dIfE, dCons, dNil, dTup, dLst, dCB, dCall, dCallN, dC, dVar, dChain, dSeq, dRng1, dRng2, dZip, dComp, dYes, dgName, dgTup, dgCons, dgNil, dwipe, dPeek, dPeekT, dIxO, frzAt, dNoPart, dPart, dSl, dEqV, dNeV, q000, q001, q002, q003, q004, q005, q006, q007, q008, q009, q010, q011, q012, q013, q014, q015, q016, q017, q018, q019, q020, q021, q022, q023, q024, q025, q026, q027, q028, q029, q030, q031, q032, q033, q034, q035, q036, q037, q038, q039, q040, q041, q042, q043, q044, q045, q046, q047, q048, q049, q050, q051, q052, q053, q054, q055, List.getElem?_cons_zero, List.getElem?_cons_succ, List.set_cons_zero, List.set_cons_succ, List.cons_append, List.nil_append, List.append_nil, if_true, if_false, ite_true, ite_false, Bool.false_eq_true, decide_eq_true_eq, Bool.not_true, Bool.not_false, Bool.not_eq_true', decide_eq_false_iff_not, Bool.not_not, isi_int_int, isi_int_bool, isi_int_tuple, isi_int_str, isi_int_lt, isi_bl_int, isi_bl_bool, isi_bl_lt, isi_str_str, isi_str_lt, isi_non_lt, isi_tup_tuple, isi_lst_tuple, isi_tup_lt, isi_lst_lt, okEq_int, okEq_bl, okEq_non, okEq_ils, okEq_vec, deqv_int, deqv_bl, deqv_ils, deqv_vec, true_and, and_true, and_self, reduceCtorEq, not_true_eq_false, not_false_eq_true, false_imp_iff, true_imp_iff, forall_const]
      refine ⟨hs'.1, by rw [List.length_map]; omega, hR _ ⟨row ++ [?x], ?s, ?k, ?t, ?g1, ?g2, ?g3, ?g4⟩⟩
      case g4 => rw [List.map_append]; rfl
      case g1 => exact e1
      case g2 => exact e2
      case g3 =>
        rw [take_more hsz]
        exact paired_snoc hrow ⟨Int.emod_nonneg _ (by omega), Int.emod_lt_of_pos _ hs'.1⟩
    · rintro δ ⟨row, seed, k, t, s0, s1, hrow, rfl⟩
      simp -failIfUnchanged only [dSeqS, dSet, dSetO, dRet, dRetN, dIfS, dDrop, dNext, dBreak, dCont, dNever, dShow, dFor, dApp, dPutIx, dAsg, dOp, dUn, dTst, dTru, dAnd, dOr, dNot, dAndV, dOrV, dNotV, dIfE, dCons, dNil, dTup, dLst, dCB, dCall, dCallN, dC, dVar, dChain, dSeq, dRng1, dRng2, dZip, dComp, dYes, dgName, dgTup, dgCons, dgNil, dwipe, dPeek, dPeekT, dIxO, frzAt, dNoPart, dPart, dSl, dEqV, dNeV, q000, q001, q002, q003, q004, q005, q006, q007, q008, q009, q010, q011, q012, q013, q014, q015, q016, q017, q018, q019, q020, q021, q022, q023, q024, q025, q026, q027, q028, q029, q030, q031, q032, q033, q034, q035, q036, q037, q038, q039, q040, q041, q042, q043, q044, q045, q046, q047, q048, q049, q050, q051, q052, q053, q054, q055, List.getElem?_cons_zero, List.getElem?_cons_succ, List.set_cons_zero, List.set_cons_succ, List.cons_append, List.nil_append, List.append_nil, if_true, if_false, ite_true, ite_false, Bool.false_eq_true, decide_eq_true_eq, Bool.not_true, Bool.not_false, Bool.not_eq_true', decide_eq_false_iff_not, Bool.not_not, isi_int_int, isi_int_bool, isi_int_tuple, isi_int_str, isi_int_lt, isi_bl_int, isi_bl_bool, isi_bl_lt, isi_str_str, isi_str_lt, isi_non_lt, isi_tup_tuple, isi_lst_tuple, isi_tup_lt, isi_lst_lt, okEq_int, okEq_bl, okEq_non, okEq_ils, okEq_vec, deqv_int, deqv_bl, deqv_ils, deqv_vec, true_and, and_true, and_self, reduceCtorEq, not_true_eq_false, not_false_eq_true, false_imp_iff, true_imp_iff, forall_const]
      simp only [List.length_map, List.length_range, List.take_length] at hrow
      exact hq row hrow

def F__law_number : FD := fun ds Q _ => ∃ (c lo hi : Int), ds = [.int c, .int lo, .int hi] ∧ lo ≤ hi ∧ ∀ n, lo ≤ n → n ≤ hi → Q (.int n)
def g__law_number : DSt := (dSeqS (dSet 3 (dCB dIntV (dCons (dVar 0) dNil)))
    (dSeqS (dIfS (dTst (dOp dGeV (dVar 3) (dOp dPowV (dC (.int 10)) (dC (.int 18))))) (dRet (dOp dAddV (dVar 1) (dOp dModV (dCB dIntV (dCons (dOp dSubV (dVar 3) (dOp dPowV (dC (.int 10)) (dC (.int 18)))) dNil)) (dOp dAddV (dOp dSubV (dVar 2) (dVar 1)) (dC (.int 1)))))) dNext)
    (dSeqS (dSet 4 (dC (.int 0)))
    (dSeqS (dSet 5 (dOp dModV (dCB dIntV (dCons (dVar 3) dNil)) (dC (.int 2147483629))))
    (dSeqS (dFor (dRng1 (dCons (dC (.int 54)) dNil)) (dgName 6) (dSeqS (dSet 5 (dOp dModV (dCB dIntV (dCons (dOp dAddV (dOp dAddV (dOp dMulV (dVar 5) (dC (.int 48271))) (dOp dMulV (dC (.int 974711)) (dVar 6))) (dC (.int 12345))) dNil)) (dC (.int 2147483647))))
    (dSet 4 (dOp dAddV (dOp dMulV (dVar 4) (dC (.int 1000003))) (dOp dFdivV (dOp dModV (dCB dIntV (dCons (dOp dMulV (dVar 5) (dOp dAddV (dOp dFdivV (dVar 5) (dC (.int 65537))) (dC (.int 3)))) dNil)) (dC (.int 2147483629))) (dC (.int 19)))))))
    (dRet (dOp dAddV (dVar 1) (dOp dModV (dCB dIntV (dCons (dVar 4) dNil)) (dOp dAddV (dOp dSubV (dVar 2) (dVar 1)) (dC (.int 1)))))))))))
theorem does__law_number : Does ["cell", "low", "high", "rest", "total", "seed", "k"] ["cell", "low", "high"] F__law_number g__law_number := by
  rintro ds Q Xd ⟨c, lo, hi, rfl, hlo, hq⟩
  refine ⟨rfl, ?_⟩
  show g__law_number _ [.val _, .val _, .val _, .no, .no, .no, .no]
  have fin : ∀ x : Int, Q (.int (lo + x % (hi - lo + 1))) := fun x => hq _ (by have := Int.emod_nonneg x (b := hi - lo + 1) (by omega); omega) (by have := Int.emod_lt_of_pos x (b := hi - lo + 1) (by omega); omega)
  simp -failIfUnchanged only [dSeqS, dSet, dSetO, dRet, dRetN, dIfS, dDrop, dNext, dBreak, dCont, dNever, dShow, dFor, dApp, dPutIx, dAsg, dOp, dUn, dTst, dTru, dAnd, dOr, dNot, dAndV, dOrV, dNotV, dIfE, dCons, dNil, dTup, dLst, dCB, dCall, dCallN, dC, dVar, dChain, dSeq, dRng1, dRng2, dZip, dComp, dYes, dgName, dgTup, dgCons, dgNil, dwipe, dPeek, dPeekT, dIxO, frzAt, dNoPart, dPart, dSl, dEqV, dNeV, q000, q001, q002, q003, q004, q005, q006, q007, q008, q009, q010, q011, q012, q013, q014, q015, q016, q017, q018, q019, q020, q021, q022, q023, q024, q025, q026, q027, q028, q029, q030, q031, q032, q033, q034, q035, q036, q037, q038, q039, q040, q041, q042, q043, q044, q045, q046, q047, q048, q049, q050, q051, q052, q053, q054, q055, List.getElem?_cons_zero, List.getElem?_cons_succ, List.set_cons_zero, List.set_cons_succ, List.cons_append, List.nil_append, List.append_nil, if_true, if_false, ite_true, ite_false, Bool.false_eq_true, decide_eq_true_eq, Bool.not_true, Bool.not_false, Bool.not_eq_true', decide_eq_false_iff_not, Bool.not_not, isi_int_int, isi_int_bool, isi_int_tuple, isi_int_str, isi_int_lt, isi_bl_int, isi_bl_bool, isi_bl_lt, isi_str_str, isi_str_lt, isi_non_lt, isi_tup_tuple, isi_lst_tuple, isi_tup_lt, isi_lst_lt, okEq_int, okEq_bl, okEq_non, okEq_ils, okEq_vec, deqv_int, deqv_bl, deqv_ils, deqv_vec, true_and, and_true, and_self, reduceCtorEq, not_true_eq_false, not_false_eq_true, false_imp_iff, true_imp_iff, forall_const, g__law_number]
  refine ⟨by decide, ?_⟩
  by_cases h : c ≥ 10 ^ (18 : Int).toNat
  · simp only [h]
    simp -failIfUnchanged only [dSeqS, dSet, dSetO, dRet, dRetN, dIfS, dDrop, dNext, dBreak, dCont, dNever, dShow, dFor, dApp, dPutIx, dAsg, dOp, dUn, dTst, dTru, dAnd, dOr, dNot, dAndV, dOrV, dNotV, dIfE, dCons, dNil, dTup, dLst, dCB, dCall, dCallN, dC, dVar, dChain, dSeq, dRng1, dRng2, dZip, dComp, dYes, dgName, dgTup, dgCons, dgNil, dwipe, dPeek, dPeekT, dIxO, frzAt, dNoPart, dPart, dSl, dEqV, dNeV, q000, q001, q002, q003, q004, q005, q006, q007, q008, q009, q010, q011, q012, q013, q014, q015, q016, q017, q018, q019, q020, q021, q022, q023, q024, q025, q026, q027, q028, q029, q030, q031, q032, q033, q034, q035, q036, q037, q038, q039, q040, q041, q042, q043, q044, q045, q046, q047, q048, q049, q050, q051, q052, q053, q054, q055, List.getElem?_cons_zero, List.getElem?_cons_succ, List.set_cons_zero, List.set_cons_succ, List.cons_append, List.nil_append, List.append_nil, if_true, if_false, ite_true, ite_false, Bool.false_eq_true, decide_eq_true_eq, Bool.not_true, Bool.not_false, Bool.not_eq_true', decide_eq_false_iff_not, Bool.not_not, isi_int_int, isi_int_bool, isi_int_tuple, isi_int_str, isi_int_lt, isi_bl_int, isi_bl_bool, isi_bl_lt, isi_str_str, isi_str_lt, isi_non_lt, isi_tup_tuple, isi_lst_tuple, isi_tup_lt, isi_lst_lt, okEq_int, okEq_bl, okEq_non, okEq_ils, okEq_vec, deqv_int, deqv_bl, deqv_ils, deqv_vec, true_and, and_true, and_self, reduceCtorEq, not_true_eq_false, not_false_eq_true, false_imp_iff, true_imp_iff, forall_const]
    exact ⟨by decide, by omega, fin _⟩
  · simp only [h]
    simp -failIfUnchanged only [dSeqS, dSet, dSetO, dRet, dRetN, dIfS, dDrop, dNext, dBreak, dCont, dNever, dShow, dFor, dApp, dPutIx, dAsg, dOp, dUn, dTst, dTru, dAnd, dOr, dNot, dAndV, dOrV, dNotV, dIfE, dCons, dNil, dTup, dLst, dCB, dCall, dCallN, dC, dVar, dChain, dSeq, dRng1, dRng2, dZip, dComp, dYes, dgName, dgTup, dgCons, dgNil, dwipe, dPeek, dPeekT, dIxO, frzAt, dNoPart, dPart, dSl, dEqV, dNeV, q000, q001, q002, q003, q004, q005, q006, q007, q008, q009, q010, q011, q012, q013, q014, q015, q016, q017, q018, q019, q020, q021, q022, q023, q024, q025, q026, q027, q028, q029, q030, q031, q032, q033, q034, q035, q036, q037, q038, q039, q040, q041, q042, q043, q044, q045, q046, q047, q048, q049, q050, q051, q052, q053, q054, q055, List.getElem?_cons_zero, List.getElem?_cons_succ, List.set_cons_zero, List.set_cons_succ, List.cons_append, List.nil_append, List.append_nil, if_true, if_false, ite_true, ite_false, Bool.false_eq_true, decide_eq_true_eq, Bool.not_true, Bool.not_false, Bool.not_eq_true', decide_eq_false_iff_not, Bool.not_not, isi_int_int, isi_int_bool, isi_int_tuple, isi_int_str, isi_int_lt, isi_bl_int, isi_bl_bool, isi_bl_lt, isi_str_str, isi_str_lt, isi_non_lt, isi_tup_tuple, isi_lst_tuple, isi_tup_lt, isi_lst_lt, okEq_int, okEq_bl, okEq_non, okEq_ils, okEq_vec, deqv_int, deqv_bl, deqv_ils, deqv_vec, true_and, and_true, and_self, reduceCtorEq, not_true_eq_false, not_false_eq_true, false_imp_iff, true_imp_iff, forall_const]
    refine ⟨by decide, by decide, by decide, ?_⟩
    rw [rngD_map]
    refine for_inv _ (fun i δ => ∃ (total seed : Int) (k : DS), 0 ≤ seed ∧ seed < 2147483647 ∧ δ = [.val (.int c), .val (.int lo), .val (.int hi), .val (.int c), .val (.int total), .val (.int seed), k]) ?_ ?_ ?_
    · exact ⟨0, _, _, Int.emod_nonneg _ (by omega), Int.lt_trans (Int.emod_lt_of_pos _ (by omega)) (by omega), rfl⟩
    · rintro i d δ R hi' ⟨total, seed, k, s0, s1, rfl⟩ hR
      obtain ⟨j, hj, rfl⟩ := map_get hi'
      simp -failIfUnchanged only [dSeqS, dSet, dSetO, dRet, dRetN, dIfS, dDrop, dNext, dBreak, dCont, dNever, dShow, dFor, dApp, dPutIx, dAsg, dOp, dUn, dTst, dTru, dAnd, dOr, dNot, dAndV, dOrV, dNotV, dIfE, dCons, dNil, dTup, dLst, dCB, dCall, dCallN, dC, dVar, dChain, dSeq, dRng1, dRng2, dZip, dComp, dYes, dgName, dgTup, dgCons, dgNil, dwipe, dPeek, dPeekT, dIxO, frzAt, dNoPart, dPart, dSl, dEqV, dNeV, q000, q001, q002, q003, q004, q005, q006, q007, q008, q009, q010, q011, q012, q013, q014, q015, q016, q017, q018, q019, q020, q021, q022, q023, q024, q025, q026, q027, q028, q029, q030, q031, q032, q033, q034, q035, q036, q037, q038, q039, q040, q041, q042, q043, q044, q045, q046, q047, q048, q049, q050, q051, q052, q053, q054, q055, List.getElem?_cons_zero, List.getElem?_cons_succ, List.set_cons_zero, List.set_cons_succ, List.cons_append, List.nil_append, List.append_nil, if_true, if_false, ite_true, ite_false, Bool.false_eq_true, decide_eq_true_eq, Bool.not_true, Bool.not_false, Bool.not_eq_true', decide_eq_false_iff_not, Bool.not_not, isi_int_int, isi_int_bool, isi_int_tuple, isi_int_str, isi_int_lt, isi_bl_int, isi_bl_bool, isi_bl_lt, isi_str_str, isi_str_lt, isi_non_lt, isi_tup_tuple, isi_lst_tuple, isi_tup_lt, isi_lst_lt, okEq_int, okEq_bl, okEq_non, okEq_ils, okEq_vec, deqv_int, deqv_bl, deqv_ils, deqv_vec, true_and, and_true, and_self, reduceCtorEq, not_true_eq_false, not_false_eq_true, false_imp_iff, true_imp_iff, forall_const]
      have e1 := Int.emod_nonneg (seed * 48271 + 974711 * (0 + (j : Int)) + 12345) (b := 2147483647) (by omega)
      have e2 := Int.emod_lt_of_pos (seed * 48271 + 974711 * (0 + (j : Int)) + 12345) (b := 2147483647) (by omega)
      exact ⟨mul_r (by omega) (by omega), mul_l (by omega) (by omega), by omega, mul_r (by omega) (by omega), divOk_small (by omega) (by omega), mul_l (by omega) (by omega), by omega, divOk_small (by omega) (by omega), hR _ ⟨_, _, _, e1, e2, rfl⟩⟩
    · rintro δ ⟨total, seed, k, s0, s1, rfl⟩
      simp -failIfUnchanged only [dSeqS, dSet, dSetO, dRet, dRetN, dIfS, dDrop, dNext, dBreak, dCont, dNever, dShow, dFor, dApp, dPutIx, dAsg, dOp, dUn, dTst, dTru, dAnd, dOr, dNot, dAndV, dOrV, dNotV, dIfE, dCons, dNil, dTup, dLst, dCB, dCall, dCallN, dC, dVar, dChain, dSeq, dRng1, dRng2, dZip, dComp, dYes, dgName, dgTup, dgCons, dgNil, dwipe, dPeek, dPeekT, dIxO, frzAt, dNoPart, dPart, dSl, dEqV, dNeV, q000, q001, q002, q003, q004, q005, q006, q007, q008, q009, q010, q011, q012, q013, q014, q015, q016, q017, q018, q019, q020, q021, q022, q023, q024, q025, q026, q027, q028, q029, q030, q031, q032, q033, q034, q035, q036, q037, q038, q039, q040, q041, q042, q043, q044, q045, q046, q047, q048, q049, q050, q051, q052, q053, q054, q055, List.getElem?_cons_zero, List.getElem?_cons_succ, List.set_cons_zero, List.set_cons_succ, List.cons_append, List.nil_append, List.append_nil, if_true, if_false, ite_true, ite_false, Bool.false_eq_true, decide_eq_true_eq, Bool.not_true, Bool.not_false, Bool.not_eq_true', decide_eq_false_iff_not, Bool.not_not, isi_int_int, isi_int_bool, isi_int_tuple, isi_int_str, isi_int_lt, isi_bl_int, isi_bl_bool, isi_bl_lt, isi_str_str, isi_str_lt, isi_non_lt, isi_tup_tuple, isi_lst_tuple, isi_tup_lt, isi_lst_lt, okEq_int, okEq_bl, okEq_non, okEq_ils, okEq_vec, deqv_int, deqv_bl, deqv_ils, deqv_vec, true_and, and_true, and_self, reduceCtorEq, not_true_eq_false, not_false_eq_true, false_imp_iff, true_imp_iff, forall_const]
      exact ⟨by omega, fin _⟩

def F__law_power : FD := fun ds Q _ => ∃ (n c : Int), ds = [.int n, .int c] ∧ -(2 ^ 64) < n ∧ n < 2 ^ 64 ∧ -(2 ^ 62) ≤ c ∧ c < 2 ^ 62 ∧ Q (.int (n ^ c.toNat))
def g__law_power : DSt := (dSeqS (dSet 2 (dC (.int 1)))
    (dSeqS (dFor (dRng1 (dCons (dVar 1) dNil)) (dgName 3) (dSet 2 (dOp dMulV (dVar 2) (dVar 0))))
    (dRet (dVar 2))))
theorem does__law_power : Does ["number", "count", "power", "k"] ["number", "count"] F__law_power g__law_power := by
  rintro ds Q Xd ⟨n, c, rfl, n0, n1, c0, c1, hq⟩
  refine ⟨rfl, ?_⟩
  show g__law_power _ [.val _, .val _, .no, .no]
  simp -failIfUnchanged only [dSeqS, dSet, dSetO, dRet, dRetN, dIfS, dDrop, dNext, dBreak, dCont, dNever, dShow, dFor, dApp, dPutIx, dAsg, dOp, dUn, dTst, dTru, dAnd, dOr, dNot, dAndV, dOrV, dNotV, dIfE, dCons, dNil, dTup, dLst, dCB, dCall, dCallN, dC, dVar, dChain, dSeq, dRng1, dRng2, dZip, dComp, dYes, dgName, dgTup, dgCons, dgNil, dwipe, dPeek, dPeekT, dIxO, frzAt, dNoPart, dPart, dSl, dEqV, dNeV, q000, q001, q002, q003, q004, q005, q006, q007, q008, q009, q010, q011, q012, q013, q014, q015, q016, q017, q018, q019, q020, q021, q022, q023, q024, q025, q026, q027, q028, q029, q030, q031, q032, q033, q034, q035, q036, q037, q038, q039, q040, q041, q042, q043, q044, q045, q046, q047, q048, q049, q050, q051, q052, q053, q054, q055, List.getElem?_cons_zero, List.getElem?_cons_succ, List.set_cons_zero, List.set_cons_succ, List.cons_append, List.nil_append, List.append_nil, if_true, if_false, ite_true, ite_false, Bool.false_eq_true, decide_eq_true_eq, Bool.not_true, Bool.not_false, Bool.not_eq_true', decide_eq_false_iff_not, Bool.not_not, isi_int_int, isi_int_bool, isi_int_tuple, isi_int_str, isi_int_lt, isi_bl_int, isi_bl_bool, isi_bl_lt, isi_str_str, isi_str_lt, isi_non_lt, isi_tup_tuple, isi_lst_tuple, isi_tup_lt, isi_lst_lt, okEq_int, okEq_bl, okEq_non, okEq_ils, okEq_vec, deqv_int, deqv_bl, deqv_ils, deqv_vec, true_and, and_true, and_self, reduceCtorEq, not_true_eq_false, not_false_eq_true, false_imp_iff, true_imp_iff, forall_const, g__law_power]
  refine ⟨c0, c1, ?_⟩
  rw [rngD_map]
  refine for_inv _ (fun i δ => ∃ k : DS, δ = [.val (.int n), .val (.int c), .val (.int (n ^ i)), k]) ⟨.no, by rw [Int.pow_zero]⟩ ?_ ?_
  · rintro i d δ R hi ⟨k, rfl⟩ hR
    obtain ⟨j, hj, rfl⟩ := map_get hi
    simp -failIfUnchanged only [dSeqS, dSet, dSetO, dRet, dRetN, dIfS, dDrop, dNext, dBreak, dCont, dNever, dShow, dFor, dApp, dPutIx, dAsg, dOp, dUn, dTst, dTru, dAnd, dOr, dNot, dAndV, dOrV, dNotV, dIfE, dCons, dNil, dTup, dLst, dCB, dCall, dCallN, dC, dVar, dChain, dSeq, dRng1, dRng2, dZip, dComp, dYes, dgName, dgTup, dgCons, dgNil, dwipe, dPeek, dPeekT, dIxO, frzAt, dNoPart, dPart, dSl, dEqV, dNeV, q000, q001, q002, q003, q004, q005, q006, q007, q008, q009, q010, q011, q012, q013, q014, q015, q016, q017, q018, q019, q020, q021, q022, q023, q024, q025, q026, q027, q028, q029, q030, q031, q032, q033, q034, q035, q036, q037, q038, q039, q040, q041, q042, q043, q044, q045, q046, q047, q048, q049, q050, q051, q052, q053, q054, q055, List.getElem?_cons_zero, List.getElem?_cons_succ, List.set_cons_zero, List.set_cons_succ, List.cons_append, List.nil_append, List.append_nil, if_true, if_false, ite_true, ite_false, Bool.false_eq_true, decide_eq_true_eq, Bool.not_true, Bool.not_false, Bool.not_eq_true', decide_eq_false_iff_not, Bool.not_not, isi_int_int, isi_int_bool, isi_int_tuple, isi_int_str, isi_int_lt, isi_bl_int, isi_bl_bool, isi_bl_lt, isi_str_str, isi_str_lt, isi_non_lt, isi_tup_tuple, isi_lst_tuple, isi_tup_lt, isi_lst_lt, okEq_int, okEq_bl, okEq_non, okEq_ils, okEq_vec, deqv_int, deqv_bl, deqv_ils, deqv_vec, true_and, and_true, and_self, reduceCtorEq, not_true_eq_false, not_false_eq_true, false_imp_iff, true_imp_iff, forall_const]
    exact ⟨mul_r n0 n1, hR _ ⟨_, by rw [← Int.pow_succ]⟩⟩
  · rintro δ ⟨k, rfl⟩
    simp -failIfUnchanged only [dSeqS, dSet, dSetO, dRet, dRetN, dIfS, dDrop, dNext, dBreak, dCont, dNever, dShow, dFor, dApp, dPutIx, dAsg, dOp, dUn, dTst, dTru, dAnd, dOr, dNot, dAndV, dOrV, dNotV, dIfE, dCons, dNil, dTup, dLst, dCB, dCall, dCallN, dC, dVar, dChain, dSeq, dRng1, dRng2, dZip, dComp, dYes, dgName, dgTup, dgCons, dgNil, dwipe, dPeek, dPeekT, dIxO, frzAt, dNoPart, dPart, dSl, dEqV, dNeV, q000, q001, q002, q003, q004, q005, q006, q007, q008, q009, q010, q011, q012, q013, q014, q015, q016, q017, q018, q019, q020, q021, q022, q023, q024, q025, q026, q027, q028, q029, q030, q031, q032, q033, q034, q035, q036, q037, q038, q039, q040, q041, q042, q043, q044, q045, q046, q047, q048, q049, q050, q051, q052, q053, q054, q055, List.getElem?_cons_zero, List.getElem?_cons_succ, List.set_cons_zero, List.set_cons_succ, List.cons_append, List.nil_append, List.append_nil, if_true, if_false, ite_true, ite_false, Bool.false_eq_true, decide_eq_true_eq, Bool.not_true, Bool.not_false, Bool.not_eq_true', decide_eq_false_iff_not, Bool.not_not, isi_int_int, isi_int_bool, isi_int_tuple, isi_int_str, isi_int_lt, isi_bl_int, isi_bl_bool, isi_bl_lt, isi_str_str, isi_str_lt, isi_non_lt, isi_tup_tuple, isi_lst_tuple, isi_tup_lt, isi_lst_lt, okEq_int, okEq_bl, okEq_non, okEq_ils, okEq_vec, deqv_int, deqv_bl, deqv_ils, deqv_vec, true_and, and_true, and_self, reduceCtorEq, not_true_eq_false, not_false_eq_true, false_imp_iff, true_imp_iff, forall_const]
    rw [List.length_map, List.length_range]
    exact hq
end L2.DL

-- K00I
set_option Elab.async false
set_option linter.all false
set_option maxRecDepth 100000
set_option maxHeartbeats 2000000
namespace L2.DL
open PySem PySem.Spec PyProof.Rows
/-! # the law's drawn vector and rows -/
theorem rng_get {n i : Nat} {d : D} (h : (rngD 0 n)[i]? = some d) : i < n ∧ d = .int (i : Nat) := by
  unfold rngD at h
  obtain ⟨j, hj, rfl⟩ := map_get h
  have hi : i < n := by
    have := (List.getElem?_eq_some_iff.mp hj).1
    simpa using this
  rw [List.getElem?_range hi] at hj
  injection hj with hj
  subst hj
  exact ⟨hi, by rw [Int.zero_add]⟩
theorem int_len {n : Int} {k : Nat} (h : n = (k : Int)) : n.toNat = k := by omega
/-- the fold over range(n), by the turn's number -/
theorem for_rng {f : DG} {g : DSt} {F : DEnds} {δ : Env} (n : Nat) (P : Nat → Env → Prop) (h0 : P 0 δ) (hs : ∀ (i : Nat) (δ : Env) (R : Env → Prop), i < n → P i δ → (∀ δ', P (i + 1) δ' → R δ') → f (.int (i : Nat)) δ fun δ' => g { F with nx := R, ct := R, bk := F.nx } δ')
    (hd : ∀ δ, P n δ → F.nx δ) : dForL f g F (rngD 0 n) δ := by
  refine for_inv _ P h0 (fun i d δ R hi hp hR => ?_) (fun δ hp => hd δ (by rw [rngD_len] at hp; exact hp))
  obtain ⟨hlt, rfl⟩ := rng_get hi
  exact hs i δ R hlt hp hR
/-- [f k for k in range(n)] -/
theorem comp_rng {g : DG} {fe : DE} {δ : Env} {Q : DP} (n : Nat) (f : Nat → D) (h : ∀ i, i < n → ∀ R : DP, R (f i) → g (.int (i : Nat)) δ fun δ2 => fe δ2 R fun _ => False) (hQ : Q (.lst ((List.range n).map f))) : dLoop g dYes fe δ (rngD 0 n) [] Q := by
  unfold rngD
  refine comp_map (fun i : Nat => D.int (0 + (i : Nat))) f (List.range n) (fun i hi R hR => ?_) hQ
  rw [Int.zero_add]
  exact h i (List.mem_range.mp hi) R hR
theorem pow_bound {b e N k : Nat} (hb : b ≤ 2 ^ k) (he : k * e ≤ N) : b ^ e ≤ 2 ^ N := Nat.le_trans (Nat.pow_le_pow_left hb e) (by rw [← Nat.pow_mul]; exact Nat.pow_le_pow_right (by decide) he)
theorem ipow {b : Int} {e N k : Nat} (h0 : 0 ≤ b) (hb : b.toNat ≤ 2 ^ k) (he : k * e ≤ N) : 0 ≤ b ^ e ∧ b ^ e ≤ ((2 ^ N : Nat) : Int) := by
  obtain ⟨n, rfl⟩ : ∃ n : Nat, b = (n : Int) := ⟨b.toNat, by omega⟩
  rw [← Int.natCast_pow]
  have := pow_bound (b := n) (e := e) (by simpa using hb) he
  exact ⟨Int.natCast_nonneg _, by exact_mod_cast this⟩
theorem emod_le {n z : Int} (h : 0 ≤ n) (hz : 0 < z) : n % z ≤ n := by
  have h1 := Int.mul_nonneg (Int.le_of_lt hz) (Int.ediv_nonneg h (Int.le_of_lt hz))
  have h2 := Int.mul_ediv_add_emod n z
  omega
def F__law_entry : FD := fun ds Q _ => ∃ (p c r f : Int), ds = [.int p, .int c, .int r, .int f] ∧ 2 ≤ r ∧ r ≤ 8 ∧ 1 ≤ f ∧ f ≤ 3 ∧ ∀ n : Int, n.natAbs < 2 ^ 3010 → Q (.int n)
def g__law_entry : DSt := (dSeqS (dSet 4 (dCall F__law_power [] (dCons (dC (.int 10)) (dCons (dOp dMulV (dC (.int 300)) (dVar 3)) dNil))))
    (dSeqS (dSet 5 (dCall F__law_digits [] (dCons (dVar 0) (dCons (dLst (dCons (dC (.int 8)) (dCons (dC (.int 300)) (dCons (dC (.int 3)) (dCons (dC (.int 2)) (dCons (dC (.int 100)) dNil)))))) dNil))))
    (dSeqS (dSet 6 (dC (.int 0)))
    (dSeqS (dIfS (dOr (dTst (dOp dEqV (dOp dIxV (dVar 5) (dC (.int 0))) (dC (.int 1)))) (dTst (dOp dEqV (dOp dIxV (dVar 5) (dC (.int 0))) (dC (.int 2))))) (dSet 6 (dOp dSubV (dOp dAddV (dCall F__law_power [] (dCons (dVar 2) (dCons (dOp dMulV (dVar 3) (dOp dIxV (dVar 5) (dC (.int 1)))) dNil))) (dOp dIxV (dVar 5) (dC (.int 2)))) (dC (.int 1)))) dNext)
    (dSeqS (dIfS (dTst (dOp dEqV (dOp dIxV (dVar 5) (dC (.int 0))) (dC (.int 3)))) (dSet 6 (dOp dSubV (dOp dAddV (dCall F__law_power [] (dCons (dC (.int 2)) (dCons (dOp dMulV (dOp dMulV (dC (.int 3)) (dVar 3)) (dOp dIxV (dVar 5) (dC (.int 1)))) dNil))) (dOp dIxV (dVar 5) (dC (.int 2)))) (dC (.int 1)))) dNext)
    (dSeqS (dIfS (dTst (dOp dEqV (dOp dIxV (dVar 5) (dC (.int 0))) (dC (.int 4)))) (dSet 6 (dOp dIxV (dVar 5) (dC (.int 4)))) dNext)
    (dSeqS (dIfS (dTst (dOp dEqV (dOp dIxV (dVar 5) (dC (.int 0))) (dC (.int 5)))) (dSet 6 (dOp dModV (dCB dIntV (dCons (dCall F__law_number [] (dCons (dVar 1) (dCons (dC (.int 0)) (dCons (dOp dSubV (dVar 4) (dC (.int 1))) dNil)))) dNil)) (dCall F__law_power [] (dCons (dC (.int 10)) (dCons (dOp dAddV (dC (.int 1)) (dOp dIxV (dVar 5) (dC (.int 1)))) dNil))))) dNext)
    (dSeqS (dIfS (dOr (dTst (dOp dEqV (dOp dIxV (dVar 5) (dC (.int 0))) (dC (.int 6)))) (dTst (dOp dEqV (dOp dIxV (dVar 5) (dC (.int 0))) (dC (.int 7))))) (dSeqS (dSet 6 (dCall F__law_number [] (dCons (dVar 1) (dCons (dC (.int 0)) (dCons (dOp dSubV (dVar 4) (dC (.int 1))) dNil)))))
    (dIfS (dTst (dOp dGtV (dVar 3) (dC (.int 1)))) (dSet 6 (dOp dModV (dCB dIntV (dCons (dOp dAddV (dVar 6) (dCall F__law_power [] (dCons (dC (.int 10)) (dCons (dOp dMulV (dVar 3) (dOp dIxV (dVar 5) (dC (.int 1)))) dNil)))) dNil)) (dVar 4))) dNext)) dNext)
    (dRet (dOp dMulV (dVar 6) (dOp dSubV (dC (.int 1)) (dOp dMulV (dC (.int 2)) (dOp dIxV (dVar 5) (dC (.int 3)))))))))))))))
theorem does__law_entry : Does ["pick", "cell", "root", "far", "wide", "digits", "entry"] ["pick", "cell", "root", "far"] F__law_entry g__law_entry := by
  rintro ds Q Xd ⟨p, c, r, f, rfl, hr1, hr2, hf1, hf2, hq⟩
  refine ⟨rfl, ?_⟩
  show g__law_entry _ [.val _, .val _, .val _, .val _, .no, .no, .no]
  -- a bound for all
  generalize hB : ((2 ^ 3000 : Nat) : Int) = B at *
  have hB1 : (1000 : Int) ≤ B := by rw [← hB]; exact_mod_cast (Nat.le_trans (by decide : 1000 ≤ 2 ^ 10) (Nat.pow_le_pow_right (by decide) (by omega)))
  have fin : ∀ n : Int, n.natAbs ≤ (B + 1000).toNat → Q (.int n) := fun n h => hq n (by
    have h1 : (B + 1000).toNat ≤ 2 * 2 ^ 3000 := by
      have : B ≥ 1000 := hB1
      have : ((2 * 2 ^ 3000 : Nat) : Int) = 2 * B := by rw [← hB]; rw [Int.natCast_mul]; rfl
      omega
    have h2 : 2 * 2 ^ 3000 < 2 ^ 3010 := by
      rw [show 2 ^ 3010 = 2 ^ 3000 * 2 ^ 10 from Nat.pow_add 2 3000 10]
      have : 0 < 2 ^ 3000 := Nat.pow_pos (by decide)
      omega
    omega)
  have p10 : ∀ e : Nat, 0 ≤ (10 : Int) ^ e := fun e => Int.pow_nonneg (by decide)
  have w0 : (0 : Int) < 10 ^ (300 * f).toNat := Int.pow_pos (by decide)
  have wB : (10 : Int) ^ (300 * f).toNat ≤ B := by
    rw [← hB]
    obtain ⟨e, he⟩ : ∃ e : Nat, (300 * f).toNat = 3 * e := ⟨(100 * f).toNat, by omega⟩
    rw [he, Int.pow_mul]
    exact (ipow (b := 10 ^ 3) (k := 10) (by decide) (by decide) (by omega)).2
  unfold g__law_entry
  refine seq_cut (fun δ => δ = [.val (.int p), .val (.int c), .val (.int r), .val (.int f), .val (.int (10 ^ (300 * f).toNat)), .no, .no]) ?_ ?_
  · intro R hR
    simp -failIfUnchanged only [dSeqS, dSet, dSetO, dRet, dRetN, dIfS, dDrop, dNext, dBreak, dCont, dNever, dShow, dFor, dApp, dPutIx, dAsg, dOp, dUn, dTst, dTru, dAnd, dOr, dNot, dAndV, dOrV, dNotV, dIfE, dCons, dNil, dTup, dLst, dCB, dCall, dCallN, dC, dVar, dChain, dSeq, dRng1, dRng2, dZip, dComp, dYes, dgName, dgTup, dgCons, dgNil, dwipe, dPeek, dPeekT, dIxO, frzAt, dNoPart, dPart, dSl, dEqV, dNeV, q000, q001, q002, q003, q004, q005, q006, q007, q008, q009, q010, q011, q012, q013, q014, q015, q016, q017, q018, q019, q020, q021, q022, q023, q024, q025, q026, q027, q028, q029, q030, q031, q032, q033, q034, q035, q036, q037, q038, q039, q040, q041, q042, q043, q044, q045, q046, q047, q048, q049, q050, q051, q052, q053, q054, q055, List.getElem?_cons_zero, List.getElem?_cons_succ, List.set_cons_zero, List.set_cons_succ, List.cons_append, List.nil_append, List.append_nil, if_true, if_false, ite_true, ite_false, Bool.false_eq_true, decide_eq_true_eq, Bool.not_true, Bool.not_false, Bool.not_eq_true', decide_eq_false_iff_not, Bool.not_not, isi_int_int, isi_int_bool, isi_int_tuple, isi_int_str, isi_int_lt, isi_bl_int, isi_bl_bool, isi_bl_lt, isi_str_str, isi_str_lt, isi_non_lt, isi_tup_tuple, isi_lst_tuple, isi_tup_lt, isi_lst_lt, okEq_int, okEq_bl, okEq_non, okEq_ils, okEq_vec, deqv_int, deqv_bl, deqv_ils, deqv_vec, true_and, and_true, and_self, reduceCtorEq, not_true_eq_false, not_false_eq_true, false_imp_iff, true_imp_iff, forall_const]
    exact ⟨mul_l (by omega) (by omega), 10, 300 * f, rfl, by omega, by omega, by omega, by omega, hR _ rfl⟩
  rintro _ rfl
  generalize hW : (10 : Int) ^ (300 * f).toNat = w at *
  refine seq_cut (fun δ => ∃ a b c' d e : Int, (0 ≤ b ∧ b < 300) ∧ (0 ≤ c' ∧ c' < 3) ∧ (0 ≤ d ∧ d < 2) ∧ (0 ≤ e ∧ e < 100) ∧ δ = [.val (.int p), .val (.int c), .val (.int r), .val (.int f), .val (.int w), .val (ils [a, b, c', d, e]), .no]) ?_ ?_
  · intro R hR
    simp -failIfUnchanged only [dSeqS, dSet, dSetO, dRet, dRetN, dIfS, dDrop, dNext, dBreak, dCont, dNever, dShow, dFor, dApp, dPutIx, dAsg, dOp, dUn, dTst, dTru, dAnd, dOr, dNot, dAndV, dOrV, dNotV, dIfE, dCons, dNil, dTup, dLst, dCB, dCall, dCallN, dC, dVar, dChain, dSeq, dRng1, dRng2, dZip, dComp, dYes, dgName, dgTup, dgCons, dgNil, dwipe, dPeek, dPeekT, dIxO, frzAt, dNoPart, dPart, dSl, dEqV, dNeV, q000, q001, q002, q003, q004, q005, q006, q007, q008, q009, q010, q011, q012, q013, q014, q015, q016, q017, q018, q019, q020, q021, q022, q023, q024, q025, q026, q027, q028, q029, q030, q031, q032, q033, q034, q035, q036, q037, q038, q039, q040, q041, q042, q043, q044, q045, q046, q047, q048, q049, q050, q051, q052, q053, q054, q055, List.getElem?_cons_zero, List.getElem?_cons_succ, List.set_cons_zero, List.set_cons_succ, List.cons_append, List.nil_append, List.append_nil, if_true, if_false, ite_true, ite_false, Bool.false_eq_true, decide_eq_true_eq, Bool.not_true, Bool.not_false, Bool.not_eq_true', decide_eq_false_iff_not, Bool.not_not, isi_int_int, isi_int_bool, isi_int_tuple, isi_int_str, isi_int_lt, isi_bl_int, isi_bl_bool, isi_bl_lt, isi_str_str, isi_str_lt, isi_non_lt, isi_tup_tuple, isi_lst_tuple, isi_tup_lt, isi_lst_lt, okEq_int, okEq_bl, okEq_non, okEq_ils, okEq_vec, deqv_int, deqv_bl, deqv_ils, deqv_vec, true_and, and_true, and_self, reduceCtorEq, not_true_eq_false, not_false_eq_true, false_imp_iff, true_imp_iff, forall_const]
    refine ⟨by decide, p, [8, 300, 3, 2, 100], rfl, by decide, by decide, fun row hrow => ?_⟩
    cases hrow with
    | cons h1 hrow =>
      cases hrow with
      | cons h2 hrow =>
        cases hrow with
        | cons h3 hrow =>
          cases hrow with
          | cons h4 hrow =>
            cases hrow with
            | cons h5 hrow =>
              cases hrow
              exact hR _ ⟨_, _, _, _, _, h2, h3, h4, h5, rfl⟩
  rintro _ ⟨d0, d1, d2, d3, d4, h1, h2, h3, h4, rfl⟩
  -- the entry so far
  let P : Env → Prop := fun δ => ∃ e : Int, e.natAbs ≤ (B + 1000).toNat ∧ δ = [.val (.int p), .val (.int c), .val (.int r), .val (.int f), .val (.int w), .val (ils [d0, d1, d2, d3, d4]), .val (.int e)]
  refine seq_cut P ?_ ?_
  · intro R hR
    simp -failIfUnchanged only [dSeqS, dSet, dSetO, dRet, dRetN, dIfS, dDrop, dNext, dBreak, dCont, dNever, dShow, dFor, dApp, dPutIx, dAsg, dOp, dUn, dTst, dTru, dAnd, dOr, dNot, dAndV, dOrV, dNotV, dIfE, dCons, dNil, dTup, dLst, dCB, dCall, dCallN, dC, dVar, dChain, dSeq, dRng1, dRng2, dZip, dComp, dYes, dgName, dgTup, dgCons, dgNil, dwipe, dPeek, dPeekT, dIxO, frzAt, dNoPart, dPart, dSl, dEqV, dNeV, q000, q001, q002, q003, q004, q005, q006, q007, q008, q009, q010, q011, q012, q013, q014, q015, q016, q017, q018, q019, q020, q021, q022, q023, q024, q025, q026, q027, q028, q029, q030, q031, q032, q033, q034, q035, q036, q037, q038, q039, q040, q041, q042, q043, q044, q045, q046, q047, q048, q049, q050, q051, q052, q053, q054, q055, List.getElem?_cons_zero, List.getElem?_cons_succ, List.set_cons_zero, List.set_cons_succ, List.cons_append, List.nil_append, List.append_nil, if_true, if_false, ite_true, ite_false, Bool.false_eq_true, decide_eq_true_eq, Bool.not_true, Bool.not_false, Bool.not_eq_true', decide_eq_false_iff_not, Bool.not_not, isi_int_int, isi_int_bool, isi_int_tuple, isi_int_str, isi_int_lt, isi_bl_int, isi_bl_bool, isi_bl_lt, isi_str_str, isi_str_lt, isi_non_lt, isi_tup_tuple, isi_lst_tuple, isi_tup_lt, isi_lst_lt, okEq_int, okEq_bl, okEq_non, okEq_ils, okEq_vec, deqv_int, deqv_bl, deqv_ils, deqv_vec, true_and, and_true, and_self, reduceCtorEq, not_true_eq_false, not_false_eq_true, false_imp_iff, true_imp_iff, forall_const]
    exact hR _ ⟨0, by omega, rfl⟩
  rintro _ ⟨e0, b0, rfl⟩
  have a0 : atI [D.int d0, D.int d1, D.int d2, D.int d3, D.int d4] 0 = some (.int d0) := rfl
  have a1 : atI [D.int d0, D.int d1, D.int d2, D.int d3, D.int d4] 1 = some (.int d1) := rfl
  have a2 : atI [D.int d0, D.int d1, D.int d2, D.int d3, D.int d4] 2 = some (.int d2) := rfl
  have a3 : atI [D.int d0, D.int d1, D.int d2, D.int d3, D.int d4] 3 = some (.int d3) := rfl
  have a4 : atI [D.int d0, D.int d1, D.int d2, D.int d3, D.int d4] 4 = some (.int d4) := rfl
  have pr : ∀ e : Nat, e ≤ 900 → 0 ≤ r ^ e ∧ r ^ e ≤ B := fun e he => by
    rw [← hB]
    exact ipow (k := 3) (by omega) (by omega) (by omega)
  have p2 : ∀ e : Nat, e ≤ 3000 → 0 ≤ (2 : Int) ^ e ∧ (2 : Int) ^ e ≤ B := fun e he => by
    rw [← hB]
    exact ipow (k := 1) (by omega) (by decide) (by omega)
  clear hB
  have stay : ∀ {e : Int} {R : Env → Prop}, e.natAbs ≤ (B + 1000).toNat → (∀ δ', P δ' → R δ') → R [.val (.int p), .val (.int c), .val (.int r), .val (.int f), .val (.int w), .val (ils [d0, d1, d2, d3, d4]), .val (.int e)] := fun h hR => hR _ ⟨_, h, rfl⟩
  have fd0 : 0 ≤ f * d1 := Int.mul_nonneg (by omega) (by omega)
  have fd1 : f * d1 ≤ 3 * 299 := Int.mul_le_mul (by omega) (by omega) (by omega) (by omega)
  have pr := pr (f * d1).toNat (by omega)
  have p2 := p2 (3 * f * d1).toNat (by
    have : 3 * f * d1 = 3 * (f * d1) := Int.mul_assoc ..
    omega)
  refine seq_cut P ?_ ?_
  · intro R hR
    have go : F__law_power [.int r, .int (f * d1)] (fun x => dAddV x (.int d2) fun x => dSubV x (.int 1) fun d => R [.val (.int p), .val (.int c), .val (.int r), .val (.int f), .val (.int w), .val (ils [d0, d1, d2, d3, d4]), .val d]) (fun _ => False) := by
      refine ⟨r, f * d1, rfl, by omega, by omega, by omega, by omega, ?_⟩
      simp -failIfUnchanged only [dSeqS, dSet, dSetO, dRet, dRetN, dIfS, dDrop, dNext, dBreak, dCont, dNever, dShow, dFor, dApp, dPutIx, dAsg, dOp, dUn, dTst, dTru, dAnd, dOr, dNot, dAndV, dOrV, dNotV, dIfE, dCons, dNil, dTup, dLst, dCB, dCall, dCallN, dC, dVar, dChain, dSeq, dRng1, dRng2, dZip, dComp, dYes, dgName, dgTup, dgCons, dgNil, dwipe, dPeek, dPeekT, dIxO, frzAt, dNoPart, dPart, dSl, dEqV, dNeV, q000, q001, q002, q003, q004, q005, q006, q007, q008, q009, q010, q011, q012, q013, q014, q015, q016, q017, q018, q019, q020, q021, q022, q023, q024, q025, q026, q027, q028, q029, q030, q031, q032, q033, q034, q035, q036, q037, q038, q039, q040, q041, q042, q043, q044, q045, q046, q047, q048, q049, q050, q051, q052, q053, q054, q055, List.getElem?_cons_zero, List.getElem?_cons_succ, List.set_cons_zero, List.set_cons_succ, List.cons_append, List.nil_append, List.append_nil, if_true, if_false, ite_true, ite_false, Bool.false_eq_true, decide_eq_true_eq, Bool.not_true, Bool.not_false, Bool.not_eq_true', decide_eq_false_iff_not, Bool.not_not, isi_int_int, isi_int_bool, isi_int_tuple, isi_int_str, isi_int_lt, isi_bl_int, isi_bl_bool, isi_bl_lt, isi_str_str, isi_str_lt, isi_non_lt, isi_tup_tuple, isi_lst_tuple, isi_tup_lt, isi_lst_lt, okEq_int, okEq_bl, okEq_non, okEq_ils, okEq_vec, deqv_int, deqv_bl, deqv_ils, deqv_vec, true_and, and_true, and_self, reduceCtorEq, not_true_eq_false, not_false_eq_true, false_imp_iff, true_imp_iff, forall_const]
      exact stay (by omega) hR
    simp -failIfUnchanged only [dSeqS, dSet, dSetO, dRet, dRetN, dIfS, dDrop, dNext, dBreak, dCont, dNever, dShow, dFor, dApp, dPutIx, dAsg, dOp, dUn, dTst, dTru, dAnd, dOr, dNot, dAndV, dOrV, dNotV, dIfE, dCons, dNil, dTup, dLst, dCB, dCall, dCallN, dC, dVar, dChain, dSeq, dRng1, dRng2, dZip, dComp, dYes, dgName, dgTup, dgCons, dgNil, dwipe, dPeek, dPeekT, dIxO, frzAt, dNoPart, dPart, dSl, dEqV, dNeV, q000, q001, q002, q003, q004, q005, q006, q007, q008, q009, q010, q011, q012, q013, q014, q015, q016, q017, q018, q019, q020, q021, q022, q023, q024, q025, q026, q027, q028, q029, q030, q031, q032, q033, q034, q035, q036, q037, q038, q039, q040, q041, q042, q043, q044, q045, q046, q047, q048, q049, q050, q051, q052, q053, q054, q055, List.getElem?_cons_zero, List.getElem?_cons_succ, List.set_cons_zero, List.set_cons_succ, List.cons_append, List.nil_append, List.append_nil, if_true, if_false, ite_true, ite_false, Bool.false_eq_true, decide_eq_true_eq, Bool.not_true, Bool.not_false, Bool.not_eq_true', decide_eq_false_iff_not, Bool.not_not, isi_int_int, isi_int_bool, isi_int_tuple, isi_int_str, isi_int_lt, isi_bl_int, isi_bl_bool, isi_bl_lt, isi_str_str, isi_str_lt, isi_non_lt, isi_tup_tuple, isi_lst_tuple, isi_tup_lt, isi_lst_lt, okEq_int, okEq_bl, okEq_non, okEq_ils, okEq_vec, deqv_int, deqv_bl, deqv_ils, deqv_vec, true_and, and_true, and_self, reduceCtorEq, not_true_eq_false, not_false_eq_true, false_imp_iff, true_imp_iff, forall_const, Option.some.injEq, exists_eq_left', exists_eq_left, List.map_cons, List.map_nil, a0, a1, a2]
    by_cases h1 : d0 = 1
    · rw [if_pos h1]
      exact ⟨mul_l (by omega) (by omega), go⟩
    · by_cases h2 : d0 = 2
      · rw [if_neg h1, if_pos h2]
        exact ⟨mul_l (by omega) (by omega), go⟩
      · rw [if_neg h1, if_neg h2]
        exact stay b0 hR
  rintro _ ⟨e1, b1, rfl⟩
  refine seq_cut P ?_ ?_
  · intro R hR
    simp -failIfUnchanged only [dSeqS, dSet, dSetO, dRet, dRetN, dIfS, dDrop, dNext, dBreak, dCont, dNever, dShow, dFor, dApp, dPutIx, dAsg, dOp, dUn, dTst, dTru, dAnd, dOr, dNot, dAndV, dOrV, dNotV, dIfE, dCons, dNil, dTup, dLst, dCB, dCall, dCallN, dC, dVar, dChain, dSeq, dRng1, dRng2, dZip, dComp, dYes, dgName, dgTup, dgCons, dgNil, dwipe, dPeek, dPeekT, dIxO, frzAt, dNoPart, dPart, dSl, dEqV, dNeV, q000, q001, q002, q003, q004, q005, q006, q007, q008, q009, q010, q011, q012, q013, q014, q015, q016, q017, q018, q019, q020, q021, q022, q023, q024, q025, q026, q027, q028, q029, q030, q031, q032, q033, q034, q035, q036, q037, q038, q039, q040, q041, q042, q043, q044, q045, q046, q047, q048, q049, q050, q051, q052, q053, q054, q055, List.getElem?_cons_zero, List.getElem?_cons_succ, List.set_cons_zero, List.set_cons_succ, List.cons_append, List.nil_append, List.append_nil, if_true, if_false, ite_true, ite_false, Bool.false_eq_true, decide_eq_true_eq, Bool.not_true, Bool.not_false, Bool.not_eq_true', decide_eq_false_iff_not, Bool.not_not, isi_int_int, isi_int_bool, isi_int_tuple, isi_int_str, isi_int_lt, isi_bl_int, isi_bl_bool, isi_bl_lt, isi_str_str, isi_str_lt, isi_non_lt, isi_tup_tuple, isi_lst_tuple, isi_tup_lt, isi_lst_lt, okEq_int, okEq_bl, okEq_non, okEq_ils, okEq_vec, deqv_int, deqv_bl, deqv_ils, deqv_vec, true_and, and_true, and_self, reduceCtorEq, not_true_eq_false, not_false_eq_true, false_imp_iff, true_imp_iff, forall_const, Option.some.injEq, exists_eq_left', exists_eq_left, List.map_cons, List.map_nil, a0, a1, a2]
    by_cases h1 : d0 = 3
    · rw [if_pos h1]
      refine ⟨mul_l (by omega) (by omega), mul_l (by omega) (by omega), 2, 3 * f * d1, rfl, by omega, by omega, ?_, ?_, ?_⟩
      · have : 3 * f * d1 = 3 * (f * d1) := Int.mul_assoc ..
        omega
      · have : 3 * f * d1 = 3 * (f * d1) := Int.mul_assoc ..
        omega
      simp -failIfUnchanged only [dSeqS, dSet, dSetO, dRet, dRetN, dIfS, dDrop, dNext, dBreak, dCont, dNever, dShow, dFor, dApp, dPutIx, dAsg, dOp, dUn, dTst, dTru, dAnd, dOr, dNot, dAndV, dOrV, dNotV, dIfE, dCons, dNil, dTup, dLst, dCB, dCall, dCallN, dC, dVar, dChain, dSeq, dRng1, dRng2, dZip, dComp, dYes, dgName, dgTup, dgCons, dgNil, dwipe, dPeek, dPeekT, dIxO, frzAt, dNoPart, dPart, dSl, dEqV, dNeV, q000, q001, q002, q003, q004, q005, q006, q007, q008, q009, q010, q011, q012, q013, q014, q015, q016, q017, q018, q019, q020, q021, q022, q023, q024, q025, q026, q027, q028, q029, q030, q031, q032, q033, q034, q035, q036, q037, q038, q039, q040, q041, q042, q043, q044, q045, q046, q047, q048, q049, q050, q051, q052, q053, q054, q055, List.getElem?_cons_zero, List.getElem?_cons_succ, List.set_cons_zero, List.set_cons_succ, List.cons_append, List.nil_append, List.append_nil, if_true, if_false, ite_true, ite_false, Bool.false_eq_true, decide_eq_true_eq, Bool.not_true, Bool.not_false, Bool.not_eq_true', decide_eq_false_iff_not, Bool.not_not, isi_int_int, isi_int_bool, isi_int_tuple, isi_int_str, isi_int_lt, isi_bl_int, isi_bl_bool, isi_bl_lt, isi_str_str, isi_str_lt, isi_non_lt, isi_tup_tuple, isi_lst_tuple, isi_tup_lt, isi_lst_lt, okEq_int, okEq_bl, okEq_non, okEq_ils, okEq_vec, deqv_int, deqv_bl, deqv_ils, deqv_vec, true_and, and_true, and_self, reduceCtorEq, not_true_eq_false, not_false_eq_true, false_imp_iff, true_imp_iff, forall_const]
      exact stay (by omega) hR
    · rw [if_neg h1]
      exact stay b1 hR
  rintro _ ⟨e2, b2, rfl⟩
  refine seq_cut P ?_ ?_
  · intro R hR
    simp -failIfUnchanged only [dSeqS, dSet, dSetO, dRet, dRetN, dIfS, dDrop, dNext, dBreak, dCont, dNever, dShow, dFor, dApp, dPutIx, dAsg, dOp, dUn, dTst, dTru, dAnd, dOr, dNot, dAndV, dOrV, dNotV, dIfE, dCons, dNil, dTup, dLst, dCB, dCall, dCallN, dC, dVar, dChain, dSeq, dRng1, dRng2, dZip, dComp, dYes, dgName, dgTup, dgCons, dgNil, dwipe, dPeek, dPeekT, dIxO, frzAt, dNoPart, dPart, dSl, dEqV, dNeV, q000, q001, q002, q003, q004, q005, q006, q007, q008, q009, q010, q011, q012, q013, q014, q015, q016, q017, q018, q019, q020, q021, q022, q023, q024, q025, q026, q027, q028, q029, q030, q031, q032, q033, q034, q035, q036, q037, q038, q039, q040, q041, q042, q043, q044, q045, q046, q047, q048, q049, q050, q051, q052, q053, q054, q055, List.getElem?_cons_zero, List.getElem?_cons_succ, List.set_cons_zero, List.set_cons_succ, List.cons_append, List.nil_append, List.append_nil, if_true, if_false, ite_true, ite_false, Bool.false_eq_true, decide_eq_true_eq, Bool.not_true, Bool.not_false, Bool.not_eq_true', decide_eq_false_iff_not, Bool.not_not, isi_int_int, isi_int_bool, isi_int_tuple, isi_int_str, isi_int_lt, isi_bl_int, isi_bl_bool, isi_bl_lt, isi_str_str, isi_str_lt, isi_non_lt, isi_tup_tuple, isi_lst_tuple, isi_tup_lt, isi_lst_lt, okEq_int, okEq_bl, okEq_non, okEq_ils, okEq_vec, deqv_int, deqv_bl, deqv_ils, deqv_vec, true_and, and_true, and_self, reduceCtorEq, not_true_eq_false, not_false_eq_true, false_imp_iff, true_imp_iff, forall_const, Option.some.injEq, exists_eq_left', exists_eq_left, List.map_cons, List.map_nil, a0, a4]
    by_cases h1 : d0 = 4
    · rw [if_pos h1]
      exact stay (by omega) hR
    · rw [if_neg h1]
      exact stay b2 hR
  rintro _ ⟨e3, b3, rfl⟩
  refine seq_cut P ?_ ?_
  · intro R hR
    simp -failIfUnchanged only [dSeqS, dSet, dSetO, dRet, dRetN, dIfS, dDrop, dNext, dBreak, dCont, dNever, dShow, dFor, dApp, dPutIx, dAsg, dOp, dUn, dTst, dTru, dAnd, dOr, dNot, dAndV, dOrV, dNotV, dIfE, dCons, dNil, dTup, dLst, dCB, dCall, dCallN, dC, dVar, dChain, dSeq, dRng1, dRng2, dZip, dComp, dYes, dgName, dgTup, dgCons, dgNil, dwipe, dPeek, dPeekT, dIxO, frzAt, dNoPart, dPart, dSl, dEqV, dNeV, q000, q001, q002, q003, q004, q005, q006, q007, q008, q009, q010, q011, q012, q013, q014, q015, q016, q017, q018, q019, q020, q021, q022, q023, q024, q025, q026, q027, q028, q029, q030, q031, q032, q033, q034, q035, q036, q037, q038, q039, q040, q041, q042, q043, q044, q045, q046, q047, q048, q049, q050, q051, q052, q053, q054, q055, List.getElem?_cons_zero, List.getElem?_cons_succ, List.set_cons_zero, List.set_cons_succ, List.cons_append, List.nil_append, List.append_nil, if_true, if_false, ite_true, ite_false, Bool.false_eq_true, decide_eq_true_eq, Bool.not_true, Bool.not_false, Bool.not_eq_true', decide_eq_false_iff_not, Bool.not_not, isi_int_int, isi_int_bool, isi_int_tuple, isi_int_str, isi_int_lt, isi_bl_int, isi_bl_bool, isi_bl_lt, isi_str_str, isi_str_lt, isi_non_lt, isi_tup_tuple, isi_lst_tuple, isi_tup_lt, isi_lst_lt, okEq_int, okEq_bl, okEq_non, okEq_ils, okEq_vec, deqv_int, deqv_bl, deqv_ils, deqv_vec, true_and, and_true, and_self, reduceCtorEq, not_true_eq_false, not_false_eq_true, false_imp_iff, true_imp_iff, forall_const, Option.some.injEq, exists_eq_left', exists_eq_left, List.map_cons, List.map_nil, a0, a1]
    by_cases h1 : d0 = 5
    · rw [if_pos h1]
      refine ⟨c, 0, w - 1, rfl, by omega, fun n n0 n1 => ?_⟩
      simp -failIfUnchanged only [dSeqS, dSet, dSetO, dRet, dRetN, dIfS, dDrop, dNext, dBreak, dCont, dNever, dShow, dFor, dApp, dPutIx, dAsg, dOp, dUn, dTst, dTru, dAnd, dOr, dNot, dAndV, dOrV, dNotV, dIfE, dCons, dNil, dTup, dLst, dCB, dCall, dCallN, dC, dVar, dChain, dSeq, dRng1, dRng2, dZip, dComp, dYes, dgName, dgTup, dgCons, dgNil, dwipe, dPeek, dPeekT, dIxO, frzAt, dNoPart, dPart, dSl, dEqV, dNeV, q000, q001, q002, q003, q004, q005, q006, q007, q008, q009, q010, q011, q012, q013, q014, q015, q016, q017, q018, q019, q020, q021, q022, q023, q024, q025, q026, q027, q028, q029, q030, q031, q032, q033, q034, q035, q036, q037, q038, q039, q040, q041, q042, q043, q044, q045, q046, q047, q048, q049, q050, q051, q052, q053, q054, q055, List.getElem?_cons_zero, List.getElem?_cons_succ, List.set_cons_zero, List.set_cons_succ, List.cons_append, List.nil_append, List.append_nil, if_true, if_false, ite_true, ite_false, Bool.false_eq_true, decide_eq_true_eq, Bool.not_true, Bool.not_false, Bool.not_eq_true', decide_eq_false_iff_not, Bool.not_not, isi_int_int, isi_int_bool, isi_int_tuple, isi_int_str, isi_int_lt, isi_bl_int, isi_bl_bool, isi_bl_lt, isi_str_str, isi_str_lt, isi_non_lt, isi_tup_tuple, isi_lst_tuple, isi_tup_lt, isi_lst_lt, okEq_int, okEq_bl, okEq_non, okEq_ils, okEq_vec, deqv_int, deqv_bl, deqv_ils, deqv_vec, true_and, and_true, and_self, reduceCtorEq, not_true_eq_false, not_false_eq_true, false_imp_iff, true_imp_iff, forall_const]
      refine ⟨10, 1 + d1, rfl, by omega, by omega, by omega, by omega, ?_⟩
      have q0 : (0 : Int) < 10 ^ (1 + d1).toNat := Int.pow_pos (by decide)
      simp -failIfUnchanged only [dSeqS, dSet, dSetO, dRet, dRetN, dIfS, dDrop, dNext, dBreak, dCont, dNever, dShow, dFor, dApp, dPutIx, dAsg, dOp, dUn, dTst, dTru, dAnd, dOr, dNot, dAndV, dOrV, dNotV, dIfE, dCons, dNil, dTup, dLst, dCB, dCall, dCallN, dC, dVar, dChain, dSeq, dRng1, dRng2, dZip, dComp, dYes, dgName, dgTup, dgCons, dgNil, dwipe, dPeek, dPeekT, dIxO, frzAt, dNoPart, dPart, dSl, dEqV, dNeV, q000, q001, q002, q003, q004, q005, q006, q007, q008, q009, q010, q011, q012, q013, q014, q015, q016, q017, q018, q019, q020, q021, q022, q023, q024, q025, q026, q027, q028, q029, q030, q031, q032, q033, q034, q035, q036, q037, q038, q039, q040, q041, q042, q043, q044, q045, q046, q047, q048, q049, q050, q051, q052, q053, q054, q055, List.getElem?_cons_zero, List.getElem?_cons_succ, List.set_cons_zero, List.set_cons_succ, List.cons_append, List.nil_append, List.append_nil, if_true, if_false, ite_true, ite_false, Bool.false_eq_true, decide_eq_true_eq, Bool.not_true, Bool.not_false, Bool.not_eq_true', decide_eq_false_iff_not, Bool.not_not, isi_int_int, isi_int_bool, isi_int_tuple, isi_int_str, isi_int_lt, isi_bl_int, isi_bl_bool, isi_bl_lt, isi_str_str, isi_str_lt, isi_non_lt, isi_tup_tuple, isi_lst_tuple, isi_tup_lt, isi_lst_lt, okEq_int, okEq_bl, okEq_non, okEq_ils, okEq_vec, deqv_int, deqv_bl, deqv_ils, deqv_vec, true_and, and_true, and_self, reduceCtorEq, not_true_eq_false, not_false_eq_true, false_imp_iff, true_imp_iff, forall_const]
      have m0 := Int.emod_nonneg n (b := 10 ^ (1 + d1).toNat) (by omega)
      have m1 : n % 10 ^ (1 + d1).toNat ≤ n := emod_le (by omega) q0
      exact ⟨q0, stay (by omega) hR⟩
    · rw [if_neg h1]
      exact stay b3 hR
  rintro _ ⟨e4, b4, rfl⟩
  refine seq_cut P ?_ ?_
  · intro R hR
    have go : F__law_number [.int c, .int 0, .int (w - 1)] (fun x => dIfS (dTst (dOp dGtV (dVar 3) (dC (.int 1)))) (dSet 6 (dOp dModV (dCB dIntV (dCons (dOp dAddV (dVar 6) (dCall F__law_power [] (dCons (dC (.int 10)) (dCons (dOp dMulV (dVar 3) (dOp dIxV (dVar 5) (dC (.int 1)))) dNil)))) dNil)) (dVar 4))) dNext { nx := R, rt := Q, xc := fun x _ => Xd x }
        [.val (.int p), .val (.int c), .val (.int r), .val (.int f), .val (.int w), .val (ils [d0, d1, d2, d3, d4]), .val x]) (fun _ => False) := by
      refine ⟨c, 0, w - 1, rfl, by omega, fun n n0 n1 => ?_⟩
      simp -failIfUnchanged only [dSeqS, dSet, dSetO, dRet, dRetN, dIfS, dDrop, dNext, dBreak, dCont, dNever, dShow, dFor, dApp, dPutIx, dAsg, dOp, dUn, dTst, dTru, dAnd, dOr, dNot, dAndV, dOrV, dNotV, dIfE, dCons, dNil, dTup, dLst, dCB, dCall, dCallN, dC, dVar, dChain, dSeq, dRng1, dRng2, dZip, dComp, dYes, dgName, dgTup, dgCons, dgNil, dwipe, dPeek, dPeekT, dIxO, frzAt, dNoPart, dPart, dSl, dEqV, dNeV, q000, q001, q002, q003, q004, q005, q006, q007, q008, q009, q010, q011, q012, q013, q014, q015, q016, q017, q018, q019, q020, q021, q022, q023, q024, q025, q026, q027, q028, q029, q030, q031, q032, q033, q034, q035, q036, q037, q038, q039, q040, q041, q042, q043, q044, q045, q046, q047, q048, q049, q050, q051, q052, q053, q054, q055, List.getElem?_cons_zero, List.getElem?_cons_succ, List.set_cons_zero, List.set_cons_succ, List.cons_append, List.nil_append, List.append_nil, if_true, if_false, ite_true, ite_false, Bool.false_eq_true, decide_eq_true_eq, Bool.not_true, Bool.not_false, Bool.not_eq_true', decide_eq_false_iff_not, Bool.not_not, isi_int_int, isi_int_bool, isi_int_tuple, isi_int_str, isi_int_lt, isi_bl_int, isi_bl_bool, isi_bl_lt, isi_str_str, isi_str_lt, isi_non_lt, isi_tup_tuple, isi_lst_tuple, isi_tup_lt, isi_lst_lt, okEq_int, okEq_bl, okEq_non, okEq_ils, okEq_vec, deqv_int, deqv_bl, deqv_ils, deqv_vec, true_and, and_true, and_self, reduceCtorEq, not_true_eq_false, not_false_eq_true, false_imp_iff, true_imp_iff, forall_const, Option.some.injEq, exists_eq_left', exists_eq_left, List.map_cons, List.map_nil, a1]
      by_cases hf : f > 1
      · rw [if_pos hf]
        refine ⟨mul_l (by omega) (by omega), 10, f * d1, rfl, by omega, by omega, by omega, by omega, ?_⟩
        simp -failIfUnchanged only [dSeqS, dSet, dSetO, dRet, dRetN, dIfS, dDrop, dNext, dBreak, dCont, dNever, dShow, dFor, dApp, dPutIx, dAsg, dOp, dUn, dTst, dTru, dAnd, dOr, dNot, dAndV, dOrV, dNotV, dIfE, dCons, dNil, dTup, dLst, dCB, dCall, dCallN, dC, dVar, dChain, dSeq, dRng1, dRng2, dZip, dComp, dYes, dgName, dgTup, dgCons, dgNil, dwipe, dPeek, dPeekT, dIxO, frzAt, dNoPart, dPart, dSl, dEqV, dNeV, q000, q001, q002, q003, q004, q005, q006, q007, q008, q009, q010, q011, q012, q013, q014, q015, q016, q017, q018, q019, q020, q021, q022, q023, q024, q025, q026, q027, q028, q029, q030, q031, q032, q033, q034, q035, q036, q037, q038, q039, q040, q041, q042, q043, q044, q045, q046, q047, q048, q049, q050, q051, q052, q053, q054, q055, List.getElem?_cons_zero, List.getElem?_cons_succ, List.set_cons_zero, List.set_cons_succ, List.cons_append, List.nil_append, List.append_nil, if_true, if_false, ite_true, ite_false, Bool.false_eq_true, decide_eq_true_eq, Bool.not_true, Bool.not_false, Bool.not_eq_true', decide_eq_false_iff_not, Bool.not_not, isi_int_int, isi_int_bool, isi_int_tuple, isi_int_str, isi_int_lt, isi_bl_int, isi_bl_bool, isi_bl_lt, isi_str_str, isi_str_lt, isi_non_lt, isi_tup_tuple, isi_lst_tuple, isi_tup_lt, isi_lst_lt, okEq_int, okEq_bl, okEq_non, okEq_ils, okEq_vec, deqv_int, deqv_bl, deqv_ils, deqv_vec, true_and, and_true, and_self, reduceCtorEq, not_true_eq_false, not_false_eq_true, false_imp_iff, true_imp_iff, forall_const]
        generalize n + 10 ^ (f * d1).toNat = z
        have m0 := Int.emod_nonneg z (b := w) (by omega)
        have m1 := Int.emod_lt_of_pos z (b := w) (by omega)
        exact ⟨by omega, stay (by omega) hR⟩
      · rw [if_neg hf]
        exact stay (by omega) hR
    simp -failIfUnchanged only [dSeqS, dSet, dSetO, dRet, dRetN, dIfS, dDrop, dNext, dBreak, dCont, dNever, dShow, dFor, dApp, dPutIx, dAsg, dOp, dUn, dTst, dTru, dAnd, dOr, dNot, dAndV, dOrV, dNotV, dIfE, dCons, dNil, dTup, dLst, dCB, dCall, dCallN, dC, dVar, dChain, dSeq, dRng1, dRng2, dZip, dComp, dYes, dgName, dgTup, dgCons, dgNil, dwipe, dPeek, dPeekT, dIxO, frzAt, dNoPart, dPart, dSl, dEqV, dNeV, q000, q001, q002, q003, q004, q005, q006, q007, q008, q009, q010, q011, q012, q013, q014, q015, q016, q017, q018, q019, q020, q021, q022, q023, q024, q025, q026, q027, q028, q029, q030, q031, q032, q033, q034, q035, q036, q037, q038, q039, q040, q041, q042, q043, q044, q045, q046, q047, q048, q049, q050, q051, q052, q053, q054, q055, List.getElem?_cons_zero, List.getElem?_cons_succ, List.set_cons_zero, List.set_cons_succ, List.cons_append, List.nil_append, List.append_nil, if_true, if_false, ite_true, ite_false, Bool.false_eq_true, decide_eq_true_eq, Bool.not_true, Bool.not_false, Bool.not_eq_true', decide_eq_false_iff_not, Bool.not_not, isi_int_int, isi_int_bool, isi_int_tuple, isi_int_str, isi_int_lt, isi_bl_int, isi_bl_bool, isi_bl_lt, isi_str_str, isi_str_lt, isi_non_lt, isi_tup_tuple, isi_lst_tuple, isi_tup_lt, isi_lst_lt, okEq_int, okEq_bl, okEq_non, okEq_ils, okEq_vec, deqv_int, deqv_bl, deqv_ils, deqv_vec, true_and, and_true, and_self, reduceCtorEq, not_true_eq_false, not_false_eq_true, false_imp_iff, true_imp_iff, forall_const, Option.some.injEq, exists_eq_left', exists_eq_left, List.map_cons, List.map_nil, a0, a1]
    simp -failIfUnchanged only [dSeqS, dSet, dSetO, dRet, dRetN, dIfS, dDrop, dNext, dBreak, dCont, dNever, dShow, dFor, dApp, dPutIx, dAsg, dOp, dUn, dTst, dTru, dAnd, dOr, dNot, dAndV, dOrV, dNotV, dIfE, dCons, dNil, dTup, dLst, dCB, dCall, dCallN, dC, dVar, dChain, dSeq, dRng1, dRng2, dZip, dComp, dYes, dgName, dgTup, dgCons, dgNil, dwipe, dPeek, dPeekT, dIxO, frzAt, dNoPart, dPart, dSl, dEqV, dNeV, q000, q001, q002, q003, q004, q005, q006, q007, q008, q009, q010, q011, q012, q013, q014, q015, q016, q017, q018, q019, q020, q021, q022, q023, q024, q025, q026, q027, q028, q029, q030, q031, q032, q033, q034, q035, q036, q037, q038, q039, q040, q041, q042, q043, q044, q045, q046, q047, q048, q049, q050, q051, q052, q053, q054, q055, List.getElem?_cons_zero, List.getElem?_cons_succ, List.set_cons_zero, List.set_cons_succ, List.cons_append, List.nil_append, List.append_nil, if_true, if_false, ite_true, ite_false, Bool.false_eq_true, decide_eq_true_eq, Bool.not_true, Bool.not_false, Bool.not_eq_true', decide_eq_false_iff_not, Bool.not_not, isi_int_int, isi_int_bool, isi_int_tuple, isi_int_str, isi_int_lt, isi_bl_int, isi_bl_bool, isi_bl_lt, isi_str_str, isi_str_lt, isi_non_lt, isi_tup_tuple, isi_lst_tuple, isi_tup_lt, isi_lst_lt, okEq_int, okEq_bl, okEq_non, okEq_ils, okEq_vec, deqv_int, deqv_bl, deqv_ils, deqv_vec, true_and, and_true, and_self, reduceCtorEq, not_true_eq_false, not_false_eq_true, false_imp_iff, true_imp_iff, forall_const, Option.some.injEq, exists_eq_left', exists_eq_left, List.map_cons, List.map_nil, a1] at go
    by_cases h1 : d0 = 6
    · rw [if_pos h1]
      exact go
    · by_cases h2 : d0 = 7
      · rw [if_neg h1, if_pos h2]
        exact go
      · rw [if_neg h1, if_neg h2]
        exact stay b4 hR
  rintro _ ⟨e5, b5, rfl⟩
  simp -failIfUnchanged only [dSeqS, dSet, dSetO, dRet, dRetN, dIfS, dDrop, dNext, dBreak, dCont, dNever, dShow, dFor, dApp, dPutIx, dAsg, dOp, dUn, dTst, dTru, dAnd, dOr, dNot, dAndV, dOrV, dNotV, dIfE, dCons, dNil, dTup, dLst, dCB, dCall, dCallN, dC, dVar, dChain, dSeq, dRng1, dRng2, dZip, dComp, dYes, dgName, dgTup, dgCons, dgNil, dwipe, dPeek, dPeekT, dIxO, frzAt, dNoPart, dPart, dSl, dEqV, dNeV, q000, q001, q002, q003, q004, q005, q006, q007, q008, q009, q010, q011, q012, q013, q014, q015, q016, q017, q018, q019, q020, q021, q022, q023, q024, q025, q026, q027, q028, q029, q030, q031, q032, q033, q034, q035, q036, q037, q038, q039, q040, q041, q042, q043, q044, q045, q046, q047, q048, q049, q050, q051, q052, q053, q054, q055, List.getElem?_cons_zero, List.getElem?_cons_succ, List.set_cons_zero, List.set_cons_succ, List.cons_append, List.nil_append, List.append_nil, if_true, if_false, ite_true, ite_false, Bool.false_eq_true, decide_eq_true_eq, Bool.not_true, Bool.not_false, Bool.not_eq_true', decide_eq_false_iff_not, Bool.not_not, isi_int_int, isi_int_bool, isi_int_tuple, isi_int_str, isi_int_lt, isi_bl_int, isi_bl_bool, isi_bl_lt, isi_str_str, isi_str_lt, isi_non_lt, isi_tup_tuple, isi_lst_tuple, isi_tup_lt, isi_lst_lt, okEq_int, okEq_bl, okEq_non, okEq_ils, okEq_vec, deqv_int, deqv_bl, deqv_ils, deqv_vec, true_and, and_true, and_self, reduceCtorEq, not_true_eq_false, not_false_eq_true, false_imp_iff, true_imp_iff, forall_const, Option.some.injEq, exists_eq_left', exists_eq_left, List.map_cons, List.map_nil, a3]
  refine ⟨mul_l (by omega) (by omega), mul_r (by omega) (by omega), fin _ ?_⟩
  have : d3 = 0 ∨ d3 = 1 := by omega
  rcases this with rfl | rfl <;> omega

/-! rows -/
def F__law_rows : FD := fun ds Q _ => ∃ (c w : Int) (s0 s1 s2 s3 s4 : Int) (sh : List Int), ds = [.int c, .int w, ils (s0 :: s1 :: s2 :: s3 :: s4 :: sh)] ∧ 1 ≤ w ∧ w ≤ 3 ∧ 0 ≤ s2 ∧ s2 ≤ 60 ∧ 0 ≤ s3 ∧ s3 ≤ 5 ∧
  ∀ rows : List (List Int), rows.length ≤ 1100 → (∀ r ∈ rows, r.length = w.toNat ∧ ∀ x ∈ r, -7 ≤ x ∧ x ≤ 7) → Q (.lst (rows.map ils))
def g__law_rows : DSt := (dSeqS (dSet 3 (dCall F__law_digits [] (dCons (dVar 0) (dCons (dOp dMulV (dLst (dCons (dC (.int 15)) dNil)) (dOp dMulV (dVar 1) (dC (.int 60)))) dNil))))
    (dSeqS (dSet 4 (dComp (dRng1 (dCons (dOp dIxV (dVar 2) (dC (.int 3))) dNil)) false (dgName 7) dYes (dOp dMulV (dLst (dCons (dC (.int 0)) dNil)) (dVar 1)) [7]))
    (dSeqS (dSet 5 (dComp (dRng1 (dCons (dOp dIxV (dVar 2) (dC (.int 2))) dNil)) false (dgName 7) dYes (dComp (dRng1 (dCons (dVar 1) dNil)) false (dgName 8) dYes (dOp dSubV (dOp dIxV (dVar 3) (dOp dAddV (dOp dMulV (dVar 7) (dVar 1)) (dVar 8))) (dC (.int 7))) [8]) [7]))
    (dSeqS (dSet 6 (dC (.int 1)))
    (dSeqS (dIfS (dTst (dOp dEqV (dOp dIxV (dVar 2) (dC (.int 4))) (dC (.int 5)))) (dSet 6 (dOp dFdivV (dOp dSubV (dC (.int 1100)) (dCB dLenV (dCons (dVar 4) dNil))) (dCB dMaxV (dCons (dC (.int 1)) (dCons (dCB dLenV (dCons (dVar 5) dNil)) dNil))))) dNext)
    (dSeqS (dFor (dRng1 (dCons (dCB dMinV (dCons (dVar 6) (dCons (dC (.int 1100)) dNil))) dNil)) (dgName 7) (dSet 4 (dOp dAddV (dVar 4) (dVar 5))))
    (dRet (dVar 4))))))))
theorem flat_rep (n : Nat) (x : Int) : (List.replicate n [D.int x]).flatten = (List.replicate n x).map D.int := by
  rw [List.map_replicate]
  induction n with
  | zero => rfl
  | succ n ih => rw [List.replicate_succ, List.flatten_cons, ih, List.replicate_succ]; rfl
theorem paired_get {α β : Type} {P : α → β → Prop} : ∀ {xs : List α} {ys : List β} {i : Nat} {x : α}, Paired P xs ys → xs[i]? = some x → ∃ y, ys[i]? = some y ∧ P x y
  | _, _, _, _, .nil, e => by simp at e
  | _, _, 0, _, .cons r _, e => by simp at e; subst e; exact ⟨_, by simp, r⟩
  | _, _, i + 1, _, .cons _ t, e => by
    obtain ⟨y, h1, h2⟩ := paired_get (i := i) t (by simpa using e)
    exact ⟨y, by simpa using h1, h2⟩
theorem does__law_rows : Does ["cell", "width", "shape", "digits", "rows", "part", "count", "k", "j"] ["cell", "width", "shape"] F__law_rows g__law_rows := by
  rintro ds Q Xd ⟨c, w, s0, s1, s2, s3, s4, sh, rfl, w0, w1, s20, s21, s30, s31, hq⟩
  refine ⟨rfl, ?_⟩
  show g__law_rows _ [.val _, .val _, .val (.lst ((s0 :: s1 :: s2 :: s3 :: s4 :: sh).map D.int)), .no, .no, .no, .no, .no, .no]
  have a2 : atI ((s0 :: s1 :: s2 :: s3 :: s4 :: sh).map D.int) 2 = some (.int s2) := atI_get (i := 2) (by simp)
  have a3 : atI ((s0 :: s1 :: s2 :: s3 :: s4 :: sh).map D.int) 3 = some (.int s3) := atI_get (i := 3) (by simp)
  have a4 : atI ((s0 :: s1 :: s2 :: s3 :: s4 :: sh).map D.int) 4 = some (.int s4) := atI_get (i := 4) (by simp)
  unfold g__law_rows
  generalize (s0 :: s1 :: s2 :: s3 :: s4 :: sh).map D.int = sd at *
  refine seq_cut (fun δ => ∃ dg : List Int, dg.length = w.toNat * 60 ∧ (∀ x ∈ dg, 0 ≤ x ∧ x < 15) ∧ δ = [.val (.int c), .val (.int w), .val (.lst sd), .val (ils dg), .no, .no, .no, .no, .no]) ?_ ?_
  · intro R hR
    simp -failIfUnchanged only [dSeqS, dSet, dSetO, dRet, dRetN, dIfS, dDrop, dNext, dBreak, dCont, dNever, dShow, dFor, dApp, dPutIx, dAsg, dOp, dUn, dTst, dTru, dAnd, dOr, dNot, dAndV, dOrV, dNotV, dIfE, dCons, dNil, dTup, dLst, dCB, dCall, dCallN, dC, dVar, dChain, dSeq, dRng1, dRng2, dZip, dComp, dYes, dgName, dgTup, dgCons, dgNil, dwipe, dPeek, dPeekT, dIxO, frzAt, dNoPart, dPart, dSl, dEqV, dNeV, q000, q001, q002, q003, q004, q005, q006, q007, q008, q009, q010, q011, q012, q013, q014, q015, q016, q017, q018, q019, q020, q021, q022, q023, q024, q025, q026, q027, q028, q029, q030, q031, q032, q033, q034, q035, q036, q037, q038, q039, q040, q041, q042, q043, q044, q045, q046, q047, q048, q049, q050, q051, q052, q053, q054, q055, List.getElem?_cons_zero, List.getElem?_cons_succ, List.set_cons_zero, List.set_cons_succ, List.cons_append, List.nil_append, List.append_nil, if_true, if_false, ite_true, ite_false, Bool.false_eq_true, decide_eq_true_eq, Bool.not_true, Bool.not_false, Bool.not_eq_true', decide_eq_false_iff_not, Bool.not_not, isi_int_int, isi_int_bool, isi_int_tuple, isi_int_str, isi_int_lt, isi_bl_int, isi_bl_bool, isi_bl_lt, isi_str_str, isi_str_lt, isi_non_lt, isi_tup_tuple, isi_lst_tuple, isi_tup_lt, isi_lst_lt, okEq_int, okEq_bl, okEq_non, okEq_ils, okEq_vec, deqv_int, deqv_bl, deqv_ils, deqv_vec, true_and, and_true, and_self, reduceCtorEq, not_true_eq_false, not_false_eq_true, false_imp_iff, true_imp_iff, forall_const]
    refine ⟨by decide, mul_r (by decide) (by decide), by omega, by omega, ?_, ?_⟩
    · rw [sizeLine_eq]; show 1 * (w * 60).toNat ≤ _; omega
    rw [flat_rep]
    refine ⟨c, List.replicate (w * 60).toNat 15, rfl, fun s hs => by rw [List.eq_of_mem_replicate hs]; decide, by rw [List.length_replicate]; omega, fun row hrow => hR _ ⟨row, ?_, fun x hx => ?_, rfl⟩⟩
    · have := hrow.length
      rw [List.length_replicate] at this
      omega
    · obtain ⟨i, hi⟩ := List.mem_iff_getElem?.mp hx
      have hl : i < (List.replicate (w * 60).toNat (15 : Int)).length := by
        rw [hrow.length]; exact (List.getElem?_eq_some_iff.mp hi).1
      have e : (List.replicate (w * 60).toNat (15 : Int))[i]? = some 15 := by rw [List.getElem?_replicate, if_pos (by simpa using hl)]
      obtain ⟨y, h1, h2⟩ := paired_get hrow e
      rw [hi] at h1; injection h1 with h1; subst h1
      exact h2
  rintro _ ⟨dg, dl, db, rfl⟩
  have zrow : ∀ r ∈ List.replicate s3.toNat (List.replicate w.toNat (0 : Int)), r.length = w.toNat ∧ ∀ x ∈ r, -7 ≤ x ∧ x ≤ 7 := fun r hr => by
    rw [List.eq_of_mem_replicate hr]
    exact ⟨List.length_replicate .., fun x hx => by rw [List.eq_of_mem_replicate hx]; decide⟩
  refine seq_cut (fun δ => δ = [.val (.int c), .val (.int w), .val (.lst sd), .val (ils dg), .val (.lst ((List.replicate s3.toNat (List.replicate w.toNat (0 : Int))).map ils)), .no, .no, .no, .no]) ?_ ?_
  · intro R hR
    simp -failIfUnchanged only [dSeqS, dSet, dSetO, dRet, dRetN, dIfS, dDrop, dNext, dBreak, dCont, dNever, dShow, dFor, dApp, dPutIx, dAsg, dOp, dUn, dTst, dTru, dAnd, dOr, dNot, dAndV, dOrV, dNotV, dIfE, dCons, dNil, dTup, dLst, dCB, dCall, dCallN, dC, dVar, dChain, dSeq, dRng1, dRng2, dZip, dComp, dYes, dgName, dgTup, dgCons, dgNil, dwipe, dPeek, dPeekT, dIxO, frzAt, dNoPart, dPart, dSl, dEqV, dNeV, q000, q001, q002, q003, q004, q005, q006, q007, q008, q009, q010, q011, q012, q013, q014, q015, q016, q017, q018, q019, q020, q021, q022, q023, q024, q025, q026, q027, q028, q029, q030, q031, q032, q033, q034, q035, q036, q037, q038, q039, q040, q041, q042, q043, q044, q045, q046, q047, q048, q049, q050, q051, q052, q053, q054, q055, List.getElem?_cons_zero, List.getElem?_cons_succ, List.set_cons_zero, List.set_cons_succ, List.cons_append, List.nil_append, List.append_nil, if_true, if_false, ite_true, ite_false, Bool.false_eq_true, decide_eq_true_eq, Bool.not_true, Bool.not_false, Bool.not_eq_true', decide_eq_false_iff_not, Bool.not_not, isi_int_int, isi_int_bool, isi_int_tuple, isi_int_str, isi_int_lt, isi_bl_int, isi_bl_bool, isi_bl_lt, isi_str_str, isi_str_lt, isi_non_lt, isi_tup_tuple, isi_lst_tuple, isi_tup_lt, isi_lst_lt, okEq_int, okEq_bl, okEq_non, okEq_ils, okEq_vec, deqv_int, deqv_bl, deqv_ils, deqv_vec, true_and, and_true, and_self, reduceCtorEq, not_true_eq_false, not_false_eq_true, false_imp_iff, true_imp_iff, forall_const, Option.some.injEq, exists_eq_left', exists_eq_left, List.map_cons, List.map_nil, a3]
    refine ⟨by omega, by omega, by rw [rngD_len, sizeLine_eq]; omega, ?_⟩
    refine comp_rng _ (fun _ => ils (List.replicate w.toNat 0)) (fun i hi R hR => ?_) ?_
    · simp -failIfUnchanged only [dSeqS, dSet, dSetO, dRet, dRetN, dIfS, dDrop, dNext, dBreak, dCont, dNever, dShow, dFor, dApp, dPutIx, dAsg, dOp, dUn, dTst, dTru, dAnd, dOr, dNot, dAndV, dOrV, dNotV, dIfE, dCons, dNil, dTup, dLst, dCB, dCall, dCallN, dC, dVar, dChain, dSeq, dRng1, dRng2, dZip, dComp, dYes, dgName, dgTup, dgCons, dgNil, dwipe, dPeek, dPeekT, dIxO, frzAt, dNoPart, dPart, dSl, dEqV, dNeV, q000, q001, q002, q003, q004, q005, q006, q007, q008, q009, q010, q011, q012, q013, q014, q015, q016, q017, q018, q019, q020, q021, q022, q023, q024, q025, q026, q027, q028, q029, q030, q031, q032, q033, q034, q035, q036, q037, q038, q039, q040, q041, q042, q043, q044, q045, q046, q047, q048, q049, q050, q051, q052, q053, q054, q055, List.getElem?_cons_zero, List.getElem?_cons_succ, List.set_cons_zero, List.set_cons_succ, List.cons_append, List.nil_append, List.append_nil, if_true, if_false, ite_true, ite_false, Bool.false_eq_true, decide_eq_true_eq, Bool.not_true, Bool.not_false, Bool.not_eq_true', decide_eq_false_iff_not, Bool.not_not, isi_int_int, isi_int_bool, isi_int_tuple, isi_int_str, isi_int_lt, isi_bl_int, isi_bl_bool, isi_bl_lt, isi_str_str, isi_str_lt, isi_non_lt, isi_tup_tuple, isi_lst_tuple, isi_tup_lt, isi_lst_lt, okEq_int, okEq_bl, okEq_non, okEq_ils, okEq_vec, deqv_int, deqv_bl, deqv_ils, deqv_vec, true_and, and_true, and_self, reduceCtorEq, not_true_eq_false, not_false_eq_true, false_imp_iff, true_imp_iff, forall_const]
      refine ⟨by decide, by omega, by omega, by rw [sizeLine_eq]; show 1 * w.toNat ≤ _; omega, ?_⟩
      rw [flat_rep]
      exact hR
    · have : (List.range s3.toNat).map (fun _ => ils (List.replicate w.toNat 0)) = (List.replicate s3.toNat (List.replicate w.toNat (0 : Int))).map ils := by
        rw [List.map_replicate]
        refine List.ext_getElem (by simp) fun i h1 h2 => by simp
      rw [this]
      exact hR _ rfl
  rintro _ rfl
  refine seq_cut (fun δ => ∃ part : List (List Int), part.length = s2.toNat ∧ (∀ r ∈ part, r.length = w.toNat ∧ ∀ x ∈ r, -7 ≤ x ∧ x ≤ 7) ∧ δ = [.val (.int c), .val (.int w), .val (.lst sd), .val (ils dg), .val (.lst ((List.replicate s3.toNat (List.replicate w.toNat (0 : Int))).map ils)), .val (.lst (part.map ils)), .no, .no, .no]) ?_ ?_
  · intro R hR
    simp -failIfUnchanged only [dSeqS, dSet, dSetO, dRet, dRetN, dIfS, dDrop, dNext, dBreak, dCont, dNever, dShow, dFor, dApp, dPutIx, dAsg, dOp, dUn, dTst, dTru, dAnd, dOr, dNot, dAndV, dOrV, dNotV, dIfE, dCons, dNil, dTup, dLst, dCB, dCall, dCallN, dC, dVar, dChain, dSeq, dRng1, dRng2, dZip, dComp, dYes, dgName, dgTup, dgCons, dgNil, dwipe, dPeek, dPeekT, dIxO, frzAt, dNoPart, dPart, dSl, dEqV, dNeV, q000, q001, q002, q003, q004, q005, q006, q007, q008, q009, q010, q011, q012, q013, q014, q015, q016, q017, q018, q019, q020, q021, q022, q023, q024, q025, q026, q027, q028, q029, q030, q031, q032, q033, q034, q035, q036, q037, q038, q039, q040, q041, q042, q043, q044, q045, q046, q047, q048, q049, q050, q051, q052, q053, q054, q055, List.getElem?_cons_zero, List.getElem?_cons_succ, List.set_cons_zero, List.set_cons_succ, List.cons_append, List.nil_append, List.append_nil, if_true, if_false, ite_true, ite_false, Bool.false_eq_true, decide_eq_true_eq, Bool.not_true, Bool.not_false, Bool.not_eq_true', decide_eq_false_iff_not, Bool.not_not, isi_int_int, isi_int_bool, isi_int_tuple, isi_int_str, isi_int_lt, isi_bl_int, isi_bl_bool, isi_bl_lt, isi_str_str, isi_str_lt, isi_non_lt, isi_tup_tuple, isi_lst_tuple, isi_tup_lt, isi_lst_lt, okEq_int, okEq_bl, okEq_non, okEq_ils, okEq_vec, deqv_int, deqv_bl, deqv_ils, deqv_vec, true_and, and_true, and_self, reduceCtorEq, not_true_eq_false, not_false_eq_true, false_imp_iff, true_imp_iff, forall_const, Option.some.injEq, exists_eq_left', exists_eq_left, List.map_cons, List.map_nil, a2]
    refine ⟨by omega, by omega, by rw [rngD_len, sizeLine_eq]; omega, ?_⟩
    have dgo : ∀ k j : Nat, k < s2.toNat → j < w.toNat → ∃ x, dg[k * w.toNat + j]? = some x ∧ 0 ≤ x ∧ x < 15 := fun k j hk hj => by
      have : (k + 1) * w.toNat ≤ 60 * w.toNat := Nat.mul_le_mul_right _ (by omega)
      rw [Nat.succ_mul] at this
      have hl : k * w.toNat + j < dg.length := by rw [dl, Nat.mul_comm w.toNat]; omega
      exact ⟨dg[k * w.toNat + j], by simp [hl], db _ (List.getElem_mem hl)⟩
    refine comp_rng _ (fun k => ils ((List.range w.toNat).map fun j => dg.getD (k * w.toNat + j) 0 - 7)) (fun k hk R hR => ?_) ?_
    · simp -failIfUnchanged only [dSeqS, dSet, dSetO, dRet, dRetN, dIfS, dDrop, dNext, dBreak, dCont, dNever, dShow, dFor, dApp, dPutIx, dAsg, dOp, dUn, dTst, dTru, dAnd, dOr, dNot, dAndV, dOrV, dNotV, dIfE, dCons, dNil, dTup, dLst, dCB, dCall, dCallN, dC, dVar, dChain, dSeq, dRng1, dRng2, dZip, dComp, dYes, dgName, dgTup, dgCons, dgNil, dwipe, dPeek, dPeekT, dIxO, frzAt, dNoPart, dPart, dSl, dEqV, dNeV, q000, q001, q002, q003, q004, q005, q006, q007, q008, q009, q010, q011, q012, q013, q014, q015, q016, q017, q018, q019, q020, q021, q022, q023, q024, q025, q026, q027, q028, q029, q030, q031, q032, q033, q034, q035, q036, q037, q038, q039, q040, q041, q042, q043, q044, q045, q046, q047, q048, q049, q050, q051, q052, q053, q054, q055, List.getElem?_cons_zero, List.getElem?_cons_succ, List.set_cons_zero, List.set_cons_succ, List.cons_append, List.nil_append, List.append_nil, if_true, if_false, ite_true, ite_false, Bool.false_eq_true, decide_eq_true_eq, Bool.not_true, Bool.not_false, Bool.not_eq_true', decide_eq_false_iff_not, Bool.not_not, isi_int_int, isi_int_bool, isi_int_tuple, isi_int_str, isi_int_lt, isi_bl_int, isi_bl_bool, isi_bl_lt, isi_str_str, isi_str_lt, isi_non_lt, isi_tup_tuple, isi_lst_tuple, isi_tup_lt, isi_lst_lt, okEq_int, okEq_bl, okEq_non, okEq_ils, okEq_vec, deqv_int, deqv_bl, deqv_ils, deqv_vec, true_and, and_true, and_self, reduceCtorEq, not_true_eq_false, not_false_eq_true, false_imp_iff, true_imp_iff, forall_const]
      refine ⟨by omega, by omega, by rw [rngD_len, sizeLine_eq]; omega, ?_⟩
      refine comp_rng _ (fun j => .int (dg.getD (k * w.toNat + j) 0 - 7)) (fun j hj R hR => ?_) ?_
      · simp -failIfUnchanged only [dSeqS, dSet, dSetO, dRet, dRetN, dIfS, dDrop, dNext, dBreak, dCont, dNever, dShow, dFor, dApp, dPutIx, dAsg, dOp, dUn, dTst, dTru, dAnd, dOr, dNot, dAndV, dOrV, dNotV, dIfE, dCons, dNil, dTup, dLst, dCB, dCall, dCallN, dC, dVar, dChain, dSeq, dRng1, dRng2, dZip, dComp, dYes, dgName, dgTup, dgCons, dgNil, dwipe, dPeek, dPeekT, dIxO, frzAt, dNoPart, dPart, dSl, dEqV, dNeV, q000, q001, q002, q003, q004, q005, q006, q007, q008, q009, q010, q011, q012, q013, q014, q015, q016, q017, q018, q019, q020, q021, q022, q023, q024, q025, q026, q027, q028, q029, q030, q031, q032, q033, q034, q035, q036, q037, q038, q039, q040, q041, q042, q043, q044, q045, q046, q047, q048, q049, q050, q051, q052, q053, q054, q055, List.getElem?_cons_zero, List.getElem?_cons_succ, List.set_cons_zero, List.set_cons_succ, List.cons_append, List.nil_append, List.append_nil, if_true, if_false, ite_true, ite_false, Bool.false_eq_true, decide_eq_true_eq, Bool.not_true, Bool.not_false, Bool.not_eq_true', decide_eq_false_iff_not, Bool.not_not, isi_int_int, isi_int_bool, isi_int_tuple, isi_int_str, isi_int_lt, isi_bl_int, isi_bl_bool, isi_bl_lt, isi_str_str, isi_str_lt, isi_non_lt, isi_tup_tuple, isi_lst_tuple, isi_tup_lt, isi_lst_lt, okEq_int, okEq_bl, okEq_non, okEq_ils, okEq_vec, deqv_int, deqv_bl, deqv_ils, deqv_vec, true_and, and_true, and_self, reduceCtorEq, not_true_eq_false, not_false_eq_true, false_imp_iff, true_imp_iff, forall_const]
        obtain ⟨x, hx, _⟩ := dgo k j hk hj
        refine ⟨mul_r (by omega) (by omega), .int x, ?_, ?_⟩
        · have e : ((k : Nat) : Int) * w + ((j : Nat) : Int) = ((k * w.toNat + j : Nat) : Int) := by
            rw [Int.natCast_add, Int.natCast_mul, Int.toNat_of_nonneg (by omega)]
          rw [e]
          exact atI_get (by rw [List.getElem?_map, hx]; rfl)
        simp -failIfUnchanged only [dSeqS, dSet, dSetO, dRet, dRetN, dIfS, dDrop, dNext, dBreak, dCont, dNever, dShow, dFor, dApp, dPutIx, dAsg, dOp, dUn, dTst, dTru, dAnd, dOr, dNot, dAndV, dOrV, dNotV, dIfE, dCons, dNil, dTup, dLst, dCB, dCall, dCallN, dC, dVar, dChain, dSeq, dRng1, dRng2, dZip, dComp, dYes, dgName, dgTup, dgCons, dgNil, dwipe, dPeek, dPeekT, dIxO, frzAt, dNoPart, dPart, dSl, dEqV, dNeV, q000, q001, q002, q003, q004, q005, q006, q007, q008, q009, q010, q011, q012, q013, q014, q015, q016, q017, q018, q019, q020, q021, q022, q023, q024, q025, q026, q027, q028, q029, q030, q031, q032, q033, q034, q035, q036, q037, q038, q039, q040, q041, q042, q043, q044, q045, q046, q047, q048, q049, q050, q051, q052, q053, q054, q055, List.getElem?_cons_zero, List.getElem?_cons_succ, List.set_cons_zero, List.set_cons_succ, List.cons_append, List.nil_append, List.append_nil, if_true, if_false, ite_true, ite_false, Bool.false_eq_true, decide_eq_true_eq, Bool.not_true, Bool.not_false, Bool.not_eq_true', decide_eq_false_iff_not, Bool.not_not, isi_int_int, isi_int_bool, isi_int_tuple, isi_int_str, isi_int_lt, isi_bl_int, isi_bl_bool, isi_bl_lt, isi_str_str, isi_str_lt, isi_non_lt, isi_tup_tuple, isi_lst_tuple, isi_tup_lt, isi_lst_lt, okEq_int, okEq_bl, okEq_non, okEq_ils, okEq_vec, deqv_int, deqv_bl, deqv_ils, deqv_vec, true_and, and_true, and_self, reduceCtorEq, not_true_eq_false, not_false_eq_true, false_imp_iff, true_imp_iff, forall_const]
        have e : dg.getD (k * w.toNat + j) 0 = x := by rw [List.getD_eq_getElem?_getD, hx]; rfl
        rw [e] at hR
        exact hR
      · rw [show (List.range w.toNat).map (fun j => D.int (dg.getD (k * w.toNat + j) 0 - 7)) = ((List.range w.toNat).map fun j => dg.getD (k * w.toNat + j) 0 - 7).map .int by rw [List.map_map]; rfl]
        exact hR
    · rw [show (List.range s2.toNat).map (fun k => ils ((List.range w.toNat).map fun j => dg.getD (k * w.toNat + j) 0 - 7)) = ((List.range s2.toNat).map fun k => (List.range w.toNat).map fun j => dg.getD (k * w.toNat + j) 0 - 7).map ils by rw [List.map_map]; rfl]
      refine hR _ ⟨_, by simp, fun r hr => ?_, rfl⟩
      obtain ⟨k, hk, rfl⟩ := List.mem_map.mp hr
      refine ⟨by simp, fun x hx => ?_⟩
      obtain ⟨j, hj, rfl⟩ := List.mem_map.mp hx
      obtain ⟨x, hx, h0, h1⟩ := dgo k j (List.mem_range.mp hk) (List.mem_range.mp hj)
      rw [List.getD_eq_getElem?_getD, hx]
      simp only [Option.getD_some]
      omega
  rintro _ ⟨part, pl, pb, rfl⟩
  have z3 : (List.replicate s3.toNat (List.replicate w.toNat (0 : Int))).length = s3.toNat := List.length_replicate ..
  generalize List.replicate s3.toNat (List.replicate w.toNat (0 : Int)) = zs at *
  refine seq_cut (fun δ => δ = [.val (.int c), .val (.int w), .val (.lst sd), .val (ils dg), .val (.lst (zs.map ils)), .val (.lst (part.map ils)), .val (.int 1), .no, .no]) (fun R hR => hR _ rfl) ?_
  rintro _ rfl
  refine seq_cut (fun δ => ∃ n : Int, zs.length + n.toNat * part.length ≤ 1100 ∧ n ≤ 1100 ∧ -1100 ≤ n ∧ δ = [.val (.int c), .val (.int w), .val (.lst sd), .val (ils dg), .val (.lst (zs.map ils)), .val (.lst (part.map ils)), .val (.int n), .no, .no]) ?_ ?_
  · intro R hR
    simp -failIfUnchanged only [dSeqS, dSet, dSetO, dRet, dRetN, dIfS, dDrop, dNext, dBreak, dCont, dNever, dShow, dFor, dApp, dPutIx, dAsg, dOp, dUn, dTst, dTru, dAnd, dOr, dNot, dAndV, dOrV, dNotV, dIfE, dCons, dNil, dTup, dLst, dCB, dCall, dCallN, dC, dVar, dChain, dSeq, dRng1, dRng2, dZip, dComp, dYes, dgName, dgTup, dgCons, dgNil, dwipe, dPeek, dPeekT, dIxO, frzAt, dNoPart, dPart, dSl, dEqV, dNeV, q000, q001, q002, q003, q004, q005, q006, q007, q008, q009, q010, q011, q012, q013, q014, q015, q016, q017, q018, q019, q020, q021, q022, q023, q024, q025, q026, q027, q028, q029, q030, q031, q032, q033, q034, q035, q036, q037, q038, q039, q040, q041, q042, q043, q044, q045, q046, q047, q048, q049, q050, q051, q052, q053, q054, q055, List.getElem?_cons_zero, List.getElem?_cons_succ, List.set_cons_zero, List.set_cons_succ, List.cons_append, List.nil_append, List.append_nil, if_true, if_false, ite_true, ite_false, Bool.false_eq_true, decide_eq_true_eq, Bool.not_true, Bool.not_false, Bool.not_eq_true', decide_eq_false_iff_not, Bool.not_not, isi_int_int, isi_int_bool, isi_int_tuple, isi_int_str, isi_int_lt, isi_bl_int, isi_bl_bool, isi_bl_lt, isi_str_str, isi_str_lt, isi_non_lt, isi_tup_tuple, isi_lst_tuple, isi_tup_lt, isi_lst_lt, okEq_int, okEq_bl, okEq_non, okEq_ils, okEq_vec, deqv_int, deqv_bl, deqv_ils, deqv_vec, true_and, and_true, and_self, reduceCtorEq, not_true_eq_false, not_false_eq_true, false_imp_iff, true_imp_iff, forall_const, Option.some.injEq, exists_eq_left', exists_eq_left, List.map_cons, List.map_nil, a4]
    by_cases h5 : s4 = 5
    · rw [if_pos h5]
      rw [List.length_map, List.length_map]
      have m1 : (1 : Int) ≤ max 1 (part.length : Int) := Int.le_max_left ..
      have m2 : (part.length : Int) ≤ max 1 (part.length : Int) := Int.le_max_right ..
      have m3 : max 1 (part.length : Int) ≤ 60 := Int.max_le.mpr ⟨by omega, by omega⟩
      generalize max 1 (part.length : Int) = m at *
      have d0 : 0 ≤ (1100 - (zs.length : Int)) / m := Int.ediv_nonneg (by omega) (by omega)
      have d1 : m * ((1100 - (zs.length : Int)) / m) ≤ 1100 - zs.length := Int.mul_ediv_self_le (by omega)
      have d2 : (1100 - (zs.length : Int)) / m ≤ 1100 - zs.length := Int.ediv_le_self _ (by omega)
      generalize (1100 - (zs.length : Int)) / m = q at *
      refine ⟨divOk_small (by omega) (by omega), hR _ ⟨q, ?_, by omega, by omega, rfl⟩⟩
      have e : ((q.toNat * part.length : Nat) : Int) = q * part.length := by rw [Int.natCast_mul, Int.toNat_of_nonneg d0]
      have e2 : q * (part.length : Int) ≤ q * m := Int.mul_le_mul_of_nonneg_left m2 d0
      rw [Int.mul_comm q m] at e2
      omega
    · rw [if_neg h5]
      exact hR _ ⟨1, by show zs.length + 1 * part.length ≤ 1100; omega, by omega, by omega, rfl⟩
  rintro _ ⟨n, n0, n1, n2, rfl⟩
  simp -failIfUnchanged only [dSeqS, dSet, dSetO, dRet, dRetN, dIfS, dDrop, dNext, dBreak, dCont, dNever, dShow, dFor, dApp, dPutIx, dAsg, dOp, dUn, dTst, dTru, dAnd, dOr, dNot, dAndV, dOrV, dNotV, dIfE, dCons, dNil, dTup, dLst, dCB, dCall, dCallN, dC, dVar, dChain, dSeq, dRng1, dRng2, dZip, dComp, dYes, dgName, dgTup, dgCons, dgNil, dwipe, dPeek, dPeekT, dIxO, frzAt, dNoPart, dPart, dSl, dEqV, dNeV, q000, q001, q002, q003, q004, q005, q006, q007, q008, q009, q010, q011, q012, q013, q014, q015, q016, q017, q018, q019, q020, q021, q022, q023, q024, q025, q026, q027, q028, q029, q030, q031, q032, q033, q034, q035, q036, q037, q038, q039, q040, q041, q042, q043, q044, q045, q046, q047, q048, q049, q050, q051, q052, q053, q054, q055, List.getElem?_cons_zero, List.getElem?_cons_succ, List.set_cons_zero, List.set_cons_succ, List.cons_append, List.nil_append, List.append_nil, if_true, if_false, ite_true, ite_false, Bool.false_eq_true, decide_eq_true_eq, Bool.not_true, Bool.not_false, Bool.not_eq_true', decide_eq_false_iff_not, Bool.not_not, isi_int_int, isi_int_bool, isi_int_tuple, isi_int_str, isi_int_lt, isi_bl_int, isi_bl_bool, isi_bl_lt, isi_str_str, isi_str_lt, isi_non_lt, isi_tup_tuple, isi_lst_tuple, isi_tup_lt, isi_lst_lt, okEq_int, okEq_bl, okEq_non, okEq_ils, okEq_vec, deqv_int, deqv_bl, deqv_ils, deqv_vec, true_and, and_true, and_self, reduceCtorEq, not_true_eq_false, not_false_eq_true, false_imp_iff, true_imp_iff, forall_const]
  have k0 : min n 1100 = n := by omega
  rw [k0]
  refine ⟨by omega, by omega, ?_⟩
  refine for_rng _ (fun i δ => ∃ (rows : List (List Int)) (k : DS), rows.length = zs.length + i * part.length ∧ (∀ r ∈ rows, r.length = w.toNat ∧ ∀ x ∈ r, -7 ≤ x ∧ x ≤ 7) ∧ δ = [.val (.int c), .val (.int w), .val (.lst sd), .val (ils dg), .val (.lst (rows.map ils)), .val (.lst (part.map ils)), .val (.int n), k, .no]) ⟨zs, _, by omega, zrow, rfl⟩ ?_ ?_
  · rintro i δ R hi ⟨rows, k, rl, rb, rfl⟩ hR
    simp -failIfUnchanged only [dSeqS, dSet, dSetO, dRet, dRetN, dIfS, dDrop, dNext, dBreak, dCont, dNever, dShow, dFor, dApp, dPutIx, dAsg, dOp, dUn, dTst, dTru, dAnd, dOr, dNot, dAndV, dOrV, dNotV, dIfE, dCons, dNil, dTup, dLst, dCB, dCall, dCallN, dC, dVar, dChain, dSeq, dRng1, dRng2, dZip, dComp, dYes, dgName, dgTup, dgCons, dgNil, dwipe, dPeek, dPeekT, dIxO, frzAt, dNoPart, dPart, dSl, dEqV, dNeV, q000, q001, q002, q003, q004, q005, q006, q007, q008, q009, q010, q011, q012, q013, q014, q015, q016, q017, q018, q019, q020, q021, q022, q023, q024, q025, q026, q027, q028, q029, q030, q031, q032, q033, q034, q035, q036, q037, q038, q039, q040, q041, q042, q043, q044, q045, q046, q047, q048, q049, q050, q051, q052, q053, q054, q055, List.getElem?_cons_zero, List.getElem?_cons_succ, List.set_cons_zero, List.set_cons_succ, List.cons_append, List.nil_append, List.append_nil, if_true, if_false, ite_true, ite_false, Bool.false_eq_true, decide_eq_true_eq, Bool.not_true, Bool.not_false, Bool.not_eq_true', decide_eq_false_iff_not, Bool.not_not, isi_int_int, isi_int_bool, isi_int_tuple, isi_int_str, isi_int_lt, isi_bl_int, isi_bl_bool, isi_bl_lt, isi_str_str, isi_str_lt, isi_non_lt, isi_tup_tuple, isi_lst_tuple, isi_tup_lt, isi_lst_lt, okEq_int, okEq_bl, okEq_non, okEq_ils, okEq_vec, deqv_int, deqv_bl, deqv_ils, deqv_vec, true_and, and_true, and_self, reduceCtorEq, not_true_eq_false, not_false_eq_true, false_imp_iff, true_imp_iff, forall_const]
    have : (i + 1) * part.length ≤ n.toNat * part.length := Nat.mul_le_mul_right _ hi
    have e : (i + 1) * part.length = i * part.length + part.length := Nat.succ_mul ..
    refine ⟨by rw [List.length_map, List.length_map, sizeLine_eq]; omega, hR _ ⟨rows ++ part, _, ?_, fun r hr => ?_, by rw [List.map_append]⟩⟩
    · rw [List.length_append]; omega
    · rcases List.mem_append.mp hr with h | h
      · exact rb r h
      · exact pb r h
  · rintro δ ⟨rows, k, rl, rb, rfl⟩
    simp -failIfUnchanged only [dSeqS, dSet, dSetO, dRet, dRetN, dIfS, dDrop, dNext, dBreak, dCont, dNever, dShow, dFor, dApp, dPutIx, dAsg, dOp, dUn, dTst, dTru, dAnd, dOr, dNot, dAndV, dOrV, dNotV, dIfE, dCons, dNil, dTup, dLst, dCB, dCall, dCallN, dC, dVar, dChain, dSeq, dRng1, dRng2, dZip, dComp, dYes, dgName, dgTup, dgCons, dgNil, dwipe, dPeek, dPeekT, dIxO, frzAt, dNoPart, dPart, dSl, dEqV, dNeV, q000, q001, q002, q003, q004, q005, q006, q007, q008, q009, q010, q011, q012, q013, q014, q015, q016, q017, q018, q019, q020, q021, q022, q023, q024, q025, q026, q027, q028, q029, q030, q031, q032, q033, q034, q035, q036, q037, q038, q039, q040, q041, q042, q043, q044, q045, q046, q047, q048, q049, q050, q051, q052, q053, q054, q055, List.getElem?_cons_zero, List.getElem?_cons_succ, List.set_cons_zero, List.set_cons_succ, List.cons_append, List.nil_append, List.append_nil, if_true, if_false, ite_true, ite_false, Bool.false_eq_true, decide_eq_true_eq, Bool.not_true, Bool.not_false, Bool.not_eq_true', decide_eq_false_iff_not, Bool.not_not, isi_int_int, isi_int_bool, isi_int_tuple, isi_int_str, isi_int_lt, isi_bl_int, isi_bl_bool, isi_bl_lt, isi_str_str, isi_str_lt, isi_non_lt, isi_tup_tuple, isi_lst_tuple, isi_tup_lt, isi_lst_lt, okEq_int, okEq_bl, okEq_non, okEq_ils, okEq_vec, deqv_int, deqv_bl, deqv_ils, deqv_vec, true_and, and_true, and_self, reduceCtorEq, not_true_eq_false, not_false_eq_true, false_imp_iff, true_imp_iff, forall_const]
    exact hq rows (by omega) rb
end L2.DL

-- K00J
set_option Elab.async false
set_option linter.all false
set_option maxRecDepth 100000
set_option maxHeartbeats 2000000
namespace L2.DL
open PySem PySem.Spec PyProof.Rows
/-! # the law's figures, totals, comparisons -/
theorem int_max {l : List Int} {mx : Int} (hm : mx ∈ l) (h0 : ∀ x ∈ l, 0 ≤ x) (hle : ∀ y ∈ l, y ≤ mx) : (mx = 0 ↔ ∀ x ∈ l, x = 0) := by
  constructor
  · intro h x hx
    have := h0 x hx
    have := hle x hx
    omega
  · intro h
    exact h mx hm
def F__law_figures : FD := fun ds Q _ => ∃ (a : List Int) (b : Nat), ds = [ils a, .int b] ∧ a ≠ [] ∧ a.length ≤ 1000 ∧ (∀ y ∈ a, y.natAbs < 2 ^ 3100) ∧ 2 ≤ b ∧ b ≤ 8 ∧ ∀ n, n ≤ 3100 → isN b a n → Q (.lst ((figs b a n).map ils))
def g__law_figures : DSt := (dSeqS (dSet 2 (dComp (dSeq (dVar 0)) true (dgName 6) dYes (dOp dSubV (dC (.int 1)) (dOp dMulV (dC (.int 2)) (dCB dIntV (dCons (dOp dLtV (dVar 6) (dC (.int 0))) dNil)))) [6]))
    (dSeqS (dSet 3 (dComp (dSeq (dVar 0)) true (dgName 6) dYes (dCB dAbsV (dCons (dVar 6) dNil)) [6]))
    (dSeqS (dSetO 4 (dLst dNil))
    (dSeqS (dFor (dRng1 (dCons (dC (.int 3200)) dNil)) (dgName 5) (dSeqS (dIfS (dTst (dOp dEqV (dCB dMaxV (dCons (dVar 3) dNil)) (dC (.int 0)))) dBreak dNext)
    (dSeqS (dApp 4 (dComp (dRng1 (dCons (dCB dLenV (dCons (dVar 0) dNil)) dNil)) false (dgName 7) dYes (dOp dMulV (dOp dIxV (dVar 2) (dVar 7)) (dOp dModV (dCB dIntV (dCons (dOp dIxV (dVar 3) (dVar 7)) dNil)) (dVar 1))) [7]))
    (dSet 3 (dComp (dRng1 (dCons (dCB dLenV (dCons (dVar 0) dNil)) dNil)) false (dgName 7) dYes (dOp dFdivV (dOp dIxV (dVar 3) (dVar 7)) (dVar 1)) [7])))))
    (dShow 4 (dRet (dUn dRevV (dVar 4))))))))
theorem row_rng (b : Nat) (a : List Int) (t : Nat) : (List.range a.length).map (fun j => (sg (a.getD j 0)) * ((leftAt b a t).getD j 0 % (b : Int))) = rowAt b a t := by
  refine List.ext_getElem (by simp [rowAt]) fun i h1 h2 => ?_
  have hi : i < a.length := by simpa using h1
  simp [rowAt, leftAt, hi, List.getD_eq_getElem?_getD]
theorem left_rng (b : Nat) (a : List Int) (t : Nat) : (List.range a.length).map (fun j => (leftAt b a t).getD j 0 / (b : Int)) = leftAt b a (t + 1) := by
  rw [← left_next]
  refine List.ext_getElem (by simp [leftAt]) fun i h1 h2 => ?_
  have hi : i < a.length := by simpa using h1
  simp [leftAt, hi, List.getD_eq_getElem?_getD]
theorem figs_revL (b : Nat) (a : List Int) (n : Nat) : (((List.range n).map fun t => ils (rowAt b a t))).reverse = (figs b a n).map ils := by
  unfold figs
  rw [List.map_map, ← List.map_reverse]
  rfl
theorem atI_map_nat {α β : Type} (f : α → β) {xs : List α} {i : Nat} {d : α} (h : i < xs.length) : atI (xs.map f) (i : Int) = some (f (xs.getD i d)) := by
  rw [atI_map, atI_get (x := xs[i]) (by simp [h])]
  simp [List.getD_eq_getElem?_getD, h]
theorem does__law_figures : Does ["vector", "root", "signs", "left", "rows", "turn", "entry", "j"] ["vector", "root"] F__law_figures g__law_figures := by
  rintro ds Q Xd ⟨a, b, rfl, hne, hal, hbig, hb, hb8, hq⟩
  refine ⟨rfl, ?_⟩
  have hd := divOk_8 (b := b) (by omega) hb8
  show g__law_figures _ [.val _, .val _, .no, .no, .no, .no, .no, .no]
  unfold g__law_figures
  refine seq_cut (fun δ => δ = [.val (ils a), .val (.int b), .val (ils (a.map sg)), .no, .no, .no, .no, .no]) ?_ ?_
  · intro R hR
    simp -failIfUnchanged only [dSeqS, dSet, dSetO, dRet, dRetN, dIfS, dDrop, dNext, dBreak, dCont, dNever, dShow, dFor, dApp, dPutIx, dAsg, dOp, dUn, dTst, dTru, dAnd, dOr, dNot, dAndV, dOrV, dNotV, dIfE, dCons, dNil, dTup, dLst, dCB, dCall, dCallN, dC, dVar, dChain, dSeq, dRng1, dRng2, dZip, dComp, dYes, dgName, dgTup, dgCons, dgNil, dwipe, dPeek, dPeekT, dIxO, frzAt, dNoPart, dPart, dSl, dEqV, dNeV, q000, q001, q002, q003, q004, q005, q006, q007, q008, q009, q010, q011, q012, q013, q014, q015, q016, q017, q018, q019, q020, q021, q022, q023, q024, q025, q026, q027, q028, q029, q030, q031, q032, q033, q034, q035, q036, q037, q038, q039, q040, q041, q042, q043, q044, q045, q046, q047, q048, q049, q050, q051, q052, q053, q054, q055, List.getElem?_cons_zero, List.getElem?_cons_succ, List.set_cons_zero, List.set_cons_succ, List.cons_append, List.nil_append, List.append_nil, if_true, if_false, ite_true, ite_false, Bool.false_eq_true, decide_eq_true_eq, Bool.not_true, Bool.not_false, Bool.not_eq_true', decide_eq_false_iff_not, Bool.not_not, isi_int_int, isi_int_bool, isi_int_tuple, isi_int_str, isi_int_lt, isi_bl_int, isi_bl_bool, isi_bl_lt, isi_str_str, isi_str_lt, isi_non_lt, isi_tup_tuple, isi_lst_tuple, isi_tup_lt, isi_lst_lt, okEq_int, okEq_bl, okEq_non, okEq_ils, okEq_vec, deqv_int, deqv_bl, deqv_ils, deqv_vec, true_and, and_true, and_self, reduceCtorEq, not_true_eq_false, not_false_eq_true, false_imp_iff, true_imp_iff, forall_const]
    refine comp_map D.int (fun y => .int (sg y)) a (fun y hy R hR => ?_) ?_
    · simp -failIfUnchanged only [dSeqS, dSet, dSetO, dRet, dRetN, dIfS, dDrop, dNext, dBreak, dCont, dNever, dShow, dFor, dApp, dPutIx, dAsg, dOp, dUn, dTst, dTru, dAnd, dOr, dNot, dAndV, dOrV, dNotV, dIfE, dCons, dNil, dTup, dLst, dCB, dCall, dCallN, dC, dVar, dChain, dSeq, dRng1, dRng2, dZip, dComp, dYes, dgName, dgTup, dgCons, dgNil, dwipe, dPeek, dPeekT, dIxO, frzAt, dNoPart, dPart, dSl, dEqV, dNeV, q000, q001, q002, q003, q004, q005, q006, q007, q008, q009, q010, q011, q012, q013, q014, q015, q016, q017, q018, q019, q020, q021, q022, q023, q024, q025, q026, q027, q028, q029, q030, q031, q032, q033, q034, q035, q036, q037, q038, q039, q040, q041, q042, q043, q044, q045, q046, q047, q048, q049, q050, q051, q052, q053, q054, q055, List.getElem?_cons_zero, List.getElem?_cons_succ, List.set_cons_zero, List.set_cons_succ, List.cons_append, List.nil_append, List.append_nil, if_true, if_false, ite_true, ite_false, Bool.false_eq_true, decide_eq_true_eq, Bool.not_true, Bool.not_false, Bool.not_eq_true', decide_eq_false_iff_not, Bool.not_not, isi_int_int, isi_int_bool, isi_int_tuple, isi_int_str, isi_int_lt, isi_bl_int, isi_bl_bool, isi_bl_lt, isi_str_str, isi_str_lt, isi_non_lt, isi_tup_tuple, isi_lst_tuple, isi_tup_lt, isi_lst_lt, okEq_int, okEq_bl, okEq_non, okEq_ils, okEq_vec, deqv_int, deqv_bl, deqv_ils, deqv_vec, true_and, and_true, and_self, reduceCtorEq, not_true_eq_false, not_false_eq_true, false_imp_iff, true_imp_iff, forall_const]
      refine ⟨mul_l (by omega) (by omega), ?_⟩
      unfold sg at hR
      by_cases h : y < 0
      · simpa [h] using hR
      · simpa [h] using hR
    · rw [show a.map (fun y => D.int (sg y)) = (a.map sg).map .int by simp]
      exact hR _ rfl
  rintro _ rfl
  refine seq_cut (fun δ => δ = [.val (ils a), .val (.int b), .val (ils (a.map sg)), .val (ils (leftAt b a 0)), .no, .no, .no, .no]) ?_ ?_
  · intro R hR
    simp -failIfUnchanged only [dSeqS, dSet, dSetO, dRet, dRetN, dIfS, dDrop, dNext, dBreak, dCont, dNever, dShow, dFor, dApp, dPutIx, dAsg, dOp, dUn, dTst, dTru, dAnd, dOr, dNot, dAndV, dOrV, dNotV, dIfE, dCons, dNil, dTup, dLst, dCB, dCall, dCallN, dC, dVar, dChain, dSeq, dRng1, dRng2, dZip, dComp, dYes, dgName, dgTup, dgCons, dgNil, dwipe, dPeek, dPeekT, dIxO, frzAt, dNoPart, dPart, dSl, dEqV, dNeV, q000, q001, q002, q003, q004, q005, q006, q007, q008, q009, q010, q011, q012, q013, q014, q015, q016, q017, q018, q019, q020, q021, q022, q023, q024, q025, q026, q027, q028, q029, q030, q031, q032, q033, q034, q035, q036, q037, q038, q039, q040, q041, q042, q043, q044, q045, q046, q047, q048, q049, q050, q051, q052, q053, q054, q055, List.getElem?_cons_zero, List.getElem?_cons_succ, List.set_cons_zero, List.set_cons_succ, List.cons_append, List.nil_append, List.append_nil, if_true, if_false, ite_true, ite_false, Bool.false_eq_true, decide_eq_true_eq, Bool.not_true, Bool.not_false, Bool.not_eq_true', decide_eq_false_iff_not, Bool.not_not, isi_int_int, isi_int_bool, isi_int_tuple, isi_int_str, isi_int_lt, isi_bl_int, isi_bl_bool, isi_bl_lt, isi_str_str, isi_str_lt, isi_non_lt, isi_tup_tuple, isi_lst_tuple, isi_tup_lt, isi_lst_lt, okEq_int, okEq_bl, okEq_non, okEq_ils, okEq_vec, deqv_int, deqv_bl, deqv_ils, deqv_vec, true_and, and_true, and_self, reduceCtorEq, not_true_eq_false, not_false_eq_true, false_imp_iff, true_imp_iff, forall_const]
    refine comp_map D.int (fun y => .int ((y.natAbs : Nat) : Int)) a (fun y hy R hR => ?_) ?_
    · simp -failIfUnchanged only [dSeqS, dSet, dSetO, dRet, dRetN, dIfS, dDrop, dNext, dBreak, dCont, dNever, dShow, dFor, dApp, dPutIx, dAsg, dOp, dUn, dTst, dTru, dAnd, dOr, dNot, dAndV, dOrV, dNotV, dIfE, dCons, dNil, dTup, dLst, dCB, dCall, dCallN, dC, dVar, dChain, dSeq, dRng1, dRng2, dZip, dComp, dYes, dgName, dgTup, dgCons, dgNil, dwipe, dPeek, dPeekT, dIxO, frzAt, dNoPart, dPart, dSl, dEqV, dNeV, q000, q001, q002, q003, q004, q005, q006, q007, q008, q009, q010, q011, q012, q013, q014, q015, q016, q017, q018, q019, q020, q021, q022, q023, q024, q025, q026, q027, q028, q029, q030, q031, q032, q033, q034, q035, q036, q037, q038, q039, q040, q041, q042, q043, q044, q045, q046, q047, q048, q049, q050, q051, q052, q053, q054, q055, List.getElem?_cons_zero, List.getElem?_cons_succ, List.set_cons_zero, List.set_cons_succ, List.cons_append, List.nil_append, List.append_nil, if_true, if_false, ite_true, ite_false, Bool.false_eq_true, decide_eq_true_eq, Bool.not_true, Bool.not_false, Bool.not_eq_true', decide_eq_false_iff_not, Bool.not_not, isi_int_int, isi_int_bool, isi_int_tuple, isi_int_str, isi_int_lt, isi_bl_int, isi_bl_bool, isi_bl_lt, isi_str_str, isi_str_lt, isi_non_lt, isi_tup_tuple, isi_lst_tuple, isi_tup_lt, isi_lst_lt, okEq_int, okEq_bl, okEq_non, okEq_ils, okEq_vec, deqv_int, deqv_bl, deqv_ils, deqv_vec, true_and, and_true, and_self, reduceCtorEq, not_true_eq_false, not_false_eq_true, false_imp_iff, true_imp_iff, forall_const]
      exact hR
    · rw [show a.map (fun y => D.int ((y.natAbs : Nat) : Int)) = (leftAt b a 0).map .int by rw [left_zero]; simp]
      exact hR _ rfl
  rintro _ rfl
  refine seq_cut (fun δ => δ = [.val (ils a), .val (.int b), .val (ils (a.map sg)), .val (ils (leftAt b a 0)), .own (.lst []), .no, .no, .no]) ?_ ?_
  · intro R hR
    simp -failIfUnchanged only [dSeqS, dSet, dSetO, dRet, dRetN, dIfS, dDrop, dNext, dBreak, dCont, dNever, dShow, dFor, dApp, dPutIx, dAsg, dOp, dUn, dTst, dTru, dAnd, dOr, dNot, dAndV, dOrV, dNotV, dIfE, dCons, dNil, dTup, dLst, dCB, dCall, dCallN, dC, dVar, dChain, dSeq, dRng1, dRng2, dZip, dComp, dYes, dgName, dgTup, dgCons, dgNil, dwipe, dPeek, dPeekT, dIxO, frzAt, dNoPart, dPart, dSl, dEqV, dNeV, q000, q001, q002, q003, q004, q005, q006, q007, q008, q009, q010, q011, q012, q013, q014, q015, q016, q017, q018, q019, q020, q021, q022, q023, q024, q025, q026, q027, q028, q029, q030, q031, q032, q033, q034, q035, q036, q037, q038, q039, q040, q041, q042, q043, q044, q045, q046, q047, q048, q049, q050, q051, q052, q053, q054, q055, List.getElem?_cons_zero, List.getElem?_cons_succ, List.set_cons_zero, List.set_cons_succ, List.cons_append, List.nil_append, List.append_nil, if_true, if_false, ite_true, ite_false, Bool.false_eq_true, decide_eq_true_eq, Bool.not_true, Bool.not_false, Bool.not_eq_true', decide_eq_false_iff_not, Bool.not_not, isi_int_int, isi_int_bool, isi_int_tuple, isi_int_str, isi_int_lt, isi_bl_int, isi_bl_bool, isi_bl_lt, isi_str_str, isi_str_lt, isi_non_lt, isi_tup_tuple, isi_lst_tuple, isi_tup_lt, isi_lst_lt, okEq_int, okEq_bl, okEq_non, okEq_ils, okEq_vec, deqv_int, deqv_bl, deqv_ils, deqv_vec, true_and, and_true, and_self, reduceCtorEq, not_true_eq_false, not_false_eq_true, false_imp_iff, true_imp_iff, forall_const]
    exact ⟨by decide, hR _ rfl⟩
  rintro _ rfl
  refine seq_cut (fun δ => ∃ (n : Nat) (k e j : DS), n ≤ 3100 ∧ isN b a n ∧ δ = [.val (ils a), .val (.int b), .val (ils (a.map sg)), .val (ils (leftAt b a n)), .own (.lst ((List.range n).map fun t => ils (rowAt b a t))), k, e, j]) ?_ ?_
  · intro R hR
    simp -failIfUnchanged only [dSeqS, dSet, dSetO, dRet, dRetN, dIfS, dDrop, dNext, dBreak, dCont, dNever, dShow, dFor, dApp, dPutIx, dAsg, dOp, dUn, dTst, dTru, dAnd, dOr, dNot, dAndV, dOrV, dNotV, dIfE, dCons, dNil, dTup, dLst, dCB, dCall, dCallN, dC, dVar, dChain, dSeq, dRng1, dRng2, dZip, dComp, dYes, dgName, dgTup, dgCons, dgNil, dwipe, dPeek, dPeekT, dIxO, frzAt, dNoPart, dPart, dSl, dEqV, dNeV, q000, q001, q002, q003, q004, q005, q006, q007, q008, q009, q010, q011, q012, q013, q014, q015, q016, q017, q018, q019, q020, q021, q022, q023, q024, q025, q026, q027, q028, q029, q030, q031, q032, q033, q034, q035, q036, q037, q038, q039, q040, q041, q042, q043, q044, q045, q046, q047, q048, q049, q050, q051, q052, q053, q054, q055, List.getElem?_cons_zero, List.getElem?_cons_succ, List.set_cons_zero, List.set_cons_succ, List.cons_append, List.nil_append, List.append_nil, if_true, if_false, ite_true, ite_false, Bool.false_eq_true, decide_eq_true_eq, Bool.not_true, Bool.not_false, Bool.not_eq_true', decide_eq_false_iff_not, Bool.not_not, isi_int_int, isi_int_bool, isi_int_tuple, isi_int_str, isi_int_lt, isi_bl_int, isi_bl_bool, isi_bl_lt, isi_str_str, isi_str_lt, isi_non_lt, isi_tup_tuple, isi_lst_tuple, isi_tup_lt, isi_lst_lt, okEq_int, okEq_bl, okEq_non, okEq_ils, okEq_vec, deqv_int, deqv_bl, deqv_ils, deqv_vec, true_and, and_true, and_self, reduceCtorEq, not_true_eq_false, not_false_eq_true, false_imp_iff, true_imp_iff, forall_const]
    refine ⟨by decide, by decide, ?_⟩
    have pos_small : ∀ t, (∃ x ∈ a, 0 < x.natAbs / b ^ t) → t < 3100 := fun t ⟨x, hx, hp⟩ => pos_lt hb hp (hbig x hx)
    refine for_rng (3200 : Int).toNat (fun t δ => ∃ (k e j : DS), (∀ m, m < t → ∃ x ∈ a, 0 < x.natAbs / b ^ m) ∧ δ = [.val (ils a), .val (.int b), .val (ils (a.map sg)), .val (ils (leftAt b a t)), .own (.lst ((List.range t).map fun t => ils (rowAt b a t))), k, e, j])
      ⟨.no, .no, .no, fun m hm => absurd hm (Nat.not_lt_zero _), rfl⟩ ?_ ?_
    · rintro t δ R' ht ⟨k, e, j, hlow, rfl⟩ hR'
      simp -failIfUnchanged only [dSeqS, dSet, dSetO, dRet, dRetN, dIfS, dDrop, dNext, dBreak, dCont, dNever, dShow, dFor, dApp, dPutIx, dAsg, dOp, dUn, dTst, dTru, dAnd, dOr, dNot, dAndV, dOrV, dNotV, dIfE, dCons, dNil, dTup, dLst, dCB, dCall, dCallN, dC, dVar, dChain, dSeq, dRng1, dRng2, dZip, dComp, dYes, dgName, dgTup, dgCons, dgNil, dwipe, dPeek, dPeekT, dIxO, frzAt, dNoPart, dPart, dSl, dEqV, dNeV, q000, q001, q002, q003, q004, q005, q006, q007, q008, q009, q010, q011, q012, q013, q014, q015, q016, q017, q018, q019, q020, q021, q022, q023, q024, q025, q026, q027, q028, q029, q030, q031, q032, q033, q034, q035, q036, q037, q038, q039, q040, q041, q042, q043, q044, q045, q046, q047, q048, q049, q050, q051, q052, q053, q054, q055, List.getElem?_cons_zero, List.getElem?_cons_succ, List.set_cons_zero, List.set_cons_succ, List.cons_append, List.nil_append, List.append_nil, if_true, if_false, ite_true, ite_false, Bool.false_eq_true, decide_eq_true_eq, Bool.not_true, Bool.not_false, Bool.not_eq_true', decide_eq_false_iff_not, Bool.not_not, isi_int_int, isi_int_bool, isi_int_tuple, isi_int_str, isi_int_lt, isi_bl_int, isi_bl_bool, isi_bl_lt, isi_str_str, isi_str_lt, isi_non_lt, isi_tup_tuple, isi_lst_tuple, isi_tup_lt, isi_lst_lt, okEq_int, okEq_bl, okEq_non, okEq_ils, okEq_vec, deqv_int, deqv_bl, deqv_ils, deqv_vec, true_and, and_true, and_self, reduceCtorEq, not_true_eq_false, not_false_eq_true, false_imp_iff, true_imp_iff, forall_const]
      refine ⟨leftAt b a t, rfl, by simpa [leftAt, List.length_pos_iff] using hne, fun mx hm hle => ?_⟩
      have l0 : ∀ x ∈ leftAt b a t, 0 ≤ x := fun x hx => by
        obtain ⟨y, _, rfl⟩ := List.mem_map.mp hx
        exact Int.natCast_nonneg _
      have top := int_max hm l0 hle
      by_cases h0 : mx = 0
      · rw [if_pos h0]
        have tn : isN b a t := ⟨fun x hx => by
          have := top.mp h0 _ (List.mem_map_of_mem (f := fun x : Int => ((x.natAbs / b ^ t : Nat) : Int)) hx)
          omega, hlow⟩
        refine hR _ ⟨t, _, _, _, ?_, tn, rfl⟩
        cases t with
        | zero => omega
        | succ t => have := pos_small t (hlow t (Nat.lt_succ_self t)); omega
      · rw [if_neg h0]
        have some_pos : ∃ x ∈ a, 0 < x.natAbs / b ^ t := by
          obtain ⟨y, hy, rfl⟩ := List.mem_map.mp hm
          exact ⟨y, hy, Nat.pos_of_ne_zero fun z => h0 (by rw [z]; rfl)⟩
        have ht3 := pos_small t some_pos
        have ln : (leftAt b a t).length = a.length := by simp [leftAt]
        rw [List.length_map, Int.toNat_natCast]
        refine ⟨by omega, by omega, by rw [rngD_len, sizeLine_eq]; omega, ?_⟩
        refine comp_rng _ (fun j => .int ((sg (a.getD j 0)) * ((leftAt b a t).getD j 0 % (b : Int)))) (fun i hi R hR => ?_) ?_
        · simp -failIfUnchanged only [dSeqS, dSet, dSetO, dRet, dRetN, dIfS, dDrop, dNext, dBreak, dCont, dNever, dShow, dFor, dApp, dPutIx, dAsg, dOp, dUn, dTst, dTru, dAnd, dOr, dNot, dAndV, dOrV, dNotV, dIfE, dCons, dNil, dTup, dLst, dCB, dCall, dCallN, dC, dVar, dChain, dSeq, dRng1, dRng2, dZip, dComp, dYes, dgName, dgTup, dgCons, dgNil, dwipe, dPeek, dPeekT, dIxO, frzAt, dNoPart, dPart, dSl, dEqV, dNeV, q000, q001, q002, q003, q004, q005, q006, q007, q008, q009, q010, q011, q012, q013, q014, q015, q016, q017, q018, q019, q020, q021, q022, q023, q024, q025, q026, q027, q028, q029, q030, q031, q032, q033, q034, q035, q036, q037, q038, q039, q040, q041, q042, q043, q044, q045, q046, q047, q048, q049, q050, q051, q052, q053, q054, q055, List.getElem?_cons_zero, List.getElem?_cons_succ, List.set_cons_zero, List.set_cons_succ, List.cons_append, List.nil_append, List.append_nil, if_true, if_false, ite_true, ite_false, Bool.false_eq_true, decide_eq_true_eq, Bool.not_true, Bool.not_false, Bool.not_eq_true', decide_eq_false_iff_not, Bool.not_not, isi_int_int, isi_int_bool, isi_int_tuple, isi_int_str, isi_int_lt, isi_bl_int, isi_bl_bool, isi_bl_lt, isi_str_str, isi_str_lt, isi_non_lt, isi_tup_tuple, isi_lst_tuple, isi_tup_lt, isi_lst_lt, okEq_int, okEq_bl, okEq_non, okEq_ils, okEq_vec, deqv_int, deqv_bl, deqv_ils, deqv_vec, true_and, and_true, and_self, reduceCtorEq, not_true_eq_false, not_false_eq_true, false_imp_iff, true_imp_iff, forall_const]
          refine ⟨.int (sg (a.getD i 0)), ?_, .int ((leftAt b a t).getD i 0), atI_map_nat D.int (by omega), ?_⟩
          · rw [atI_map_nat D.int (xs := a.map sg) (d := 0) (by simpa using hi)]
            simp [List.getD_eq_getElem?_getD, hi]
          simp -failIfUnchanged only [dSeqS, dSet, dSetO, dRet, dRetN, dIfS, dDrop, dNext, dBreak, dCont, dNever, dShow, dFor, dApp, dPutIx, dAsg, dOp, dUn, dTst, dTru, dAnd, dOr, dNot, dAndV, dOrV, dNotV, dIfE, dCons, dNil, dTup, dLst, dCB, dCall, dCallN, dC, dVar, dChain, dSeq, dRng1, dRng2, dZip, dComp, dYes, dgName, dgTup, dgCons, dgNil, dwipe, dPeek, dPeekT, dIxO, frzAt, dNoPart, dPart, dSl, dEqV, dNeV, q000, q001, q002, q003, q004, q005, q006, q007, q008, q009, q010, q011, q012, q013, q014, q015, q016, q017, q018, q019, q020, q021, q022, q023, q024, q025, q026, q027, q028, q029, q030, q031, q032, q033, q034, q035, q036, q037, q038, q039, q040, q041, q042, q043, q044, q045, q046, q047, q048, q049, q050, q051, q052, q053, q054, q055, List.getElem?_cons_zero, List.getElem?_cons_succ, List.set_cons_zero, List.set_cons_succ, List.cons_append, List.nil_append, List.append_nil, if_true, if_false, ite_true, ite_false, Bool.false_eq_true, decide_eq_true_eq, Bool.not_true, Bool.not_false, Bool.not_eq_true', decide_eq_false_iff_not, Bool.not_not, isi_int_int, isi_int_bool, isi_int_tuple, isi_int_str, isi_int_lt, isi_bl_int, isi_bl_bool, isi_bl_lt, isi_str_str, isi_str_lt, isi_non_lt, isi_tup_tuple, isi_lst_tuple, isi_tup_lt, isi_lst_lt, okEq_int, okEq_bl, okEq_non, okEq_ils, okEq_vec, deqv_int, deqv_bl, deqv_ils, deqv_vec, true_and, and_true, and_self, reduceCtorEq, not_true_eq_false, not_false_eq_true, false_imp_iff, true_imp_iff, forall_const]
          exact ⟨by omega, mul_l (sg_small _).1 (sg_small _).2, hR⟩
        rw [show (List.range a.length).map (fun j => D.int ((sg (a.getD j 0)) * ((leftAt b a t).getD j 0 % (b : Int)))) = (rowAt b a t).map .int by rw [← row_rng, List.map_map]; rfl]
        refine ⟨by rw [List.length_map, List.length_range, sizeLine_eq]; omega, by omega, by omega, by rw [rngD_len, sizeLine_eq]; omega, ?_⟩
        refine comp_rng _ (fun j => .int ((leftAt b a t).getD j 0 / (b : Int))) (fun i hi R hR => ?_) ?_
        · simp -failIfUnchanged only [dSeqS, dSet, dSetO, dRet, dRetN, dIfS, dDrop, dNext, dBreak, dCont, dNever, dShow, dFor, dApp, dPutIx, dAsg, dOp, dUn, dTst, dTru, dAnd, dOr, dNot, dAndV, dOrV, dNotV, dIfE, dCons, dNil, dTup, dLst, dCB, dCall, dCallN, dC, dVar, dChain, dSeq, dRng1, dRng2, dZip, dComp, dYes, dgName, dgTup, dgCons, dgNil, dwipe, dPeek, dPeekT, dIxO, frzAt, dNoPart, dPart, dSl, dEqV, dNeV, q000, q001, q002, q003, q004, q005, q006, q007, q008, q009, q010, q011, q012, q013, q014, q015, q016, q017, q018, q019, q020, q021, q022, q023, q024, q025, q026, q027, q028, q029, q030, q031, q032, q033, q034, q035, q036, q037, q038, q039, q040, q041, q042, q043, q044, q045, q046, q047, q048, q049, q050, q051, q052, q053, q054, q055, List.getElem?_cons_zero, List.getElem?_cons_succ, List.set_cons_zero, List.set_cons_succ, List.cons_append, List.nil_append, List.append_nil, if_true, if_false, ite_true, ite_false, Bool.false_eq_true, decide_eq_true_eq, Bool.not_true, Bool.not_false, Bool.not_eq_true', decide_eq_false_iff_not, Bool.not_not, isi_int_int, isi_int_bool, isi_int_tuple, isi_int_str, isi_int_lt, isi_bl_int, isi_bl_bool, isi_bl_lt, isi_str_str, isi_str_lt, isi_non_lt, isi_tup_tuple, isi_lst_tuple, isi_tup_lt, isi_lst_lt, okEq_int, okEq_bl, okEq_non, okEq_ils, okEq_vec, deqv_int, deqv_bl, deqv_ils, deqv_vec, true_and, and_true, and_self, reduceCtorEq, not_true_eq_false, not_false_eq_true, false_imp_iff, true_imp_iff, forall_const]
          refine ⟨.int ((leftAt b a t).getD i 0), atI_map_nat D.int (by omega), ?_⟩
          simp -failIfUnchanged only [dSeqS, dSet, dSetO, dRet, dRetN, dIfS, dDrop, dNext, dBreak, dCont, dNever, dShow, dFor, dApp, dPutIx, dAsg, dOp, dUn, dTst, dTru, dAnd, dOr, dNot, dAndV, dOrV, dNotV, dIfE, dCons, dNil, dTup, dLst, dCB, dCall, dCallN, dC, dVar, dChain, dSeq, dRng1, dRng2, dZip, dComp, dYes, dgName, dgTup, dgCons, dgNil, dwipe, dPeek, dPeekT, dIxO, frzAt, dNoPart, dPart, dSl, dEqV, dNeV, q000, q001, q002, q003, q004, q005, q006, q007, q008, q009, q010, q011, q012, q013, q014, q015, q016, q017, q018, q019, q020, q021, q022, q023, q024, q025, q026, q027, q028, q029, q030, q031, q032, q033, q034, q035, q036, q037, q038, q039, q040, q041, q042, q043, q044, q045, q046, q047, q048, q049, q050, q051, q052, q053, q054, q055, List.getElem?_cons_zero, List.getElem?_cons_succ, List.set_cons_zero, List.set_cons_succ, List.cons_append, List.nil_append, List.append_nil, if_true, if_false, ite_true, ite_false, Bool.false_eq_true, decide_eq_true_eq, Bool.not_true, Bool.not_false, Bool.not_eq_true', decide_eq_false_iff_not, Bool.not_not, isi_int_int, isi_int_bool, isi_int_tuple, isi_int_str, isi_int_lt, isi_bl_int, isi_bl_bool, isi_bl_lt, isi_str_str, isi_str_lt, isi_non_lt, isi_tup_tuple, isi_lst_tuple, isi_tup_lt, isi_lst_lt, okEq_int, okEq_bl, okEq_non, okEq_ils, okEq_vec, deqv_int, deqv_bl, deqv_ils, deqv_vec, true_and, and_true, and_self, reduceCtorEq, not_true_eq_false, not_false_eq_true, false_imp_iff, true_imp_iff, forall_const]
          exact ⟨hd, hR⟩
        rw [show (List.range a.length).map (fun j => D.int ((leftAt b a t).getD j 0 / (b : Int))) = (leftAt b a (t + 1)).map .int by rw [← left_rng, List.map_map]; rfl]
        refine hR' _ ⟨.val (.int (t : Nat)), e, j, fun m hm => ?_, ?_⟩
        · by_cases z : m < t
          · exact hlow m z
          · have : m = t := by omega
            subst this
            exact some_pos
        · rw [List.range_succ, List.map_append]
          rfl
    · rintro δ ⟨k, e, j, hlow, rfl⟩
      have := pos_small 3199 (hlow 3199 (by decide))
      omega
  rintro _ ⟨n, k, e, j, hn, tn, rfl⟩
  simp -failIfUnchanged only [dSeqS, dSet, dSetO, dRet, dRetN, dIfS, dDrop, dNext, dBreak, dCont, dNever, dShow, dFor, dApp, dPutIx, dAsg, dOp, dUn, dTst, dTru, dAnd, dOr, dNot, dAndV, dOrV, dNotV, dIfE, dCons, dNil, dTup, dLst, dCB, dCall, dCallN, dC, dVar, dChain, dSeq, dRng1, dRng2, dZip, dComp, dYes, dgName, dgTup, dgCons, dgNil, dwipe, dPeek, dPeekT, dIxO, frzAt, dNoPart, dPart, dSl, dEqV, dNeV, q000, q001, q002, q003, q004, q005, q006, q007, q008, q009, q010, q011, q012, q013, q014, q015, q016, q017, q018, q019, q020, q021, q022, q023, q024, q025, q026, q027, q028, q029, q030, q031, q032, q033, q034, q035, q036, q037, q038, q039, q040, q041, q042, q043, q044, q045, q046, q047, q048, q049, q050, q051, q052, q053, q054, q055, List.getElem?_cons_zero, List.getElem?_cons_succ, List.set_cons_zero, List.set_cons_succ, List.cons_append, List.nil_append, List.append_nil, if_true, if_false, ite_true, ite_false, Bool.false_eq_true, decide_eq_true_eq, Bool.not_true, Bool.not_false, Bool.not_eq_true', decide_eq_false_iff_not, Bool.not_not, isi_int_int, isi_int_bool, isi_int_tuple, isi_int_str, isi_int_lt, isi_bl_int, isi_bl_bool, isi_bl_lt, isi_str_str, isi_str_lt, isi_non_lt, isi_tup_tuple, isi_lst_tuple, isi_tup_lt, isi_lst_lt, okEq_int, okEq_bl, okEq_non, okEq_ils, okEq_vec, deqv_int, deqv_bl, deqv_ils, deqv_vec, true_and, and_true, and_self, reduceCtorEq, not_true_eq_false, not_false_eq_true, false_imp_iff, true_imp_iff, forall_const]
  rw [figs_revL]
  exact hq n hn tn

/-! totals -/
def F__law_total : FD := fun ds Q _ => ∃ (rows : List (List Int)) (w b : Int), ds = [.lst (rows.map ils), .int w, .int b] ∧ 1 ≤ w ∧ w ≤ 1000 ∧ 2 ≤ b ∧ b ≤ 8 ∧ (∀ r ∈ rows, r.length = w.toNat ∧ ∀ x ∈ r, -7 ≤ x ∧ x ≤ 7) ∧ Q (ils (orderOf b w.toNat rows))
def g__law_total : DSt := (dSeqS (dSet 3 (dOp dMulV (dLst (dCons (dC (.int 0)) dNil)) (dVar 1)))
    (dSeqS (dSet 4 (dC (.int 1)))
    (dSeqS (dFor (dSeq (dUn dRevV (dVar 0))) (dgName 5) (dSeqS (dSet 3 (dComp (dRng1 (dCons (dVar 1) dNil)) false (dgName 6) dYes (dOp dAddV (dOp dIxV (dVar 3) (dVar 6)) (dOp dMulV (dVar 4) (dOp dIxV (dVar 5) (dVar 6)))) [6]))
    (dSet 4 (dOp dMulV (dVar 4) (dVar 2)))))
    (dRet (dVar 3)))))
theorem ord_len {b : Int} {w : Nat} : ∀ {rows : List (List Int)} {t : List Int}, t.length = w → (∀ r ∈ rows, r.length = w) → (rows.foldl (ordStep b) t).length = w
  | [], t, h, _ => h
  | r :: rows, t, h, hr => by
    rw [List.foldl_cons]
    refine ord_len ?_ fun r hr' => hr r (List.mem_cons_of_mem _ hr')
    have := hr r List.mem_cons_self
    simp [ordStep, vadd, vmul, h, this]
theorem vadd_get {a b : List Int} {i : Nat} (h1 : i < a.length) (h2 : i < b.length) : (vadd a b).getD i 0 = a.getD i 0 + b.getD i 0 := by
  simp [vadd, List.getD_eq_getElem?_getD, List.getElem?_zipWith, h1, h2]
theorem vmul_get {n : Int} {a : List Int} {i : Nat} (h1 : i < a.length) : (vmul n a).getD i 0 = n * a.getD i 0 := by
  simp [vmul, List.getD_eq_getElem?_getD, h1]
/-- the fold's start, by its places -/
theorem ord_from {b : Int} {w i : Nat} (hi : i < w) : ∀ {rows : List (List Int)} {t : List Int}, t.length = w → (∀ r ∈ rows, r.length = w) →
    (rows.foldl (ordStep b) t).getD i 0 = b ^ rows.length * t.getD i 0 + (rows.foldl (ordStep b) (List.replicate w 0)).getD i 0
  | [], t, h, _ => by simp [List.getD_eq_getElem?_getD, hi]
  | r :: rows, t, h, hr => by
    have hr0 := hr r List.mem_cons_self
    have hrs : ∀ r ∈ rows, r.length = w := fun r hr' => hr r (List.mem_cons_of_mem _ hr')
    have l1 : (ordStep b t r).length = w := by simp [ordStep, vadd, vmul, h, hr0]
    have l2 : (ordStep b (List.replicate w 0) r).length = w := by simp [ordStep, vadd, vmul, hr0]
    rw [List.foldl_cons, List.foldl_cons, ord_from hi l1 hrs, ord_from hi l2 hrs]
    have e1 : (ordStep b t r).getD i 0 = b * t.getD i 0 + r.getD i 0 := by
      unfold ordStep
      rw [vadd_get (by simp [vmul, h, hi]) (by omega), vmul_get (by omega)]
    have e2 : (ordStep b (List.replicate w 0) r).getD i 0 = r.getD i 0 := by
      unfold ordStep
      rw [vadd_get (by simp [vmul, hi]) (by omega), vmul_get (by simp [hi])]
      simp [List.getD_eq_getElem?_getD, hi]
    rw [e1, e2, List.length_cons, Int.pow_succ, Int.mul_add]
    have : b ^ rows.length * (b * t.getD i 0) = b ^ rows.length * b * t.getD i 0 := (Int.mul_assoc ..).symm
    omega
theorem ext_getD {a b : List Int} (hl : a.length = b.length) (h : ∀ i, i < a.length → a.getD i 0 = b.getD i 0) : a = b := by
  refine List.ext_getElem hl fun i h1 h2 => ?_
  have := h i h1
  simpa [List.getD_eq_getElem?_getD, h1, h2] using this
theorem ord_cons {b : Int} {w : Nat} {r : List Int} {rows : List (List Int)} (hr : r.length = w) (hrs : ∀ r ∈ rows, r.length = w) : orderOf b w (r :: rows) = vadd (orderOf b w rows) (vmul (b ^ rows.length) r) := by
  have l0 : (orderOf b w rows).length = w := ord_len (by simp) hrs
  have l1 : (ordStep b (List.replicate w 0) r).length = w := by simp [ordStep, vadd, vmul, hr]
  have l2 : (orderOf b w (r :: rows)).length = w := ord_len (by simp) (by
    intro x hx
    rcases List.mem_cons.mp hx with rfl | hx
    · exact hr
    · exact hrs x hx)
  refine ext_getD (by rw [l2]; simp [vadd, vmul, l0, hr]) fun i hi => ?_
  rw [l2] at hi
  show ((r :: rows).foldl (ordStep b) (List.replicate w 0)).getD i 0 = _
  rw [List.foldl_cons, ord_from hi l1 hrs, vadd_get (by omega) (by simp [vmul]; omega), vmul_get (by omega)]
  have e2 : (ordStep b (List.replicate w 0) r).getD i 0 = r.getD i 0 := by
    unfold ordStep
    rw [vadd_get (by simp [vmul, hi]) (by omega), vmul_get (by simp [hi])]
    simp [List.getD_eq_getElem?_getD, hi]
  rw [e2]
  show _ = (orderOf b w rows).getD i 0 + _
  unfold orderOf
  omega
theorem vadd_rng {a r : List Int} {p : Int} {w : Nat} (ha : a.length = w) (hr : r.length = w) : (List.range w).map (fun j => a.getD j 0 + p * r.getD j 0) = vadd a (vmul p r) := by
  refine ext_getD (by simp [vadd, vmul, ha, hr]) fun i hi => ?_
  have hi : i < w := by simpa using hi
  rw [vadd_get (by omega) (by simp [vmul]; omega), vmul_get (by omega)]
  simp [List.getD_eq_getElem?_getD, hi]
theorem does__law_total : Does ["rows", "width", "root", "total", "power", "row", "j"] ["rows", "width", "root"] F__law_total g__law_total := by
  rintro ds Q Xd ⟨rows, w, b, rfl, hw1, hw2, hb, hb8, hr, hq⟩
  refine ⟨rfl, ?_⟩
  show g__law_total _ [.val _, .val _, .val _, .no, .no, .no, .no]
  simp -failIfUnchanged only [dSeqS, dSet, dSetO, dRet, dRetN, dIfS, dDrop, dNext, dBreak, dCont, dNever, dShow, dFor, dApp, dPutIx, dAsg, dOp, dUn, dTst, dTru, dAnd, dOr, dNot, dAndV, dOrV, dNotV, dIfE, dCons, dNil, dTup, dLst, dCB, dCall, dCallN, dC, dVar, dChain, dSeq, dRng1, dRng2, dZip, dComp, dYes, dgName, dgTup, dgCons, dgNil, dwipe, dPeek, dPeekT, dIxO, frzAt, dNoPart, dPart, dSl, dEqV, dNeV, q000, q001, q002, q003, q004, q005, q006, q007, q008, q009, q010, q011, q012, q013, q014, q015, q016, q017, q018, q019, q020, q021, q022, q023, q024, q025, q026, q027, q028, q029, q030, q031, q032, q033, q034, q035, q036, q037, q038, q039, q040, q041, q042, q043, q044, q045, q046, q047, q048, q049, q050, q051, q052, q053, q054, q055, List.getElem?_cons_zero, List.getElem?_cons_succ, List.set_cons_zero, List.set_cons_succ, List.cons_append, List.nil_append, List.append_nil, if_true, if_false, ite_true, ite_false, Bool.false_eq_true, decide_eq_true_eq, Bool.not_true, Bool.not_false, Bool.not_eq_true', decide_eq_false_iff_not, Bool.not_not, isi_int_int, isi_int_bool, isi_int_tuple, isi_int_str, isi_int_lt, isi_bl_int, isi_bl_bool, isi_bl_lt, isi_str_str, isi_str_lt, isi_non_lt, isi_tup_tuple, isi_lst_tuple, isi_tup_lt, isi_lst_lt, okEq_int, okEq_bl, okEq_non, okEq_ils, okEq_vec, deqv_int, deqv_bl, deqv_ils, deqv_vec, true_and, and_true, and_self, reduceCtorEq, not_true_eq_false, not_false_eq_true, false_imp_iff, true_imp_iff, forall_const, g__law_total]
  refine ⟨by decide, by omega, by omega, by rw [sizeLine_eq]; show 1 * w.toNat ≤ _; omega, ?_⟩
  rw [flat_rep, ← List.map_reverse]
  refine for_inv _ (fun i δ => ∃ (r j : DS), δ = [.val (.lst (rows.map ils)), .val (.int w), .val (.int b), .val (ils (orderOf b w.toNat (rows.drop (rows.length - i)))), .val (.int (b ^ i)), r, j]) ⟨.no, .no, ?_⟩ ?_ ?_
  · rw [Nat.sub_zero, List.drop_length, Int.pow_zero]
    rfl
  · rintro i d δ R hi ⟨r, j, rfl⟩ hR
    obtain ⟨row, hrow, rfl⟩ := map_get hi
    have hil : i < rows.length := by
      have := (List.getElem?_eq_some_iff.mp hrow).1
      simpa using this
    have hrow' : rows[rows.length - 1 - i]? = some row := by rw [List.getElem?_reverse hil] at hrow; exact hrow
    have hin := List.mem_of_getElem? hrow'
    obtain ⟨rl, rb⟩ := hr row hin
    have hrs : ∀ r ∈ rows.drop (rows.length - i), r.length = w.toNat := fun r h => (hr r (List.mem_of_mem_drop h)).1
    have ol : (orderOf b w.toNat (rows.drop (rows.length - i))).length = w.toNat := ord_len (by simp) hrs
    simp -failIfUnchanged only [dSeqS, dSet, dSetO, dRet, dRetN, dIfS, dDrop, dNext, dBreak, dCont, dNever, dShow, dFor, dApp, dPutIx, dAsg, dOp, dUn, dTst, dTru, dAnd, dOr, dNot, dAndV, dOrV, dNotV, dIfE, dCons, dNil, dTup, dLst, dCB, dCall, dCallN, dC, dVar, dChain, dSeq, dRng1, dRng2, dZip, dComp, dYes, dgName, dgTup, dgCons, dgNil, dwipe, dPeek, dPeekT, dIxO, frzAt, dNoPart, dPart, dSl, dEqV, dNeV, q000, q001, q002, q003, q004, q005, q006, q007, q008, q009, q010, q011, q012, q013, q014, q015, q016, q017, q018, q019, q020, q021, q022, q023, q024, q025, q026, q027, q028, q029, q030, q031, q032, q033, q034, q035, q036, q037, q038, q039, q040, q041, q042, q043, q044, q045, q046, q047, q048, q049, q050, q051, q052, q053, q054, q055, List.getElem?_cons_zero, List.getElem?_cons_succ, List.set_cons_zero, List.set_cons_succ, List.cons_append, List.nil_append, List.append_nil, if_true, if_false, ite_true, ite_false, Bool.false_eq_true, decide_eq_true_eq, Bool.not_true, Bool.not_false, Bool.not_eq_true', decide_eq_false_iff_not, Bool.not_not, isi_int_int, isi_int_bool, isi_int_tuple, isi_int_str, isi_int_lt, isi_bl_int, isi_bl_bool, isi_bl_lt, isi_str_str, isi_str_lt, isi_non_lt, isi_tup_tuple, isi_lst_tuple, isi_tup_lt, isi_lst_lt, okEq_int, okEq_bl, okEq_non, okEq_ils, okEq_vec, deqv_int, deqv_bl, deqv_ils, deqv_vec, true_and, and_true, and_self, reduceCtorEq, not_true_eq_false, not_false_eq_true, false_imp_iff, true_imp_iff, forall_const]
    refine ⟨by omega, by omega, by rw [rngD_len, sizeLine_eq]; omega, ?_⟩
    refine comp_rng _ (fun j => .int ((orderOf b w.toNat (rows.drop (rows.length - i))).getD j 0 + b ^ i * row.getD j 0)) (fun k hk R hR => ?_) ?_
    · simp -failIfUnchanged only [dSeqS, dSet, dSetO, dRet, dRetN, dIfS, dDrop, dNext, dBreak, dCont, dNever, dShow, dFor, dApp, dPutIx, dAsg, dOp, dUn, dTst, dTru, dAnd, dOr, dNot, dAndV, dOrV, dNotV, dIfE, dCons, dNil, dTup, dLst, dCB, dCall, dCallN, dC, dVar, dChain, dSeq, dRng1, dRng2, dZip, dComp, dYes, dgName, dgTup, dgCons, dgNil, dwipe, dPeek, dPeekT, dIxO, frzAt, dNoPart, dPart, dSl, dEqV, dNeV, q000, q001, q002, q003, q004, q005, q006, q007, q008, q009, q010, q011, q012, q013, q014, q015, q016, q017, q018, q019, q020, q021, q022, q023, q024, q025, q026, q027, q028, q029, q030, q031, q032, q033, q034, q035, q036, q037, q038, q039, q040, q041, q042, q043, q044, q045, q046, q047, q048, q049, q050, q051, q052, q053, q054, q055, List.getElem?_cons_zero, List.getElem?_cons_succ, List.set_cons_zero, List.set_cons_succ, List.cons_append, List.nil_append, List.append_nil, if_true, if_false, ite_true, ite_false, Bool.false_eq_true, decide_eq_true_eq, Bool.not_true, Bool.not_false, Bool.not_eq_true', decide_eq_false_iff_not, Bool.not_not, isi_int_int, isi_int_bool, isi_int_tuple, isi_int_str, isi_int_lt, isi_bl_int, isi_bl_bool, isi_bl_lt, isi_str_str, isi_str_lt, isi_non_lt, isi_tup_tuple, isi_lst_tuple, isi_tup_lt, isi_lst_lt, okEq_int, okEq_bl, okEq_non, okEq_ils, okEq_vec, deqv_int, deqv_bl, deqv_ils, deqv_vec, true_and, and_true, and_self, reduceCtorEq, not_true_eq_false, not_false_eq_true, false_imp_iff, true_imp_iff, forall_const]
      refine ⟨_, atI_map_nat D.int (d := 0) (by omega), _, atI_map_nat D.int (d := 0) (by omega), ?_⟩
      simp -failIfUnchanged only [dSeqS, dSet, dSetO, dRet, dRetN, dIfS, dDrop, dNext, dBreak, dCont, dNever, dShow, dFor, dApp, dPutIx, dAsg, dOp, dUn, dTst, dTru, dAnd, dOr, dNot, dAndV, dOrV, dNotV, dIfE, dCons, dNil, dTup, dLst, dCB, dCall, dCallN, dC, dVar, dChain, dSeq, dRng1, dRng2, dZip, dComp, dYes, dgName, dgTup, dgCons, dgNil, dwipe, dPeek, dPeekT, dIxO, frzAt, dNoPart, dPart, dSl, dEqV, dNeV, q000, q001, q002, q003, q004, q005, q006, q007, q008, q009, q010, q011, q012, q013, q014, q015, q016, q017, q018, q019, q020, q021, q022, q023, q024, q025, q026, q027, q028, q029, q030, q031, q032, q033, q034, q035, q036, q037, q038, q039, q040, q041, q042, q043, q044, q045, q046, q047, q048, q049, q050, q051, q052, q053, q054, q055, List.getElem?_cons_zero, List.getElem?_cons_succ, List.set_cons_zero, List.set_cons_succ, List.cons_append, List.nil_append, List.append_nil, if_true, if_false, ite_true, ite_false, Bool.false_eq_true, decide_eq_true_eq, Bool.not_true, Bool.not_false, Bool.not_eq_true', decide_eq_false_iff_not, Bool.not_not, isi_int_int, isi_int_bool, isi_int_tuple, isi_int_str, isi_int_lt, isi_bl_int, isi_bl_bool, isi_bl_lt, isi_str_str, isi_str_lt, isi_non_lt, isi_tup_tuple, isi_lst_tuple, isi_tup_lt, isi_lst_lt, okEq_int, okEq_bl, okEq_non, okEq_ils, okEq_vec, deqv_int, deqv_bl, deqv_ils, deqv_vec, true_and, and_true, and_self, reduceCtorEq, not_true_eq_false, not_false_eq_true, false_imp_iff, true_imp_iff, forall_const]
      have : row.getD k 0 ∈ row := by
        have hk' : k < row.length := by omega
        simp [List.getD_eq_getElem?_getD, hk']
      obtain ⟨z0, z1⟩ := rb _ this
      exact ⟨mul_r (by omega) (by omega), hR⟩
    refine ⟨mul_r (by omega) (by omega), hR _ ⟨.val (ils row), j, ?_⟩⟩
    have e1 : rows.drop (rows.length - (i + 1)) = row :: rows.drop (rows.length - i) := by
      have h1 : rows.length - (i + 1) < rows.length := by omega
      rw [List.drop_eq_getElem_cons h1]
      have h2 : rows.length - 1 - i = rows.length - (i + 1) := by omega
      rw [h2] at hrow'
      have h3 := (List.getElem?_eq_some_iff.mp hrow').2
      rw [h3]
      have h4 : rows.length - (i + 1) + 1 = rows.length - i := by omega
      rw [h4]
    rw [e1, ord_cons rl hrs, ← vadd_rng ol rl, List.length_drop, show rows.length - (rows.length - i) = i by omega, ← Int.pow_succ]
    simp only [ils, List.map_map]
    rfl
  · rintro δ ⟨r, j, rfl⟩
    simp -failIfUnchanged only [dSeqS, dSet, dSetO, dRet, dRetN, dIfS, dDrop, dNext, dBreak, dCont, dNever, dShow, dFor, dApp, dPutIx, dAsg, dOp, dUn, dTst, dTru, dAnd, dOr, dNot, dAndV, dOrV, dNotV, dIfE, dCons, dNil, dTup, dLst, dCB, dCall, dCallN, dC, dVar, dChain, dSeq, dRng1, dRng2, dZip, dComp, dYes, dgName, dgTup, dgCons, dgNil, dwipe, dPeek, dPeekT, dIxO, frzAt, dNoPart, dPart, dSl, dEqV, dNeV, q000, q001, q002, q003, q004, q005, q006, q007, q008, q009, q010, q011, q012, q013, q014, q015, q016, q017, q018, q019, q020, q021, q022, q023, q024, q025, q026, q027, q028, q029, q030, q031, q032, q033, q034, q035, q036, q037, q038, q039, q040, q041, q042, q043, q044, q045, q046, q047, q048, q049, q050, q051, q052, q053, q054, q055, List.getElem?_cons_zero, List.getElem?_cons_succ, List.set_cons_zero, List.set_cons_succ, List.cons_append, List.nil_append, List.append_nil, if_true, if_false, ite_true, ite_false, Bool.false_eq_true, decide_eq_true_eq, Bool.not_true, Bool.not_false, Bool.not_eq_true', decide_eq_false_iff_not, Bool.not_not, isi_int_int, isi_int_bool, isi_int_tuple, isi_int_str, isi_int_lt, isi_bl_int, isi_bl_bool, isi_bl_lt, isi_str_str, isi_str_lt, isi_non_lt, isi_tup_tuple, isi_lst_tuple, isi_tup_lt, isi_lst_lt, okEq_int, okEq_bl, okEq_non, okEq_ils, okEq_vec, deqv_int, deqv_bl, deqv_ils, deqv_vec, true_and, and_true, and_self, reduceCtorEq, not_true_eq_false, not_false_eq_true, false_imp_iff, true_imp_iff, forall_const]
    rw [List.length_map, List.length_reverse, Nat.sub_self, List.drop_zero]
    exact hq

/-! comparisons -/
def F__law_same : FD := fun ds Q _ => ∃ (a : List Int) (y : D), ds = [vec a, y] ∧ isV y a ∧ a.length < 2 ^ 60 ∧ Q (.bl true)
def g__law_same : DSt := (dSeqS (dIfS (dOr (dNot (dTru (dCB dIsiV (dCons (dVar 0) (dCons (dC (.val (.ty "tuple"))) dNil))))) (dTst (dOp dNeV (dCB dLenV (dCons (dVar 0) dNil)) (dCB dLenV (dCons (dVar 1) dNil))))) (dRet (dC (.bl false))) dNext)
    (dSeqS (dFor (dRng1 (dCons (dCB dLenV (dCons (dVar 1) dNil)) dNil)) (dgName 2) (dIfS (dOr (dNot (dTru (dCall F__law_whole [] (dCons (dOp dIxV (dVar 0) (dVar 2)) dNil)))) (dTst (dOp dNeV (dOp dIxV (dVar 0) (dVar 2)) (dOp dIxV (dVar 1) (dVar 2))))) (dRet (dC (.bl false))) dNext))
    (dRet (dC (.bl true)))))
theorem isV.at {y : D} {a : List Int} {i : Nat} {Q : DP} (h : isV y a) (hi : i < a.length) (hq : Q (.int (a.getD i 0))) : dIxV y (.int (i : Nat)) Q := by
  rcases h.cases with rfl | rfl | rfl <;> exact ⟨_, atI_map_nat D.int hi, hq⟩
theorem does__law_same : Does ["told", "due", "j"] ["told", "due"] F__law_same g__law_same := by
  rintro ds Q Xd ⟨a, y, rfl, hy, hl, hq⟩
  refine ⟨rfl, ?_⟩
  show g__law_same _ [.val _, .val _, .no]
  simp -failIfUnchanged only [dSeqS, dSet, dSetO, dRet, dRetN, dIfS, dDrop, dNext, dBreak, dCont, dNever, dShow, dFor, dApp, dPutIx, dAsg, dOp, dUn, dTst, dTru, dAnd, dOr, dNot, dAndV, dOrV, dNotV, dIfE, dCons, dNil, dTup, dLst, dCB, dCall, dCallN, dC, dVar, dChain, dSeq, dRng1, dRng2, dZip, dComp, dYes, dgName, dgTup, dgCons, dgNil, dwipe, dPeek, dPeekT, dIxO, frzAt, dNoPart, dPart, dSl, dEqV, dNeV, q000, q001, q002, q003, q004, q005, q006, q007, q008, q009, q010, q011, q012, q013, q014, q015, q016, q017, q018, q019, q020, q021, q022, q023, q024, q025, q026, q027, q028, q029, q030, q031, q032, q033, q034, q035, q036, q037, q038, q039, q040, q041, q042, q043, q044, q045, q046, q047, q048, q049, q050, q051, q052, q053, q054, q055, List.getElem?_cons_zero, List.getElem?_cons_succ, List.set_cons_zero, List.set_cons_succ, List.cons_append, List.nil_append, List.append_nil, if_true, if_false, ite_true, ite_false, Bool.false_eq_true, decide_eq_true_eq, Bool.not_true, Bool.not_false, Bool.not_eq_true', decide_eq_false_iff_not, Bool.not_not, isi_int_int, isi_int_bool, isi_int_tuple, isi_int_str, isi_int_lt, isi_bl_int, isi_bl_bool, isi_bl_lt, isi_str_str, isi_str_lt, isi_non_lt, isi_tup_tuple, isi_lst_tuple, isi_tup_lt, isi_lst_lt, okEq_int, okEq_bl, okEq_non, okEq_ils, okEq_vec, deqv_int, deqv_bl, deqv_ils, deqv_vec, true_and, and_true, and_self, reduceCtorEq, not_true_eq_false, not_false_eq_true, false_imp_iff, true_imp_iff, forall_const, g__law_same, hy.len, List.length_map]
  refine ⟨by omega, by omega, ?_⟩
  rw [Int.toNat_natCast]
  refine for_rng _ (fun i δ => ∃ j : DS, δ = [.val (vec a), .val y, j]) ⟨.no, rfl⟩ ?_ ?_
  · rintro i δ R hi ⟨j, rfl⟩ hR
    simp -failIfUnchanged only [dSeqS, dSet, dSetO, dRet, dRetN, dIfS, dDrop, dNext, dBreak, dCont, dNever, dShow, dFor, dApp, dPutIx, dAsg, dOp, dUn, dTst, dTru, dAnd, dOr, dNot, dAndV, dOrV, dNotV, dIfE, dCons, dNil, dTup, dLst, dCB, dCall, dCallN, dC, dVar, dChain, dSeq, dRng1, dRng2, dZip, dComp, dYes, dgName, dgTup, dgCons, dgNil, dwipe, dPeek, dPeekT, dIxO, frzAt, dNoPart, dPart, dSl, dEqV, dNeV, q000, q001, q002, q003, q004, q005, q006, q007, q008, q009, q010, q011, q012, q013, q014, q015, q016, q017, q018, q019, q020, q021, q022, q023, q024, q025, q026, q027, q028, q029, q030, q031, q032, q033, q034, q035, q036, q037, q038, q039, q040, q041, q042, q043, q044, q045, q046, q047, q048, q049, q050, q051, q052, q053, q054, q055, List.getElem?_cons_zero, List.getElem?_cons_succ, List.set_cons_zero, List.set_cons_succ, List.cons_append, List.nil_append, List.append_nil, if_true, if_false, ite_true, ite_false, Bool.false_eq_true, decide_eq_true_eq, Bool.not_true, Bool.not_false, Bool.not_eq_true', decide_eq_false_iff_not, Bool.not_not, isi_int_int, isi_int_bool, isi_int_tuple, isi_int_str, isi_int_lt, isi_bl_int, isi_bl_bool, isi_bl_lt, isi_str_str, isi_str_lt, isi_non_lt, isi_tup_tuple, isi_lst_tuple, isi_tup_lt, isi_lst_lt, okEq_int, okEq_bl, okEq_non, okEq_ils, okEq_vec, deqv_int, deqv_bl, deqv_ils, deqv_vec, true_and, and_true, and_self, reduceCtorEq, not_true_eq_false, not_false_eq_true, false_imp_iff, true_imp_iff, forall_const]
    refine ⟨_, atI_map_nat D.int (d := 0) hi, _, rfl, ?_⟩
    simp -failIfUnchanged only [dSeqS, dSet, dSetO, dRet, dRetN, dIfS, dDrop, dNext, dBreak, dCont, dNever, dShow, dFor, dApp, dPutIx, dAsg, dOp, dUn, dTst, dTru, dAnd, dOr, dNot, dAndV, dOrV, dNotV, dIfE, dCons, dNil, dTup, dLst, dCB, dCall, dCallN, dC, dVar, dChain, dSeq, dRng1, dRng2, dZip, dComp, dYes, dgName, dgTup, dgCons, dgNil, dwipe, dPeek, dPeekT, dIxO, frzAt, dNoPart, dPart, dSl, dEqV, dNeV, q000, q001, q002, q003, q004, q005, q006, q007, q008, q009, q010, q011, q012, q013, q014, q015, q016, q017, q018, q019, q020, q021, q022, q023, q024, q025, q026, q027, q028, q029, q030, q031, q032, q033, q034, q035, q036, q037, q038, q039, q040, q041, q042, q043, q044, q045, q046, q047, q048, q049, q050, q051, q052, q053, q054, q055, List.getElem?_cons_zero, List.getElem?_cons_succ, List.set_cons_zero, List.set_cons_succ, List.cons_append, List.nil_append, List.append_nil, if_true, if_false, ite_true, ite_false, Bool.false_eq_true, decide_eq_true_eq, Bool.not_true, Bool.not_false, Bool.not_eq_true', decide_eq_false_iff_not, Bool.not_not, isi_int_int, isi_int_bool, isi_int_tuple, isi_int_str, isi_int_lt, isi_bl_int, isi_bl_bool, isi_bl_lt, isi_str_str, isi_str_lt, isi_non_lt, isi_tup_tuple, isi_lst_tuple, isi_tup_lt, isi_lst_lt, okEq_int, okEq_bl, okEq_non, okEq_ils, okEq_vec, deqv_int, deqv_bl, deqv_ils, deqv_vec, true_and, and_true, and_self, reduceCtorEq, not_true_eq_false, not_false_eq_true, false_imp_iff, true_imp_iff, forall_const]
    refine ⟨_, atI_map_nat D.int (d := 0) hi, ?_⟩
    refine hy.at hi ?_
    simp -failIfUnchanged only [dSeqS, dSet, dSetO, dRet, dRetN, dIfS, dDrop, dNext, dBreak, dCont, dNever, dShow, dFor, dApp, dPutIx, dAsg, dOp, dUn, dTst, dTru, dAnd, dOr, dNot, dAndV, dOrV, dNotV, dIfE, dCons, dNil, dTup, dLst, dCB, dCall, dCallN, dC, dVar, dChain, dSeq, dRng1, dRng2, dZip, dComp, dYes, dgName, dgTup, dgCons, dgNil, dwipe, dPeek, dPeekT, dIxO, frzAt, dNoPart, dPart, dSl, dEqV, dNeV, q000, q001, q002, q003, q004, q005, q006, q007, q008, q009, q010, q011, q012, q013, q014, q015, q016, q017, q018, q019, q020, q021, q022, q023, q024, q025, q026, q027, q028, q029, q030, q031, q032, q033, q034, q035, q036, q037, q038, q039, q040, q041, q042, q043, q044, q045, q046, q047, q048, q049, q050, q051, q052, q053, q054, q055, List.getElem?_cons_zero, List.getElem?_cons_succ, List.set_cons_zero, List.set_cons_succ, List.cons_append, List.nil_append, List.append_nil, if_true, if_false, ite_true, ite_false, Bool.false_eq_true, decide_eq_true_eq, Bool.not_true, Bool.not_false, Bool.not_eq_true', decide_eq_false_iff_not, Bool.not_not, isi_int_int, isi_int_bool, isi_int_tuple, isi_int_str, isi_int_lt, isi_bl_int, isi_bl_bool, isi_bl_lt, isi_str_str, isi_str_lt, isi_non_lt, isi_tup_tuple, isi_lst_tuple, isi_tup_lt, isi_lst_lt, okEq_int, okEq_bl, okEq_non, okEq_ils, okEq_vec, deqv_int, deqv_bl, deqv_ils, deqv_vec, true_and, and_true, and_self, reduceCtorEq, not_true_eq_false, not_false_eq_true, false_imp_iff, true_imp_iff, forall_const]
    exact hR _ ⟨_, rfl⟩
  · rintro δ ⟨j, rfl⟩
    simp -failIfUnchanged only [dSeqS, dSet, dSetO, dRet, dRetN, dIfS, dDrop, dNext, dBreak, dCont, dNever, dShow, dFor, dApp, dPutIx, dAsg, dOp, dUn, dTst, dTru, dAnd, dOr, dNot, dAndV, dOrV, dNotV, dIfE, dCons, dNil, dTup, dLst, dCB, dCall, dCallN, dC, dVar, dChain, dSeq, dRng1, dRng2, dZip, dComp, dYes, dgName, dgTup, dgCons, dgNil, dwipe, dPeek, dPeekT, dIxO, frzAt, dNoPart, dPart, dSl, dEqV, dNeV, q000, q001, q002, q003, q004, q005, q006, q007, q008, q009, q010, q011, q012, q013, q014, q015, q016, q017, q018, q019, q020, q021, q022, q023, q024, q025, q026, q027, q028, q029, q030, q031, q032, q033, q034, q035, q036, q037, q038, q039, q040, q041, q042, q043, q044, q045, q046, q047, q048, q049, q050, q051, q052, q053, q054, q055, List.getElem?_cons_zero, List.getElem?_cons_succ, List.set_cons_zero, List.set_cons_succ, List.cons_append, List.nil_append, List.append_nil, if_true, if_false, ite_true, ite_false, Bool.false_eq_true, decide_eq_true_eq, Bool.not_true, Bool.not_false, Bool.not_eq_true', decide_eq_false_iff_not, Bool.not_not, isi_int_int, isi_int_bool, isi_int_tuple, isi_int_str, isi_int_lt, isi_bl_int, isi_bl_bool, isi_bl_lt, isi_str_str, isi_str_lt, isi_non_lt, isi_tup_tuple, isi_lst_tuple, isi_tup_lt, isi_lst_lt, okEq_int, okEq_bl, okEq_non, okEq_ils, okEq_vec, deqv_int, deqv_bl, deqv_ils, deqv_vec, true_and, and_true, and_self, reduceCtorEq, not_true_eq_false, not_false_eq_true, false_imp_iff, true_imp_iff, forall_const]
    exact hq
def F__law_same_rows : FD := fun ds Q _ => ∃ rows : List (List Int), ds = [.tup (rows.map vec), .lst (rows.map ils)] ∧ rows.length < 2 ^ 60 ∧ (∀ r ∈ rows, r.length < 2 ^ 60) ∧ Q (.bl true)
def g__law_same_rows : DSt := (dSeqS (dIfS (dOr (dNot (dTru (dCB dIsiV (dCons (dVar 0) (dCons (dC (.val (.ty "tuple"))) dNil))))) (dTst (dOp dNeV (dCB dLenV (dCons (dVar 0) dNil)) (dCB dLenV (dCons (dVar 1) dNil))))) (dRet (dC (.bl false))) dNext)
    (dSeqS (dFor (dRng1 (dCons (dCB dLenV (dCons (dVar 1) dNil)) dNil)) (dgName 2) (dIfS (dNot (dTru (dCall F__law_same [] (dCons (dOp dIxV (dVar 0) (dVar 2)) (dCons (dOp dIxV (dVar 1) (dVar 2)) dNil))))) (dRet (dC (.bl false))) dNext))
    (dRet (dC (.bl true)))))
theorem does__law_same_rows : Does ["told", "due", "k"] ["told", "due"] F__law_same_rows g__law_same_rows := by
  rintro ds Q Xd ⟨rows, rfl, hl, hr, hq⟩
  refine ⟨rfl, ?_⟩
  show g__law_same_rows _ [.val _, .val _, .no]
  simp -failIfUnchanged only [dSeqS, dSet, dSetO, dRet, dRetN, dIfS, dDrop, dNext, dBreak, dCont, dNever, dShow, dFor, dApp, dPutIx, dAsg, dOp, dUn, dTst, dTru, dAnd, dOr, dNot, dAndV, dOrV, dNotV, dIfE, dCons, dNil, dTup, dLst, dCB, dCall, dCallN, dC, dVar, dChain, dSeq, dRng1, dRng2, dZip, dComp, dYes, dgName, dgTup, dgCons, dgNil, dwipe, dPeek, dPeekT, dIxO, frzAt, dNoPart, dPart, dSl, dEqV, dNeV, q000, q001, q002, q003, q004, q005, q006, q007, q008, q009, q010, q011, q012, q013, q014, q015, q016, q017, q018, q019, q020, q021, q022, q023, q024, q025, q026, q027, q028, q029, q030, q031, q032, q033, q034, q035, q036, q037, q038, q039, q040, q041, q042, q043, q044, q045, q046, q047, q048, q049, q050, q051, q052, q053, q054, q055, List.getElem?_cons_zero, List.getElem?_cons_succ, List.set_cons_zero, List.set_cons_succ, List.cons_append, List.nil_append, List.append_nil, if_true, if_false, ite_true, ite_false, Bool.false_eq_true, decide_eq_true_eq, Bool.not_true, Bool.not_false, Bool.not_eq_true', decide_eq_false_iff_not, Bool.not_not, isi_int_int, isi_int_bool, isi_int_tuple, isi_int_str, isi_int_lt, isi_bl_int, isi_bl_bool, isi_bl_lt, isi_str_str, isi_str_lt, isi_non_lt, isi_tup_tuple, isi_lst_tuple, isi_tup_lt, isi_lst_lt, okEq_int, okEq_bl, okEq_non, okEq_ils, okEq_vec, deqv_int, deqv_bl, deqv_ils, deqv_vec, true_and, and_true, and_self, reduceCtorEq, not_true_eq_false, not_false_eq_true, false_imp_iff, true_imp_iff, forall_const, g__law_same_rows, List.length_map]
  refine ⟨by omega, by omega, ?_⟩
  rw [Int.toNat_natCast]
  refine for_rng _ (fun i δ => ∃ j : DS, δ = [.val (.tup (rows.map vec)), .val (.lst (rows.map ils)), j]) ⟨.no, rfl⟩ ?_ ?_
  · rintro i δ R hi ⟨j, rfl⟩ hR
    simp -failIfUnchanged only [dSeqS, dSet, dSetO, dRet, dRetN, dIfS, dDrop, dNext, dBreak, dCont, dNever, dShow, dFor, dApp, dPutIx, dAsg, dOp, dUn, dTst, dTru, dAnd, dOr, dNot, dAndV, dOrV, dNotV, dIfE, dCons, dNil, dTup, dLst, dCB, dCall, dCallN, dC, dVar, dChain, dSeq, dRng1, dRng2, dZip, dComp, dYes, dgName, dgTup, dgCons, dgNil, dwipe, dPeek, dPeekT, dIxO, frzAt, dNoPart, dPart, dSl, dEqV, dNeV, q000, q001, q002, q003, q004, q005, q006, q007, q008, q009, q010, q011, q012, q013, q014, q015, q016, q017, q018, q019, q020, q021, q022, q023, q024, q025, q026, q027, q028, q029, q030, q031, q032, q033, q034, q035, q036, q037, q038, q039, q040, q041, q042, q043, q044, q045, q046, q047, q048, q049, q050, q051, q052, q053, q054, q055, List.getElem?_cons_zero, List.getElem?_cons_succ, List.set_cons_zero, List.set_cons_succ, List.cons_append, List.nil_append, List.append_nil, if_true, if_false, ite_true, ite_false, Bool.false_eq_true, decide_eq_true_eq, Bool.not_true, Bool.not_false, Bool.not_eq_true', decide_eq_false_iff_not, Bool.not_not, isi_int_int, isi_int_bool, isi_int_tuple, isi_int_str, isi_int_lt, isi_bl_int, isi_bl_bool, isi_bl_lt, isi_str_str, isi_str_lt, isi_non_lt, isi_tup_tuple, isi_lst_tuple, isi_tup_lt, isi_lst_lt, okEq_int, okEq_bl, okEq_non, okEq_ils, okEq_vec, deqv_int, deqv_bl, deqv_ils, deqv_vec, true_and, and_true, and_self, reduceCtorEq, not_true_eq_false, not_false_eq_true, false_imp_iff, true_imp_iff, forall_const]
    refine ⟨_, atI_map_nat vec (d := []) hi, _, atI_map_nat ils (d := []) hi, rows.getD i [], _, rfl, isV_ils _, hr _ ?_, ?_⟩
    · simp [List.getD_eq_getElem?_getD, hi]
    simp -failIfUnchanged only [dSeqS, dSet, dSetO, dRet, dRetN, dIfS, dDrop, dNext, dBreak, dCont, dNever, dShow, dFor, dApp, dPutIx, dAsg, dOp, dUn, dTst, dTru, dAnd, dOr, dNot, dAndV, dOrV, dNotV, dIfE, dCons, dNil, dTup, dLst, dCB, dCall, dCallN, dC, dVar, dChain, dSeq, dRng1, dRng2, dZip, dComp, dYes, dgName, dgTup, dgCons, dgNil, dwipe, dPeek, dPeekT, dIxO, frzAt, dNoPart, dPart, dSl, dEqV, dNeV, q000, q001, q002, q003, q004, q005, q006, q007, q008, q009, q010, q011, q012, q013, q014, q015, q016, q017, q018, q019, q020, q021, q022, q023, q024, q025, q026, q027, q028, q029, q030, q031, q032, q033, q034, q035, q036, q037, q038, q039, q040, q041, q042, q043, q044, q045, q046, q047, q048, q049, q050, q051, q052, q053, q054, q055, List.getElem?_cons_zero, List.getElem?_cons_succ, List.set_cons_zero, List.set_cons_succ, List.cons_append, List.nil_append, List.append_nil, if_true, if_false, ite_true, ite_false, Bool.false_eq_true, decide_eq_true_eq, Bool.not_true, Bool.not_false, Bool.not_eq_true', decide_eq_false_iff_not, Bool.not_not, isi_int_int, isi_int_bool, isi_int_tuple, isi_int_str, isi_int_lt, isi_bl_int, isi_bl_bool, isi_bl_lt, isi_str_str, isi_str_lt, isi_non_lt, isi_tup_tuple, isi_lst_tuple, isi_tup_lt, isi_lst_lt, okEq_int, okEq_bl, okEq_non, okEq_ils, okEq_vec, deqv_int, deqv_bl, deqv_ils, deqv_vec, true_and, and_true, and_self, reduceCtorEq, not_true_eq_false, not_false_eq_true, false_imp_iff, true_imp_iff, forall_const]
    exact hR _ ⟨_, rfl⟩
  · rintro δ ⟨j, rfl⟩
    simp -failIfUnchanged only [dSeqS, dSet, dSetO, dRet, dRetN, dIfS, dDrop, dNext, dBreak, dCont, dNever, dShow, dFor, dApp, dPutIx, dAsg, dOp, dUn, dTst, dTru, dAnd, dOr, dNot, dAndV, dOrV, dNotV, dIfE, dCons, dNil, dTup, dLst, dCB, dCall, dCallN, dC, dVar, dChain, dSeq, dRng1, dRng2, dZip, dComp, dYes, dgName, dgTup, dgCons, dgNil, dwipe, dPeek, dPeekT, dIxO, frzAt, dNoPart, dPart, dSl, dEqV, dNeV, q000, q001, q002, q003, q004, q005, q006, q007, q008, q009, q010, q011, q012, q013, q014, q015, q016, q017, q018, q019, q020, q021, q022, q023, q024, q025, q026, q027, q028, q029, q030, q031, q032, q033, q034, q035, q036, q037, q038, q039, q040, q041, q042, q043, q044, q045, q046, q047, q048, q049, q050, q051, q052, q053, q054, q055, List.getElem?_cons_zero, List.getElem?_cons_succ, List.set_cons_zero, List.set_cons_succ, List.cons_append, List.nil_append, List.append_nil, if_true, if_false, ite_true, ite_false, Bool.false_eq_true, decide_eq_true_eq, Bool.not_true, Bool.not_false, Bool.not_eq_true', decide_eq_false_iff_not, Bool.not_not, isi_int_int, isi_int_bool, isi_int_tuple, isi_int_str, isi_int_lt, isi_bl_int, isi_bl_bool, isi_bl_lt, isi_str_str, isi_str_lt, isi_non_lt, isi_tup_tuple, isi_lst_tuple, isi_tup_lt, isi_lst_lt, okEq_int, okEq_bl, okEq_non, okEq_ils, okEq_vec, deqv_int, deqv_bl, deqv_ils, deqv_vec, true_and, and_true, and_self, reduceCtorEq, not_true_eq_false, not_false_eq_true, false_imp_iff, true_imp_iff, forall_const]
    exact hq
end L2.DL

-- K00K
set_option Elab.async false
set_option linter.all false
set_option maxRecDepth 100000
set_option maxHeartbeats 4000000
namespace L2.DL
open PySem PySem.Spec PyProof.Rows
/-! # digits there and back -/
theorem vadd_map {α : Type} (f g : α → Int) : ∀ a : List α, vadd (a.map f) (a.map g) = a.map fun x => f x + g x
  | [] => rfl
  | x :: a => by
    show (f x + g x) :: vadd (a.map f) (a.map g) = _
    rw [vadd_map f g a]
    rfl
theorem vmul_map {α : Type} (n : Int) (f : α → Int) (a : List α) : vmul n (a.map f) = a.map fun x => n * f x := by simp [vmul]
theorem sg_abs (x : Int) : sg x * (x.natAbs : Int) = x := by
  unfold sg
  split <;> omega
def headAt (b : Nat) (a : List Int) (m : Nat) : List Int := a.map fun x => sg x * ((x.natAbs / b ^ m : Nat) : Int)
theorem head_zero (b : Nat) (a : List Int) : headAt b a 0 = a := by
  unfold headAt
  rw [show (fun x : Int => sg x * ((x.natAbs / b ^ 0 : Nat) : Int)) = fun x => x by
    funext x
    rw [Nat.pow_zero, Nat.div_one, sg_abs]]
  simp
theorem head_step (b : Nat) (a : List Int) (m : Nat) : ordStep b (headAt b a (m + 1)) (rowAt b a m) = headAt b a m := by
  unfold ordStep headAt rowAt
  rw [vmul_map, vadd_map]
  refine List.map_congr_left fun x _ => ?_
  rw [Nat.pow_succ, ← Nat.div_div_eq_div_mul]
  generalize x.natAbs / b ^ m = q
  have e := Nat.div_add_mod q b
  have e' : (b : Int) * ((q / b : Nat) : Int) + ((q % b : Nat) : Int) = (q : Int) := by exact_mod_cast e
  rw [← e', Int.mul_add, ← Int.mul_assoc, ← Int.mul_assoc, Int.mul_comm (b : Int) (sg x)]
theorem head_top {b : Nat} {a : List Int} {n : Nat} (h : ∀ x ∈ a, x.natAbs / b ^ n = 0) : headAt b a n = List.replicate a.length 0 := by
  unfold headAt
  rw [← List.map_const']
  refine List.map_congr_left fun x hx => ?_
  rw [h x hx]
  simp
theorem figs_get {b : Nat} {a : List Int} {n k : Nat} (h : k < n) : (figs b a n)[k]? = some (rowAt b a (n - 1 - k)) := by
  unfold figs
  rw [List.getElem?_map, List.getElem?_reverse (by simpa using h), List.length_range, List.getElem?_range (by omega)]
  rfl
theorem order_take {b : Nat} {a : List Int} {n w : Nat} (hw : a.length = w) (h : ∀ x ∈ a, x.natAbs / b ^ n = 0) : ∀ k, k ≤ n → orderOf b w ((figs b a n).take k) = headAt b a (n - k)
  | 0, _ => by
    rw [List.take_zero, Nat.sub_zero, head_top h, hw]
    rfl
  | k + 1, hk => by
    rw [take_more (figs_get (by omega))]
    unfold orderOf
    rw [List.foldl_append]
    show ordStep b (orderOf b w ((figs b a n).take k)) (rowAt b a (n - 1 - k)) = _
    rw [order_take hw h k (by omega), show n - k = (n - 1 - k) + 1 by omega, head_step, show n - (k + 1) = n - 1 - k by omega]
theorem order_figs {b : Nat} {a : List Int} {n : Nat} (h : isN b a n) : orderOf b a.length (figs b a n) = a := by
  have := order_take rfl h.top n (Nat.le_refl _)
  rw [List.take_of_length_le (by rw [figs_len]; exact Nat.le_refl _), Nat.sub_self, head_zero] at this
  exact this
theorem ord_zeros (b : Int) (w : Nat) (rows : List (List Int)) : ∀ z : Nat, orderOf b w (List.replicate z (List.replicate w 0) ++ rows) = orderOf b w rows
  | 0 => rfl
  | z + 1 => by
    rw [← ord_zeros b w rows z]
    unfold orderOf
    rw [List.replicate_succ, List.cons_append, List.foldl_cons]
    have : ordStep b (List.replicate w 0) (List.replicate w 0) = List.replicate w 0 := by
      unfold ordStep vmul
      rw [List.map_replicate, Int.mul_zero]
      simp [vadd, List.zipWith_replicate]
    rw [this]
theorem rowAt_len (b : Nat) (a : List Int) (t : Nat) : (rowAt b a t).length = a.length := by simp [rowAt]
theorem figs_rows {b : Nat} {a : List Int} {n : Nat} : ∀ r ∈ figs b a n, r.length = a.length := fun r hr => by
  obtain ⟨t, _, rfl⟩ := List.mem_map.mp hr
  exact rowAt_len b a t
theorem paired_map {α β γ : Type} {P : α → β → Prop} (f : γ → α) (g : γ → β) (h : ∀ x, P (f x) (g x)) : ∀ xs : List γ, Paired P (xs.map f) (xs.map g)
  | [] => .nil
  | x :: xs => .cons (h x) (paired_map f g h xs)
theorem isRows_lst (rows : List (List Int)) : isRows (.lst (rows.map ils)) rows := ⟨_, .inl rfl, by
  have := paired_map (P := isV) ils id isV_ils rows
  rwa [List.map_id] at this, fun e he => by
  obtain ⟨r, _, rfl⟩ := List.mem_map.mp he
  exact okF_ils r⟩
theorem isRows_lstT (rows : List (List Int)) : isRows (.lst (rows.map vec)) rows := ⟨_, .inl rfl, by
  have := paired_map (P := isV) vec id isV_vec rows
  rwa [List.map_id] at this, fun e he => by
  obtain ⟨r, _, rfl⟩ := List.mem_map.mp he
  exact okF_vec r⟩
theorem isRows_tupT (rows : List (List Int)) : isRows (.tup (rows.map vec)) rows := ⟨_, .inr rfl, by
  have := paired_map (P := isV) vec id isV_vec rows
  rwa [List.map_id] at this, fun e he => by
  obtain ⟨r, _, rfl⟩ := List.mem_map.mp he
  exact okF_vec r⟩
theorem paired_app {α β : Type} {P : α → β → Prop} : ∀ {xs xs' : List α} {ys ys' : List β}, Paired P xs ys → Paired P xs' ys' → Paired P (xs ++ xs') (ys ++ ys')
  | _, _, _, _, .nil, h => h
  | _, _, _, _, .cons r t, h => .cons r (paired_app t h)
theorem isRows_mix (zs rows : List (List Int)) : isRows (.tup (zs.map vec ++ rows.map ils)) (zs ++ rows) := ⟨_, .inr rfl, by
  have h1 := paired_map (P := isV) ils id isV_ils rows
  have h2 := paired_map (P := isV) vec id isV_vec zs
  rw [List.map_id] at h1 h2
  exact paired_app h2 h1, fun e he => by
  rcases List.mem_append.mp he with h | h
  · obtain ⟨r, _, rfl⟩ := List.mem_map.mp h
    exact okF_vec r
  · obtain ⟨r, _, rfl⟩ := List.mem_map.mp h
    exact okF_ils r⟩
theorem okEq_rows (rows : List (List Int)) : okEq (.lst (rows.map ils)) = true := (ok_lst (k := 1) fun d h => by
  obtain ⟨r, _, rfl⟩ := List.mem_map.mp h
  exact ok_ils r).eq (by decide)

/-! signs -/
theorem cut_map {α β : Type} (f : α → β) (xs : List α) (lo hi : Option Int) : cutG (xs.map f) lo hi = (cutG xs lo hi).map f := by
  unfold cutG
  rw [List.length_map, List.map_take, List.map_drop]
theorem mem_cut {α : Type} {xs : List α} {lo hi : Option Int} {x : α} (h : x ∈ cutG xs lo hi) : x ∈ xs := List.mem_of_mem_drop (List.mem_of_mem_take h)
abbrev sml (z : Int) : Prop := -(2 ^ 64) < z ∧ z < 2 ^ 64
def dueAt (a r : List Int) (i : Nat) : Bool := decide (r.length = a.length) && (List.range i).all fun j => decide (a.getD j 0 * r.getD j 0 ≥ 0)
theorem due_next (a r : List Int) (i : Nat) : dueAt a r (i + 1) = (dueAt a r i && decide (a.getD i 0 * r.getD i 0 ≥ 0)) := by
  unfold dueAt
  rw [List.range_succ, List.all_append, Bool.and_assoc]
  simp
theorem all_rng : ∀ (a r : List Int), a.length = r.length → (List.zipWith (fun x y => decide (x * y ≥ 0)) a r).all id = (List.range a.length).all fun j => decide (a.getD j 0 * r.getD j 0 ≥ 0)
  | [], [], _ => rfl
  | x :: a, y :: r, h => by
    rw [List.zipWith_cons_cons, List.all_cons, all_rng a r (by simpa using h), List.length_cons, List.range_succ_eq_map, List.all_cons, List.all_map]
    rfl
theorem due_end (a r : List Int) : dueAt a r (min r.length a.length) = hasSigns a r := by
  unfold dueAt hasSigns
  by_cases h : a.length = r.length
  · rw [all_rng a r h, show min r.length a.length = a.length by omega]
    simp [h]
  · have h' : ¬ r.length = a.length := fun e => h e.symm
    simp [h, h']
def F__law_signs_right : FD := fun ds Q _ => ∃ (a d : List Int), ds = [ils a, ils d] ∧ 1 ≤ a.length ∧ a.length ≤ 3 ∧ d.length ≤ 3 ∧ (∀ z ∈ d, sml z) ∧ Q (.bl true)
def g__law_signs_right : DSt := (dSeqS (dSet 2 (dComp (dSeq (dVar 0)) true (dgName 7) dYes (dOp dSubV (dC (.int 1)) (dOp dMulV (dC (.int 2)) (dCB dIntV (dCons (dOp dLtV (dVar 7) (dC (.int 0))) dNil)))) [7]))
    (dSeqS (dSet 3 (dCB dListV (dCons (dVar 0) dNil)))
    (dSeqS (dIfS (dOr (dNot (dTru (dCall F__law_same [] (dCons (dCall F_signs_of [] (dCons (dVar 3) dNil)) (dCons (dVar 2) dNil))))) (dOr (dNot (dTru (dCall F__law_same [] (dCons (dCall F_signs_of [] (dCons (dCB dTupleV (dCons (dVar 0) dNil)) dNil)) (dCons (dVar 2) dNil))))) (dTst (dOp dNeV (dVar 3) (dVar 0))))) (dRet (dC (.bl false))) dNext)
    (dSeqS (dSetO 4 (dLst (dCons (dVar 2) (dCons (dVar 1) (dCons (dOp dAddV (dVar 2) (dLst (dCons (dC (.int 1)) dNil))) (dCons (dOp dAddV (dLst (dCons (dUn dNegV (dC (.int 1))) dNil)) (dVar 2)) (dCons (dSl (dVar 2) (dPart (dC (.int 1))) dNoPart) (dCons (dSl (dVar 2) dNoPart (dPart (dOp dSubV (dCB dLenV (dCons (dVar 2) dNil)) (dC (.int 1))))) dNil))))))))
    (dSeqS (dFor (dRng1 (dCons (dCB dLenV (dCons (dVar 2) dNil)) dNil)) (dgName 5) (dApp 4 (dOp dAddV (dOp dAddV (dSl (dVar 2) dNoPart (dPart (dVar 5))) (dLst (dCons (dUn dNegV (dOp dIxV (dVar 2) (dVar 5))) dNil))) (dSl (dVar 2) (dPart (dOp dAddV (dVar 5) (dC (.int 1)))) dNoPart))))
    (dShow 4 (dSeqS (dFor (dSeq (dVar 4)) (dgName 6) (dIfS (dTst (dChain dLeV dLeV (dC (.int 1)) (dCB dLenV (dCons (dVar 6) dNil)) (dC (.int 3)))) (dSeqS (dSet 8 (dOp dEqV (dCB dLenV (dCons (dVar 6) dNil)) (dCB dLenV (dCons (dVar 0) dNil))))
    (dSeqS (dFor (dRng1 (dCons (dCB dMinV (dCons (dCB dLenV (dCons (dVar 6) dNil)) (dCons (dCB dLenV (dCons (dVar 0) dNil)) dNil))) dNil)) (dgName 5) (dSet 8 (dAndV (dVar 8) (dOp dGeV (dOp dMulV (dOp dIxV (dVar 0) (dVar 5)) (dOp dIxV (dVar 6) (dVar 5))) (dC (.int 0))))))
    (dSeqS (dSet 3 (dCB dListV (dCons (dVar 6) dNil)))
    (dSeqS (dSet 9 (dCall F_has_signs [] (dCons (dCB dTupleV (dCons (dVar 0) dNil)) (dCons (dVar 3) dNil))))
    (dSeqS (dIfS (dOr (dNot (dTru (dCB dIsiV (dCons (dVar 9) (dCons (dC (.val (.ty "bool"))) dNil))))) (dOr (dTst (dOp dNeV (dVar 9) (dVar 8))) (dTst (dOp dNeV (dVar 3) (dVar 6))))) (dRet (dC (.bl false))) dNext)
    (dSeqS (dSet 9 (dCall F_has_signs [] (dCons (dCB dListV (dCons (dVar 0) dNil)) (dCons (dCB dTupleV (dCons (dVar 6) dNil)) dNil))))
    (dIfS (dOr (dNot (dTru (dCB dIsiV (dCons (dVar 9) (dCons (dC (.val (.ty "bool"))) dNil))))) (dTst (dOp dNeV (dVar 9) (dVar 8)))) (dRet (dC (.bl false))) dNext))))))) dNext))
    (dRet (dC (.bl true))))))))))
theorem does__law_signs_right : Does ["vector", "drawn", "signs", "handed", "asked", "j", "row", "entry", "due", "told"] ["vector", "drawn"] F__law_signs_right g__law_signs_right := by
  rintro ds Q Xd ⟨a, d, rfl, ha1, ha3, hd3, hds, hq⟩
  refine ⟨rfl, ?_⟩
  show g__law_signs_right _ [.val _, .val _, .no, .no, .no, .no, .no, .no, .no, .no]
  unfold g__law_signs_right
  refine seq_cut (fun δ => δ = [.val (ils a), .val (ils d), .val (ils (a.map sg)), .no, .no, .no, .no, .no, .no, .no]) ?_ ?_
  · intro R hR
    simp -failIfUnchanged only [dSeqS, dSet, dSetO, dRet, dRetN, dIfS, dDrop, dNext, dBreak, dCont, dNever, dShow, dFor, dApp, dPutIx, dAsg, dOp, dUn, dTst, dTru, dAnd, dOr, dNot, dAndV, dOrV, dNotV, dIfE, dCons, dNil, dTup, dLst, dCB, dCall, dCallN, dC, dVar, dChain, dSeq, dRng1, dRng2, dZip, dComp, dYes, dgName, dgTup, dgCons, dgNil, dwipe, dPeek, dPeekT, dIxO, frzAt, dNoPart, dPart, dSl, dEqV, dNeV, q000, q001, q002, q003, q004, q005, q006, q007, q008, q009, q010, q011, q012, q013, q014, q015, q016, q017, q018, q019, q020, q021, q022, q023, q024, q025, q026, q027, q028, q029, q030, q031, q032, q033, q034, q035, q036, q037, q038, q039, q040, q041, q042, q043, q044, q045, q046, q047, q048, q049, q050, q051, q052, q053, q054, q055, List.getElem?_cons_zero, List.getElem?_cons_succ, List.set_cons_zero, List.set_cons_succ, List.cons_append, List.nil_append, List.append_nil, if_true, if_false, ite_true, ite_false, Bool.false_eq_true, decide_eq_true_eq, Bool.not_true, Bool.not_false, Bool.not_eq_true', decide_eq_false_iff_not, Bool.not_not, isi_int_int, isi_int_bool, isi_int_tuple, isi_int_str, isi_int_lt, isi_bl_int, isi_bl_bool, isi_bl_lt, isi_str_str, isi_str_lt, isi_non_lt, isi_tup_tuple, isi_lst_tuple, isi_tup_lt, isi_lst_lt, okEq_int, okEq_bl, okEq_non, okEq_ils, okEq_vec, deqv_int, deqv_bl, deqv_ils, deqv_vec, true_and, and_true, and_self, reduceCtorEq, not_true_eq_false, not_false_eq_true, false_imp_iff, true_imp_iff, forall_const]
    refine comp_map D.int (fun y => .int (sg y)) a (fun y hy R hR => ?_) ?_
    · simp -failIfUnchanged only [dSeqS, dSet, dSetO, dRet, dRetN, dIfS, dDrop, dNext, dBreak, dCont, dNever, dShow, dFor, dApp, dPutIx, dAsg, dOp, dUn, dTst, dTru, dAnd, dOr, dNot, dAndV, dOrV, dNotV, dIfE, dCons, dNil, dTup, dLst, dCB, dCall, dCallN, dC, dVar, dChain, dSeq, dRng1, dRng2, dZip, dComp, dYes, dgName, dgTup, dgCons, dgNil, dwipe, dPeek, dPeekT, dIxO, frzAt, dNoPart, dPart, dSl, dEqV, dNeV, q000, q001, q002, q003, q004, q005, q006, q007, q008, q009, q010, q011, q012, q013, q014, q015, q016, q017, q018, q019, q020, q021, q022, q023, q024, q025, q026, q027, q028, q029, q030, q031, q032, q033, q034, q035, q036, q037, q038, q039, q040, q041, q042, q043, q044, q045, q046, q047, q048, q049, q050, q051, q052, q053, q054, q055, List.getElem?_cons_zero, List.getElem?_cons_succ, List.set_cons_zero, List.set_cons_succ, List.cons_append, List.nil_append, List.append_nil, if_true, if_false, ite_true, ite_false, Bool.false_eq_true, decide_eq_true_eq, Bool.not_true, Bool.not_false, Bool.not_eq_true', decide_eq_false_iff_not, Bool.not_not, isi_int_int, isi_int_bool, isi_int_tuple, isi_int_str, isi_int_lt, isi_bl_int, isi_bl_bool, isi_bl_lt, isi_str_str, isi_str_lt, isi_non_lt, isi_tup_tuple, isi_lst_tuple, isi_tup_lt, isi_lst_lt, okEq_int, okEq_bl, okEq_non, okEq_ils, okEq_vec, deqv_int, deqv_bl, deqv_ils, deqv_vec, true_and, and_true, and_self, reduceCtorEq, not_true_eq_false, not_false_eq_true, false_imp_iff, true_imp_iff, forall_const]
      refine ⟨mul_l (by omega) (by omega), ?_⟩
      unfold sg at hR
      by_cases h : y < 0
      · simpa [h] using hR
      · simpa [h] using hR
    · rw [show a.map (fun y => D.int (sg y)) = (a.map sg).map .int by simp]
      exact hR _ rfl
  rintro _ rfl
  refine seq_cut (fun δ => δ = [.val (ils a), .val (ils d), .val (ils (a.map sg)), .val (ils a), .no, .no, .no, .no, .no, .no]) ?_ ?_
  · intro R hR
    simp -failIfUnchanged only [dSeqS, dSet, dSetO, dRet, dRetN, dIfS, dDrop, dNext, dBreak, dCont, dNever, dShow, dFor, dApp, dPutIx, dAsg, dOp, dUn, dTst, dTru, dAnd, dOr, dNot, dAndV, dOrV, dNotV, dIfE, dCons, dNil, dTup, dLst, dCB, dCall, dCallN, dC, dVar, dChain, dSeq, dRng1, dRng2, dZip, dComp, dYes, dgName, dgTup, dgCons, dgNil, dwipe, dPeek, dPeekT, dIxO, frzAt, dNoPart, dPart, dSl, dEqV, dNeV, q000, q001, q002, q003, q004, q005, q006, q007, q008, q009, q010, q011, q012, q013, q014, q015, q016, q017, q018, q019, q020, q021, q022, q023, q024, q025, q026, q027, q028, q029, q030, q031, q032, q033, q034, q035, q036, q037, q038, q039, q040, q041, q042, q043, q044, q045, q046, q047, q048, q049, q050, q051, q052, q053, q054, q055, List.getElem?_cons_zero, List.getElem?_cons_succ, List.set_cons_zero, List.set_cons_succ, List.cons_append, List.nil_append, List.append_nil, if_true, if_false, ite_true, ite_false, Bool.false_eq_true, decide_eq_true_eq, Bool.not_true, Bool.not_false, Bool.not_eq_true', decide_eq_false_iff_not, Bool.not_not, isi_int_int, isi_int_bool, isi_int_tuple, isi_int_str, isi_int_lt, isi_bl_int, isi_bl_bool, isi_bl_lt, isi_str_str, isi_str_lt, isi_non_lt, isi_tup_tuple, isi_lst_tuple, isi_tup_lt, isi_lst_lt, okEq_int, okEq_bl, okEq_non, okEq_ils, okEq_vec, deqv_int, deqv_bl, deqv_ils, deqv_vec, true_and, and_true, and_self, reduceCtorEq, not_true_eq_false, not_false_eq_true, false_imp_iff, true_imp_iff, forall_const]
    exact hR _ rfl
  rintro _ rfl
  have ssm : ∀ z ∈ a.map sg, sml z := fun z hz => by
    obtain ⟨y, _, rfl⟩ := List.mem_map.mp hz
    exact sg_small y
  have slen : (a.map sg).length = a.length := List.length_map ..
  refine seq_cut (fun δ => δ = [.val (ils a), .val (ils d), .val (ils (a.map sg)), .val (ils a), .no, .no, .no, .no, .no, .no]) ?_ ?_
  · intro R hR
    simp -failIfUnchanged only [dSeqS, dSet, dSetO, dRet, dRetN, dIfS, dDrop, dNext, dBreak, dCont, dNever, dShow, dFor, dApp, dPutIx, dAsg, dOp, dUn, dTst, dTru, dAnd, dOr, dNot, dAndV, dOrV, dNotV, dIfE, dCons, dNil, dTup, dLst, dCB, dCall, dCallN, dC, dVar, dChain, dSeq, dRng1, dRng2, dZip, dComp, dYes, dgName, dgTup, dgCons, dgNil, dwipe, dPeek, dPeekT, dIxO, frzAt, dNoPart, dPart, dSl, dEqV, dNeV, q000, q001, q002, q003, q004, q005, q006, q007, q008, q009, q010, q011, q012, q013, q014, q015, q016, q017, q018, q019, q020, q021, q022, q023, q024, q025, q026, q027, q028, q029, q030, q031, q032, q033, q034, q035, q036, q037, q038, q039, q040, q041, q042, q043, q044, q045, q046, q047, q048, q049, q050, q051, q052, q053, q054, q055, List.getElem?_cons_zero, List.getElem?_cons_succ, List.set_cons_zero, List.set_cons_succ, List.cons_append, List.nil_append, List.append_nil, if_true, if_false, ite_true, ite_false, Bool.false_eq_true, decide_eq_true_eq, Bool.not_true, Bool.not_false, Bool.not_eq_true', decide_eq_false_iff_not, Bool.not_not, isi_int_int, isi_int_bool, isi_int_tuple, isi_int_str, isi_int_lt, isi_bl_int, isi_bl_bool, isi_bl_lt, isi_str_str, isi_str_lt, isi_non_lt, isi_tup_tuple, isi_lst_tuple, isi_tup_lt, isi_lst_lt, okEq_int, okEq_bl, okEq_non, okEq_ils, okEq_vec, deqv_int, deqv_bl, deqv_ils, deqv_vec, true_and, and_true, and_self, reduceCtorEq, not_true_eq_false, not_false_eq_true, false_imp_iff, true_imp_iff, forall_const]
    refine ⟨_, a, rfl, isV_ils a, a.map sg, _, rfl, isV_ils _, by omega, ?_⟩
    simp -failIfUnchanged only [dSeqS, dSet, dSetO, dRet, dRetN, dIfS, dDrop, dNext, dBreak, dCont, dNever, dShow, dFor, dApp, dPutIx, dAsg, dOp, dUn, dTst, dTru, dAnd, dOr, dNot, dAndV, dOrV, dNotV, dIfE, dCons, dNil, dTup, dLst, dCB, dCall, dCallN, dC, dVar, dChain, dSeq, dRng1, dRng2, dZip, dComp, dYes, dgName, dgTup, dgCons, dgNil, dwipe, dPeek, dPeekT, dIxO, frzAt, dNoPart, dPart, dSl, dEqV, dNeV, q000, q001, q002, q003, q004, q005, q006, q007, q008, q009, q010, q011, q012, q013, q014, q015, q016, q017, q018, q019, q020, q021, q022, q023, q024, q025, q026, q027, q028, q029, q030, q031, q032, q033, q034, q035, q036, q037, q038, q039, q040, q041, q042, q043, q044, q045, q046, q047, q048, q049, q050, q051, q052, q053, q054, q055, List.getElem?_cons_zero, List.getElem?_cons_succ, List.set_cons_zero, List.set_cons_succ, List.cons_append, List.nil_append, List.append_nil, if_true, if_false, ite_true, ite_false, Bool.false_eq_true, decide_eq_true_eq, Bool.not_true, Bool.not_false, Bool.not_eq_true', decide_eq_false_iff_not, Bool.not_not, isi_int_int, isi_int_bool, isi_int_tuple, isi_int_str, isi_int_lt, isi_bl_int, isi_bl_bool, isi_bl_lt, isi_str_str, isi_str_lt, isi_non_lt, isi_tup_tuple, isi_lst_tuple, isi_tup_lt, isi_lst_lt, okEq_int, okEq_bl, okEq_non, okEq_ils, okEq_vec, deqv_int, deqv_bl, deqv_ils, deqv_vec, true_and, and_true, and_self, reduceCtorEq, not_true_eq_false, not_false_eq_true, false_imp_iff, true_imp_iff, forall_const]
    refine ⟨_, a, rfl, isV_vec a, a.map sg, _, rfl, isV_ils _, by omega, ?_⟩
    simp -failIfUnchanged only [dSeqS, dSet, dSetO, dRet, dRetN, dIfS, dDrop, dNext, dBreak, dCont, dNever, dShow, dFor, dApp, dPutIx, dAsg, dOp, dUn, dTst, dTru, dAnd, dOr, dNot, dAndV, dOrV, dNotV, dIfE, dCons, dNil, dTup, dLst, dCB, dCall, dCallN, dC, dVar, dChain, dSeq, dRng1, dRng2, dZip, dComp, dYes, dgName, dgTup, dgCons, dgNil, dwipe, dPeek, dPeekT, dIxO, frzAt, dNoPart, dPart, dSl, dEqV, dNeV, q000, q001, q002, q003, q004, q005, q006, q007, q008, q009, q010, q011, q012, q013, q014, q015, q016, q017, q018, q019, q020, q021, q022, q023, q024, q025, q026, q027, q028, q029, q030, q031, q032, q033, q034, q035, q036, q037, q038, q039, q040, q041, q042, q043, q044, q045, q046, q047, q048, q049, q050, q051, q052, q053, q054, q055, List.getElem?_cons_zero, List.getElem?_cons_succ, List.set_cons_zero, List.set_cons_succ, List.cons_append, List.nil_append, List.append_nil, if_true, if_false, ite_true, ite_false, Bool.false_eq_true, decide_eq_true_eq, Bool.not_true, Bool.not_false, Bool.not_eq_true', decide_eq_false_iff_not, Bool.not_not, isi_int_int, isi_int_bool, isi_int_tuple, isi_int_str, isi_int_lt, isi_bl_int, isi_bl_bool, isi_bl_lt, isi_str_str, isi_str_lt, isi_non_lt, isi_tup_tuple, isi_lst_tuple, isi_tup_lt, isi_lst_lt, okEq_int, okEq_bl, okEq_non, okEq_ils, okEq_vec, deqv_int, deqv_bl, deqv_ils, deqv_vec, true_and, and_true, and_self, reduceCtorEq, not_true_eq_false, not_false_eq_true, false_imp_iff, true_imp_iff, forall_const]
    exact hR _ rfl
  rintro _ rfl
  generalize a.map sg = s at *
  refine seq_cut (fun δ => ∃ rows : List (List Int), rows.length = 6 ∧ (∀ r ∈ rows, ∀ z ∈ r, sml z) ∧ δ = [.val (ils a), .val (ils d), .val (ils s), .val (ils a), .own (.lst (rows.map ils)), .no, .no, .no, .no, .no]) ?_ ?_
  · intro R hR
    simp -failIfUnchanged only [dSeqS, dSet, dSetO, dRet, dRetN, dIfS, dDrop, dNext, dBreak, dCont, dNever, dShow, dFor, dApp, dPutIx, dAsg, dOp, dUn, dTst, dTru, dAnd, dOr, dNot, dAndV, dOrV, dNotV, dIfE, dCons, dNil, dTup, dLst, dCB, dCall, dCallN, dC, dVar, dChain, dSeq, dRng1, dRng2, dZip, dComp, dYes, dgName, dgTup, dgCons, dgNil, dwipe, dPeek, dPeekT, dIxO, frzAt, dNoPart, dPart, dSl, dEqV, dNeV, q000, q001, q002, q003, q004, q005, q006, q007, q008, q009, q010, q011, q012, q013, q014, q015, q016, q017, q018, q019, q020, q021, q022, q023, q024, q025, q026, q027, q028, q029, q030, q031, q032, q033, q034, q035, q036, q037, q038, q039, q040, q041, q042, q043, q044, q045, q046, q047, q048, q049, q050, q051, q052, q053, q054, q055, List.getElem?_cons_zero, List.getElem?_cons_succ, List.set_cons_zero, List.set_cons_succ, List.cons_append, List.nil_append, List.append_nil, if_true, if_false, ite_true, ite_false, Bool.false_eq_true, decide_eq_true_eq, Bool.not_true, Bool.not_false, Bool.not_eq_true', decide_eq_false_iff_not, Bool.not_not, isi_int_int, isi_int_bool, isi_int_tuple, isi_int_str, isi_int_lt, isi_bl_int, isi_bl_bool, isi_bl_lt, isi_str_str, isi_str_lt, isi_non_lt, isi_tup_tuple, isi_lst_tuple, isi_tup_lt, isi_lst_lt, okEq_int, okEq_bl, okEq_non, okEq_ils, okEq_vec, deqv_int, deqv_bl, deqv_ils, deqv_vec, true_and, and_true, and_self, reduceCtorEq, not_true_eq_false, not_false_eq_true, false_imp_iff, true_imp_iff, forall_const, List.length_map]
    refine ⟨by decide, by rw [sizeLine_eq]; show s.length + 1 ≤ _; omega, by decide, by rw [sizeLine_eq]; show 1 + s.length ≤ _; omega, by simp, ?_⟩
    rw [cut_map, cut_map]
    refine hR _ ⟨[s, d, s ++ [1], [-1] ++ s, cutG s (some 1) none, cutG s none (some (s.length - 1))], rfl, ?_, ?_⟩
    · intro r hr z hz
      simp only [List.mem_cons, List.not_mem_nil, or_false] at hr
      rcases hr with rfl | rfl | rfl | rfl | rfl | rfl
      · exact ssm z hz
      · exact hds z hz
      · rcases List.mem_append.mp hz with h | h
        · exact ssm z h
        · rw [List.mem_singleton.mp h]; decide
      · rcases List.mem_append.mp hz with h | h
        · rw [List.mem_singleton.mp h]; decide
        · exact ssm z h
      · exact ssm z (mem_cut hz)
      · exact ssm z (mem_cut hz)
    · simp [ils]
  rintro _ ⟨rows0, rl0, rs0, rfl⟩
  refine seq_cut (fun δ => ∃ (rows : List (List Int)) (j : DS), (∀ r ∈ rows, ∀ z ∈ r, sml z) ∧ δ = [.val (ils a), .val (ils d), .val (ils s), .val (ils a), .own (.lst (rows.map ils)), j, .no, .no, .no, .no]) ?_ ?_
  · intro R hR
    simp -failIfUnchanged only [dSeqS, dSet, dSetO, dRet, dRetN, dIfS, dDrop, dNext, dBreak, dCont, dNever, dShow, dFor, dApp, dPutIx, dAsg, dOp, dUn, dTst, dTru, dAnd, dOr, dNot, dAndV, dOrV, dNotV, dIfE, dCons, dNil, dTup, dLst, dCB, dCall, dCallN, dC, dVar, dChain, dSeq, dRng1, dRng2, dZip, dComp, dYes, dgName, dgTup, dgCons, dgNil, dwipe, dPeek, dPeekT, dIxO, frzAt, dNoPart, dPart, dSl, dEqV, dNeV, q000, q001, q002, q003, q004, q005, q006, q007, q008, q009, q010, q011, q012, q013, q014, q015, q016, q017, q018, q019, q020, q021, q022, q023, q024, q025, q026, q027, q028, q029, q030, q031, q032, q033, q034, q035, q036, q037, q038, q039, q040, q041, q042, q043, q044, q045, q046, q047, q048, q049, q050, q051, q052, q053, q054, q055, List.getElem?_cons_zero, List.getElem?_cons_succ, List.set_cons_zero, List.set_cons_succ, List.cons_append, List.nil_append, List.append_nil, if_true, if_false, ite_true, ite_false, Bool.false_eq_true, decide_eq_true_eq, Bool.not_true, Bool.not_false, Bool.not_eq_true', decide_eq_false_iff_not, Bool.not_not, isi_int_int, isi_int_bool, isi_int_tuple, isi_int_str, isi_int_lt, isi_bl_int, isi_bl_bool, isi_bl_lt, isi_str_str, isi_str_lt, isi_non_lt, isi_tup_tuple, isi_lst_tuple, isi_tup_lt, isi_lst_lt, okEq_int, okEq_bl, okEq_non, okEq_ils, okEq_vec, deqv_int, deqv_bl, deqv_ils, deqv_vec, true_and, and_true, and_self, reduceCtorEq, not_true_eq_false, not_false_eq_true, false_imp_iff, true_imp_iff, forall_const, List.length_map]
    refine ⟨by omega, by omega, ?_⟩
    rw [Int.toNat_natCast]
    refine for_rng _ (fun i δ => ∃ (rows : List (List Int)) (j : DS), rows.length = 6 + i ∧ (∀ r ∈ rows, ∀ z ∈ r, sml z) ∧ δ = [.val (ils a), .val (ils d), .val (ils s), .val (ils a), .own (.lst (rows.map ils)), j, .no, .no, .no, .no]) ⟨rows0, .no, rl0, rs0, rfl⟩ ?_ ?_
    · rintro i δ R hi ⟨rows, j, rl, rs, rfl⟩ hR
      simp -failIfUnchanged only [dSeqS, dSet, dSetO, dRet, dRetN, dIfS, dDrop, dNext, dBreak, dCont, dNever, dShow, dFor, dApp, dPutIx, dAsg, dOp, dUn, dTst, dTru, dAnd, dOr, dNot, dAndV, dOrV, dNotV, dIfE, dCons, dNil, dTup, dLst, dCB, dCall, dCallN, dC, dVar, dChain, dSeq, dRng1, dRng2, dZip, dComp, dYes, dgName, dgTup, dgCons, dgNil, dwipe, dPeek, dPeekT, dIxO, frzAt, dNoPart, dPart, dSl, dEqV, dNeV, q000, q001, q002, q003, q004, q005, q006, q007, q008, q009, q010, q011, q012, q013, q014, q015, q016, q017, q018, q019, q020, q021, q022, q023, q024, q025, q026, q027, q028, q029, q030, q031, q032, q033, q034, q035, q036, q037, q038, q039, q040, q041, q042, q043, q044, q045, q046, q047, q048, q049, q050, q051, q052, q053, q054, q055, List.getElem?_cons_zero, List.getElem?_cons_succ, List.set_cons_zero, List.set_cons_succ, List.cons_append, List.nil_append, List.append_nil, if_true, if_false, ite_true, ite_false, Bool.false_eq_true, decide_eq_true_eq, Bool.not_true, Bool.not_false, Bool.not_eq_true', decide_eq_false_iff_not, Bool.not_not, isi_int_int, isi_int_bool, isi_int_tuple, isi_int_str, isi_int_lt, isi_bl_int, isi_bl_bool, isi_bl_lt, isi_str_str, isi_str_lt, isi_non_lt, isi_tup_tuple, isi_lst_tuple, isi_tup_lt, isi_lst_lt, okEq_int, okEq_bl, okEq_non, okEq_ils, okEq_vec, deqv_int, deqv_bl, deqv_ils, deqv_vec, true_and, and_true, and_self, reduceCtorEq, not_true_eq_false, not_false_eq_true, false_imp_iff, true_imp_iff, forall_const]
      have hin : s.getD i 0 ∈ s := by simp [List.getD_eq_getElem?_getD, hi]
      have hz := ssm _ hin
      refine ⟨_, atI_map_nat D.int (d := 0) hi, ?_⟩
      simp -failIfUnchanged only [dSeqS, dSet, dSetO, dRet, dRetN, dIfS, dDrop, dNext, dBreak, dCont, dNever, dShow, dFor, dApp, dPutIx, dAsg, dOp, dUn, dTst, dTru, dAnd, dOr, dNot, dAndV, dOrV, dNotV, dIfE, dCons, dNil, dTup, dLst, dCB, dCall, dCallN, dC, dVar, dChain, dSeq, dRng1, dRng2, dZip, dComp, dYes, dgName, dgTup, dgCons, dgNil, dwipe, dPeek, dPeekT, dIxO, frzAt, dNoPart, dPart, dSl, dEqV, dNeV, q000, q001, q002, q003, q004, q005, q006, q007, q008, q009, q010, q011, q012, q013, q014, q015, q016, q017, q018, q019, q020, q021, q022, q023, q024, q025, q026, q027, q028, q029, q030, q031, q032, q033, q034, q035, q036, q037, q038, q039, q040, q041, q042, q043, q044, q045, q046, q047, q048, q049, q050, q051, q052, q053, q054, q055, List.getElem?_cons_zero, List.getElem?_cons_succ, List.set_cons_zero, List.set_cons_succ, List.cons_append, List.nil_append, List.append_nil, if_true, if_false, ite_true, ite_false, Bool.false_eq_true, decide_eq_true_eq, Bool.not_true, Bool.not_false, Bool.not_eq_true', decide_eq_false_iff_not, Bool.not_not, isi_int_int, isi_int_bool, isi_int_tuple, isi_int_str, isi_int_lt, isi_bl_int, isi_bl_bool, isi_bl_lt, isi_str_str, isi_str_lt, isi_non_lt, isi_tup_tuple, isi_lst_tuple, isi_tup_lt, isi_lst_lt, okEq_int, okEq_bl, okEq_non, okEq_ils, okEq_vec, deqv_int, deqv_bl, deqv_ils, deqv_vec, true_and, and_true, and_self, reduceCtorEq, not_true_eq_false, not_false_eq_true, false_imp_iff, true_imp_iff, forall_const]
      rw [cut_map, cut_map]
      have cl : ∀ lo hi, (cutG s lo hi).length ≤ s.length := fun lo hi => by
        unfold cutG
        rw [List.length_take, List.length_drop]
        omega
      have c1 := cl none (some (i : Int))
      have c2 := cl (some ((i : Int) + 1)) none
      refine ⟨by simp, by rw [List.length_map, sizeLine_eq]; show _ + 1 ≤ _; omega, by rw [List.length_append, List.length_map, List.length_map, sizeLine_eq]; show _ + 1 + _ ≤ _; omega, by rw [List.length_map, sizeLine_eq]; omega, ?_⟩
      refine hR _ ⟨rows ++ [cutG s none (some (i : Int)) ++ [-(s.getD i 0)] ++ cutG s (some ((i : Int) + 1)) none], .val (.int i), by rw [List.length_append]; simp only [List.length_cons, List.length_nil]; omega, fun r hr z hzr => ?_, ?_⟩
      · rcases List.mem_append.mp hr with h | h
        · exact rs r h z hzr
        · rw [List.mem_singleton.mp h] at hzr
          rcases List.mem_append.mp hzr with h | h
          · rcases List.mem_append.mp h with h | h
            · exact ssm z (mem_cut h)
            · rw [List.mem_singleton.mp h]
              exact ⟨by omega, by omega⟩
          · exact ssm z (mem_cut h)
      · simp [ils]
    · rintro δ ⟨rows, j, rl, rs, rfl⟩
      exact hR _ ⟨rows, j, rs, rfl⟩
  rintro _ ⟨rows, j0, rs, rfl⟩
  simp -failIfUnchanged only [dSeqS, dSet, dSetO, dRet, dRetN, dIfS, dDrop, dNext, dBreak, dCont, dNever, dShow, dFor, dApp, dPutIx, dAsg, dOp, dUn, dTst, dTru, dAnd, dOr, dNot, dOrV, dNotV, dIfE, dCons, dNil, dTup, dLst, dCB, dCall, dCallN, dC, dVar, dSeq, dRng1, dRng2, dZip, dComp, dYes, dgName, dgTup, dgCons, dgNil, dwipe, dPeek, dPeekT, dIxO, frzAt, dNoPart, dPart, dSl, dEqV, dNeV, q000, q001, q002, q003, q004, q005, q006, q007, q008, q009, q010, q011, q012, q013, q014, q015, q016, q017, q018, q019, q020, q021, q022, q023, q024, q025, q026, q027, q028, q029, q030, q031, q032, q033, q034, q035, q036, q037, q038, q039, q040, q041, q042, q043, q044, q045, q046, q047, q048, q049, q050, q051, q052, q053, q054, q055, List.getElem?_cons_zero, List.getElem?_cons_succ, List.set_cons_zero, List.set_cons_succ, List.cons_append, List.nil_append, List.append_nil, if_true, if_false, ite_true, ite_false, Bool.false_eq_true, decide_eq_true_eq, Bool.not_true, Bool.not_false, Bool.not_eq_true', decide_eq_false_iff_not, Bool.not_not, isi_int_int, isi_int_bool, isi_int_tuple, isi_int_str, isi_int_lt, isi_bl_int, isi_bl_bool, isi_bl_lt, isi_str_str, isi_str_lt, isi_non_lt, isi_tup_tuple, isi_lst_tuple, isi_tup_lt, isi_lst_lt, okEq_int, okEq_bl, okEq_non, okEq_ils, okEq_vec, deqv_int, deqv_bl, deqv_ils, deqv_vec, true_and, and_true, and_self, reduceCtorEq, not_true_eq_false, not_false_eq_true, false_imp_iff, true_imp_iff, forall_const]
  refine for_inv _ (fun i δ => ∃ h j r u t : DS, δ = [.val (ils a), .val (ils d), .val (ils s), h, .val (.lst (rows.map ils)), j, r, .no, u, t]) ⟨_, _, _, _, _, rfl⟩ ?_ ?_
  · rintro i e δ R hi ⟨h, j, r, u, t, rfl⟩ hR
    obtain ⟨row, hrow, rfl⟩ := map_get hi
    have rsm := rs row (List.mem_of_getElem? hrow)
    simp -failIfUnchanged only [dSeqS, dSet, dSetO, dRet, dRetN, dIfS, dDrop, dNext, dBreak, dCont, dNever, dShow, dFor, dApp, dPutIx, dAsg, dOp, dUn, dTst, dTru, dAnd, dOr, dNot, dAndV, dOrV, dNotV, dIfE, dCons, dNil, dTup, dLst, dCB, dCall, dCallN, dC, dVar, dChain, dSeq, dRng1, dRng2, dZip, dComp, dYes, dgName, dgTup, dgCons, dgNil, dwipe, dPeek, dPeekT, dIxO, frzAt, dNoPart, dPart, dSl, dEqV, dNeV, q000, q001, q002, q003, q004, q005, q006, q007, q008, q009, q010, q011, q012, q013, q014, q015, q016, q017, q018, q019, q020, q021, q022, q023, q024, q025, q026, q027, q028, q029, q030, q031, q032, q033, q034, q035, q036, q037, q038, q039, q040, q041, q042, q043, q044, q045, q046, q047, q048, q049, q050, q051, q052, q053, q054, q055, List.getElem?_cons_zero, List.getElem?_cons_succ, List.set_cons_zero, List.set_cons_succ, List.cons_append, List.nil_append, List.append_nil, if_true, if_false, ite_true, ite_false, Bool.false_eq_true, decide_eq_true_eq, Bool.not_true, Bool.not_false, Bool.not_eq_true', decide_eq_false_iff_not, Bool.not_not, isi_int_int, isi_int_bool, isi_int_tuple, isi_int_str, isi_int_lt, isi_bl_int, isi_bl_bool, isi_bl_lt, isi_str_str, isi_str_lt, isi_non_lt, isi_tup_tuple, isi_lst_tuple, isi_tup_lt, isi_lst_lt, okEq_int, okEq_bl, okEq_non, okEq_ils, okEq_vec, deqv_int, deqv_bl, deqv_ils, deqv_vec, true_and, and_true, and_self, reduceCtorEq, not_true_eq_false, not_false_eq_true, false_imp_iff, true_imp_iff, forall_const, List.length_map]
    by_cases c1 : (1 : Int) ≤ row.length
    · by_cases c3 : (row.length : Int) ≤ 3
      · simp only [c1, c3]
        simp -failIfUnchanged only [dSeqS, dSet, dSetO, dRet, dRetN, dIfS, dDrop, dNext, dBreak, dCont, dNever, dShow, dFor, dApp, dPutIx, dAsg, dOp, dUn, dTst, dTru, dAnd, dOr, dNot, dAndV, dOrV, dNotV, dIfE, dCons, dNil, dTup, dLst, dCB, dCall, dCallN, dC, dVar, dChain, dSeq, dRng1, dRng2, dZip, dComp, dYes, dgName, dgTup, dgCons, dgNil, dwipe, dPeek, dPeekT, dIxO, frzAt, dNoPart, dPart, dSl, dEqV, dNeV, q000, q001, q002, q003, q004, q005, q006, q007, q008, q009, q010, q011, q012, q013, q014, q015, q016, q017, q018, q019, q020, q021, q022, q023, q024, q025, q026, q027, q028, q029, q030, q031, q032, q033, q034, q035, q036, q037, q038, q039, q040, q041, q042, q043, q044, q045, q046, q047, q048, q049, q050, q051, q052, q053, q054, q055, List.getElem?_cons_zero, List.getElem?_cons_succ, List.set_cons_zero, List.set_cons_succ, List.cons_append, List.nil_append, List.append_nil, if_true, if_false, ite_true, ite_false, Bool.false_eq_true, decide_eq_true_eq, Bool.not_true, Bool.not_false, Bool.not_eq_true', decide_eq_false_iff_not, Bool.not_not, isi_int_int, isi_int_bool, isi_int_tuple, isi_int_str, isi_int_lt, isi_bl_int, isi_bl_bool, isi_bl_lt, isi_str_str, isi_str_lt, isi_non_lt, isi_tup_tuple, isi_lst_tuple, isi_tup_lt, isi_lst_lt, okEq_int, okEq_bl, okEq_non, okEq_ils, okEq_vec, deqv_int, deqv_bl, deqv_ils, deqv_vec, true_and, and_true, and_self, reduceCtorEq, not_true_eq_false, not_false_eq_true, false_imp_iff, true_imp_iff, forall_const, List.length_map]
        have k0 : min (row.length : Int) (a.length : Int) = ((min row.length a.length : Nat) : Int) := by omega
        rw [k0]
        refine ⟨by omega, by omega, ?_⟩
        rw [Int.toNat_natCast]
        refine for_rng _ (fun i δ => ∃ j : DS, δ = [.val (ils a), .val (ils d), .val (ils s), h, .val (.lst (rows.map ils)), j, .val (ils row), .no, .val (.bl (dueAt a row i)), t]) ⟨j, ?_⟩ ?_ ?_
        · have : decide ((row.length : Int) = (a.length : Int)) = dueAt a row 0 := by
            unfold dueAt
            rw [List.range_zero, List.all_nil, Bool.and_true]
            exact decide_eq_decide.mpr (by omega)
          rw [this]
        · rintro i δ R hi ⟨j, rfl⟩ hR
          simp -failIfUnchanged only [dSeqS, dSet, dSetO, dRet, dRetN, dIfS, dDrop, dNext, dBreak, dCont, dNever, dShow, dFor, dApp, dPutIx, dAsg, dOp, dUn, dTst, dTru, dAnd, dOr, dNot, dAndV, dOrV, dNotV, dIfE, dCons, dNil, dTup, dLst, dCB, dCall, dCallN, dC, dVar, dChain, dSeq, dRng1, dRng2, dZip, dComp, dYes, dgName, dgTup, dgCons, dgNil, dwipe, dPeek, dPeekT, dIxO, frzAt, dNoPart, dPart, dSl, dEqV, dNeV, q000, q001, q002, q003, q004, q005, q006, q007, q008, q009, q010, q011, q012, q013, q014, q015, q016, q017, q018, q019, q020, q021, q022, q023, q024, q025, q026, q027, q028, q029, q030, q031, q032, q033, q034, q035, q036, q037, q038, q039, q040, q041, q042, q043, q044, q045, q046, q047, q048, q049, q050, q051, q052, q053, q054, q055, List.getElem?_cons_zero, List.getElem?_cons_succ, List.set_cons_zero, List.set_cons_succ, List.cons_append, List.nil_append, List.append_nil, if_true, if_false, ite_true, ite_false, Bool.false_eq_true, decide_eq_true_eq, Bool.not_true, Bool.not_false, Bool.not_eq_true', decide_eq_false_iff_not, Bool.not_not, isi_int_int, isi_int_bool, isi_int_tuple, isi_int_str, isi_int_lt, isi_bl_int, isi_bl_bool, isi_bl_lt, isi_str_str, isi_str_lt, isi_non_lt, isi_tup_tuple, isi_lst_tuple, isi_tup_lt, isi_lst_lt, okEq_int, okEq_bl, okEq_non, okEq_ils, okEq_vec, deqv_int, deqv_bl, deqv_ils, deqv_vec, true_and, and_true, and_self, reduceCtorEq, not_true_eq_false, not_false_eq_true, false_imp_iff, true_imp_iff, forall_const]
          have ii : i < row.length ∧ i < a.length := by omega
          have rin : row.getD i 0 ∈ row := by simp [List.getD_eq_getElem?_getD, ii.1]
          have rz := rsm _ rin
          have nx := due_next a row i
          by_cases c : dueAt a row i = true
          · rw [c] at nx ⊢
            simp -failIfUnchanged only [dSeqS, dSet, dSetO, dRet, dRetN, dIfS, dDrop, dNext, dBreak, dCont, dNever, dShow, dFor, dApp, dPutIx, dAsg, dOp, dUn, dTst, dTru, dAnd, dOr, dNot, dAndV, dOrV, dNotV, dIfE, dCons, dNil, dTup, dLst, dCB, dCall, dCallN, dC, dVar, dChain, dSeq, dRng1, dRng2, dZip, dComp, dYes, dgName, dgTup, dgCons, dgNil, dwipe, dPeek, dPeekT, dIxO, frzAt, dNoPart, dPart, dSl, dEqV, dNeV, q000, q001, q002, q003, q004, q005, q006, q007, q008, q009, q010, q011, q012, q013, q014, q015, q016, q017, q018, q019, q020, q021, q022, q023, q024, q025, q026, q027, q028, q029, q030, q031, q032, q033, q034, q035, q036, q037, q038, q039, q040, q041, q042, q043, q044, q045, q046, q047, q048, q049, q050, q051, q052, q053, q054, q055, List.getElem?_cons_zero, List.getElem?_cons_succ, List.set_cons_zero, List.set_cons_succ, List.cons_append, List.nil_append, List.append_nil, if_true, if_false, ite_true, ite_false, Bool.false_eq_true, decide_eq_true_eq, Bool.not_true, Bool.not_false, Bool.not_eq_true', decide_eq_false_iff_not, Bool.not_not, isi_int_int, isi_int_bool, isi_int_tuple, isi_int_str, isi_int_lt, isi_bl_int, isi_bl_bool, isi_bl_lt, isi_str_str, isi_str_lt, isi_non_lt, isi_tup_tuple, isi_lst_tuple, isi_tup_lt, isi_lst_lt, okEq_int, okEq_bl, okEq_non, okEq_ils, okEq_vec, deqv_int, deqv_bl, deqv_ils, deqv_vec, true_and, and_true, and_self, reduceCtorEq, not_true_eq_false, not_false_eq_true, false_imp_iff, true_imp_iff, forall_const]
            refine ⟨_, atI_map_nat D.int (d := 0) ii.2, _, atI_map_nat D.int (d := 0) ii.1, ?_⟩
            simp -failIfUnchanged only [dSeqS, dSet, dSetO, dRet, dRetN, dIfS, dDrop, dNext, dBreak, dCont, dNever, dShow, dFor, dApp, dPutIx, dAsg, dOp, dUn, dTst, dTru, dAnd, dOr, dNot, dAndV, dOrV, dNotV, dIfE, dCons, dNil, dTup, dLst, dCB, dCall, dCallN, dC, dVar, dChain, dSeq, dRng1, dRng2, dZip, dComp, dYes, dgName, dgTup, dgCons, dgNil, dwipe, dPeek, dPeekT, dIxO, frzAt, dNoPart, dPart, dSl, dEqV, dNeV, q000, q001, q002, q003, q004, q005, q006, q007, q008, q009, q010, q011, q012, q013, q014, q015, q016, q017, q018, q019, q020, q021, q022, q023, q024, q025, q026, q027, q028, q029, q030, q031, q032, q033, q034, q035, q036, q037, q038, q039, q040, q041, q042, q043, q044, q045, q046, q047, q048, q049, q050, q051, q052, q053, q054, q055, List.getElem?_cons_zero, List.getElem?_cons_succ, List.set_cons_zero, List.set_cons_succ, List.cons_append, List.nil_append, List.append_nil, if_true, if_false, ite_true, ite_false, Bool.false_eq_true, decide_eq_true_eq, Bool.not_true, Bool.not_false, Bool.not_eq_true', decide_eq_false_iff_not, Bool.not_not, isi_int_int, isi_int_bool, isi_int_tuple, isi_int_str, isi_int_lt, isi_bl_int, isi_bl_bool, isi_bl_lt, isi_str_str, isi_str_lt, isi_non_lt, isi_tup_tuple, isi_lst_tuple, isi_tup_lt, isi_lst_lt, okEq_int, okEq_bl, okEq_non, okEq_ils, okEq_vec, deqv_int, deqv_bl, deqv_ils, deqv_vec, true_and, and_true, and_self, reduceCtorEq, not_true_eq_false, not_false_eq_true, false_imp_iff, true_imp_iff, forall_const]
            refine ⟨mul_r rz.1 rz.2, hR _ ⟨.val (.int (i : Nat)), ?_⟩⟩
            rw [nx, Bool.true_and]
          · have c' : dueAt a row i = false := by simpa using c
            rw [c'] at nx ⊢
            simp -failIfUnchanged only [dSeqS, dSet, dSetO, dRet, dRetN, dIfS, dDrop, dNext, dBreak, dCont, dNever, dShow, dFor, dApp, dPutIx, dAsg, dOp, dUn, dTst, dTru, dAnd, dOr, dNot, dAndV, dOrV, dNotV, dIfE, dCons, dNil, dTup, dLst, dCB, dCall, dCallN, dC, dVar, dChain, dSeq, dRng1, dRng2, dZip, dComp, dYes, dgName, dgTup, dgCons, dgNil, dwipe, dPeek, dPeekT, dIxO, frzAt, dNoPart, dPart, dSl, dEqV, dNeV, q000, q001, q002, q003, q004, q005, q006, q007, q008, q009, q010, q011, q012, q013, q014, q015, q016, q017, q018, q019, q020, q021, q022, q023, q024, q025, q026, q027, q028, q029, q030, q031, q032, q033, q034, q035, q036, q037, q038, q039, q040, q041, q042, q043, q044, q045, q046, q047, q048, q049, q050, q051, q052, q053, q054, q055, List.getElem?_cons_zero, List.getElem?_cons_succ, List.set_cons_zero, List.set_cons_succ, List.cons_append, List.nil_append, List.append_nil, if_true, if_false, ite_true, ite_false, Bool.false_eq_true, decide_eq_true_eq, Bool.not_true, Bool.not_false, Bool.not_eq_true', decide_eq_false_iff_not, Bool.not_not, isi_int_int, isi_int_bool, isi_int_tuple, isi_int_str, isi_int_lt, isi_bl_int, isi_bl_bool, isi_bl_lt, isi_str_str, isi_str_lt, isi_non_lt, isi_tup_tuple, isi_lst_tuple, isi_tup_lt, isi_lst_lt, okEq_int, okEq_bl, okEq_non, okEq_ils, okEq_vec, deqv_int, deqv_bl, deqv_ils, deqv_vec, true_and, and_true, and_self, reduceCtorEq, not_true_eq_false, not_false_eq_true, false_imp_iff, true_imp_iff, forall_const]
            refine hR _ ⟨.val (.int (i : Nat)), ?_⟩
            rw [nx, Bool.false_and]
        · rintro δ ⟨j, rfl⟩
          rw [due_end]
          simp -failIfUnchanged only [dSeqS, dSet, dSetO, dRet, dRetN, dIfS, dDrop, dNext, dBreak, dCont, dNever, dShow, dFor, dApp, dPutIx, dAsg, dOp, dUn, dTst, dTru, dAnd, dOr, dNot, dAndV, dOrV, dNotV, dIfE, dCons, dNil, dTup, dLst, dCB, dCall, dCallN, dC, dVar, dChain, dSeq, dRng1, dRng2, dZip, dComp, dYes, dgName, dgTup, dgCons, dgNil, dwipe, dPeek, dPeekT, dIxO, frzAt, dNoPart, dPart, dSl, dEqV, dNeV, q000, q001, q002, q003, q004, q005, q006, q007, q008, q009, q010, q011, q012, q013, q014, q015, q016, q017, q018, q019, q020, q021, q022, q023, q024, q025, q026, q027, q028, q029, q030, q031, q032, q033, q034, q035, q036, q037, q038, q039, q040, q041, q042, q043, q044, q045, q046, q047, q048, q049, q050, q051, q052, q053, q054, q055, List.getElem?_cons_zero, List.getElem?_cons_succ, List.set_cons_zero, List.set_cons_succ, List.cons_append, List.nil_append, List.append_nil, if_true, if_false, ite_true, ite_false, Bool.false_eq_true, decide_eq_true_eq, Bool.not_true, Bool.not_false, Bool.not_eq_true', decide_eq_false_iff_not, Bool.not_not, isi_int_int, isi_int_bool, isi_int_tuple, isi_int_str, isi_int_lt, isi_bl_int, isi_bl_bool, isi_bl_lt, isi_str_str, isi_str_lt, isi_non_lt, isi_tup_tuple, isi_lst_tuple, isi_tup_lt, isi_lst_lt, okEq_int, okEq_bl, okEq_non, okEq_ils, okEq_vec, deqv_int, deqv_bl, deqv_ils, deqv_vec, true_and, and_true, and_self, reduceCtorEq, not_true_eq_false, not_false_eq_true, false_imp_iff, true_imp_iff, forall_const]
          refine ⟨_, _, a, row, rfl, isV_vec a, isV_ils row, rsm, ?_⟩
          simp -failIfUnchanged only [dSeqS, dSet, dSetO, dRet, dRetN, dIfS, dDrop, dNext, dBreak, dCont, dNever, dShow, dFor, dApp, dPutIx, dAsg, dOp, dUn, dTst, dTru, dAnd, dOr, dNot, dAndV, dOrV, dNotV, dIfE, dCons, dNil, dTup, dLst, dCB, dCall, dCallN, dC, dVar, dChain, dSeq, dRng1, dRng2, dZip, dComp, dYes, dgName, dgTup, dgCons, dgNil, dwipe, dPeek, dPeekT, dIxO, frzAt, dNoPart, dPart, dSl, dEqV, dNeV, q000, q001, q002, q003, q004, q005, q006, q007, q008, q009, q010, q011, q012, q013, q014, q015, q016, q017, q018, q019, q020, q021, q022, q023, q024, q025, q026, q027, q028, q029, q030, q031, q032, q033, q034, q035, q036, q037, q038, q039, q040, q041, q042, q043, q044, q045, q046, q047, q048, q049, q050, q051, q052, q053, q054, q055, List.getElem?_cons_zero, List.getElem?_cons_succ, List.set_cons_zero, List.set_cons_succ, List.cons_append, List.nil_append, List.append_nil, if_true, if_false, ite_true, ite_false, Bool.false_eq_true, decide_eq_true_eq, Bool.not_true, Bool.not_false, Bool.not_eq_true', decide_eq_false_iff_not, Bool.not_not, isi_int_int, isi_int_bool, isi_int_tuple, isi_int_str, isi_int_lt, isi_bl_int, isi_bl_bool, isi_bl_lt, isi_str_str, isi_str_lt, isi_non_lt, isi_tup_tuple, isi_lst_tuple, isi_tup_lt, isi_lst_lt, okEq_int, okEq_bl, okEq_non, okEq_ils, okEq_vec, deqv_int, deqv_bl, deqv_ils, deqv_vec, true_and, and_true, and_self, reduceCtorEq, not_true_eq_false, not_false_eq_true, false_imp_iff, true_imp_iff, forall_const]
          refine ⟨_, _, a, row, rfl, isV_ils a, isV_vec row, rsm, ?_⟩
          simp -failIfUnchanged only [dSeqS, dSet, dSetO, dRet, dRetN, dIfS, dDrop, dNext, dBreak, dCont, dNever, dShow, dFor, dApp, dPutIx, dAsg, dOp, dUn, dTst, dTru, dAnd, dOr, dNot, dAndV, dOrV, dNotV, dIfE, dCons, dNil, dTup, dLst, dCB, dCall, dCallN, dC, dVar, dChain, dSeq, dRng1, dRng2, dZip, dComp, dYes, dgName, dgTup, dgCons, dgNil, dwipe, dPeek, dPeekT, dIxO, frzAt, dNoPart, dPart, dSl, dEqV, dNeV, q000, q001, q002, q003, q004, q005, q006, q007, q008, q009, q010, q011, q012, q013, q014, q015, q016, q017, q018, q019, q020, q021, q022, q023, q024, q025, q026, q027, q028, q029, q030, q031, q032, q033, q034, q035, q036, q037, q038, q039, q040, q041, q042, q043, q044, q045, q046, q047, q048, q049, q050, q051, q052, q053, q054, q055, List.getElem?_cons_zero, List.getElem?_cons_succ, List.set_cons_zero, List.set_cons_succ, List.cons_append, List.nil_append, List.append_nil, if_true, if_false, ite_true, ite_false, Bool.false_eq_true, decide_eq_true_eq, Bool.not_true, Bool.not_false, Bool.not_eq_true', decide_eq_false_iff_not, Bool.not_not, isi_int_int, isi_int_bool, isi_int_tuple, isi_int_str, isi_int_lt, isi_bl_int, isi_bl_bool, isi_bl_lt, isi_str_str, isi_str_lt, isi_non_lt, isi_tup_tuple, isi_lst_tuple, isi_tup_lt, isi_lst_lt, okEq_int, okEq_bl, okEq_non, okEq_ils, okEq_vec, deqv_int, deqv_bl, deqv_ils, deqv_vec, true_and, and_true, and_self, reduceCtorEq, not_true_eq_false, not_false_eq_true, false_imp_iff, true_imp_iff, forall_const]
          exact hR _ ⟨.val (ils row), j, .val (ils row), .val (.bl (hasSigns a row)), .val (.bl (hasSigns a row)), rfl⟩
      · simp only [c1, c3]
        simp -failIfUnchanged only [dSeqS, dSet, dSetO, dRet, dRetN, dIfS, dDrop, dNext, dBreak, dCont, dNever, dShow, dFor, dApp, dPutIx, dAsg, dOp, dUn, dTst, dTru, dAnd, dOr, dNot, dAndV, dOrV, dNotV, dIfE, dCons, dNil, dTup, dLst, dCB, dCall, dCallN, dC, dVar, dChain, dSeq, dRng1, dRng2, dZip, dComp, dYes, dgName, dgTup, dgCons, dgNil, dwipe, dPeek, dPeekT, dIxO, frzAt, dNoPart, dPart, dSl, dEqV, dNeV, q000, q001, q002, q003, q004, q005, q006, q007, q008, q009, q010, q011, q012, q013, q014, q015, q016, q017, q018, q019, q020, q021, q022, q023, q024, q025, q026, q027, q028, q029, q030, q031, q032, q033, q034, q035, q036, q037, q038, q039, q040, q041, q042, q043, q044, q045, q046, q047, q048, q049, q050, q051, q052, q053, q054, q055, List.getElem?_cons_zero, List.getElem?_cons_succ, List.set_cons_zero, List.set_cons_succ, List.cons_append, List.nil_append, List.append_nil, if_true, if_false, ite_true, ite_false, Bool.false_eq_true, decide_eq_true_eq, Bool.not_true, Bool.not_false, Bool.not_eq_true', decide_eq_false_iff_not, Bool.not_not, isi_int_int, isi_int_bool, isi_int_tuple, isi_int_str, isi_int_lt, isi_bl_int, isi_bl_bool, isi_bl_lt, isi_str_str, isi_str_lt, isi_non_lt, isi_tup_tuple, isi_lst_tuple, isi_tup_lt, isi_lst_lt, okEq_int, okEq_bl, okEq_non, okEq_ils, okEq_vec, deqv_int, deqv_bl, deqv_ils, deqv_vec, true_and, and_true, and_self, reduceCtorEq, not_true_eq_false, not_false_eq_true, false_imp_iff, true_imp_iff, forall_const]
        exact hR _ ⟨_, _, _, _, _, rfl⟩
    · simp only [c1]
      simp -failIfUnchanged only [dSeqS, dSet, dSetO, dRet, dRetN, dIfS, dDrop, dNext, dBreak, dCont, dNever, dShow, dFor, dApp, dPutIx, dAsg, dOp, dUn, dTst, dTru, dAnd, dOr, dNot, dAndV, dOrV, dNotV, dIfE, dCons, dNil, dTup, dLst, dCB, dCall, dCallN, dC, dVar, dChain, dSeq, dRng1, dRng2, dZip, dComp, dYes, dgName, dgTup, dgCons, dgNil, dwipe, dPeek, dPeekT, dIxO, frzAt, dNoPart, dPart, dSl, dEqV, dNeV, q000, q001, q002, q003, q004, q005, q006, q007, q008, q009, q010, q011, q012, q013, q014, q015, q016, q017, q018, q019, q020, q021, q022, q023, q024, q025, q026, q027, q028, q029, q030, q031, q032, q033, q034, q035, q036, q037, q038, q039, q040, q041, q042, q043, q044, q045, q046, q047, q048, q049, q050, q051, q052, q053, q054, q055, List.getElem?_cons_zero, List.getElem?_cons_succ, List.set_cons_zero, List.set_cons_succ, List.cons_append, List.nil_append, List.append_nil, if_true, if_false, ite_true, ite_false, Bool.false_eq_true, decide_eq_true_eq, Bool.not_true, Bool.not_false, Bool.not_eq_true', decide_eq_false_iff_not, Bool.not_not, isi_int_int, isi_int_bool, isi_int_tuple, isi_int_str, isi_int_lt, isi_bl_int, isi_bl_bool, isi_bl_lt, isi_str_str, isi_str_lt, isi_non_lt, isi_tup_tuple, isi_lst_tuple, isi_tup_lt, isi_lst_lt, okEq_int, okEq_bl, okEq_non, okEq_ils, okEq_vec, deqv_int, deqv_bl, deqv_ils, deqv_vec, true_and, and_true, and_self, reduceCtorEq, not_true_eq_false, not_false_eq_true, false_imp_iff, true_imp_iff, forall_const]
      exact hR _ ⟨h, j, .val (ils row), u, t, rfl⟩
  · rintro δ ⟨h, j, r, u, t, rfl⟩
    simp -failIfUnchanged only [dSeqS, dSet, dSetO, dRet, dRetN, dIfS, dDrop, dNext, dBreak, dCont, dNever, dShow, dFor, dApp, dPutIx, dAsg, dOp, dUn, dTst, dTru, dAnd, dOr, dNot, dAndV, dOrV, dNotV, dIfE, dCons, dNil, dTup, dLst, dCB, dCall, dCallN, dC, dVar, dChain, dSeq, dRng1, dRng2, dZip, dComp, dYes, dgName, dgTup, dgCons, dgNil, dwipe, dPeek, dPeekT, dIxO, frzAt, dNoPart, dPart, dSl, dEqV, dNeV, q000, q001, q002, q003, q004, q005, q006, q007, q008, q009, q010, q011, q012, q013, q014, q015, q016, q017, q018, q019, q020, q021, q022, q023, q024, q025, q026, q027, q028, q029, q030, q031, q032, q033, q034, q035, q036, q037, q038, q039, q040, q041, q042, q043, q044, q045, q046, q047, q048, q049, q050, q051, q052, q053, q054, q055, List.getElem?_cons_zero, List.getElem?_cons_succ, List.set_cons_zero, List.set_cons_succ, List.cons_append, List.nil_append, List.append_nil, if_true, if_false, ite_true, ite_false, Bool.false_eq_true, decide_eq_true_eq, Bool.not_true, Bool.not_false, Bool.not_eq_true', decide_eq_false_iff_not, Bool.not_not, isi_int_int, isi_int_bool, isi_int_tuple, isi_int_str, isi_int_lt, isi_bl_int, isi_bl_bool, isi_bl_lt, isi_str_str, isi_str_lt, isi_non_lt, isi_tup_tuple, isi_lst_tuple, isi_tup_lt, isi_lst_lt, okEq_int, okEq_bl, okEq_non, okEq_ils, okEq_vec, deqv_int, deqv_bl, deqv_ils, deqv_vec, true_and, and_true, and_self, reduceCtorEq, not_true_eq_false, not_false_eq_true, false_imp_iff, true_imp_iff, forall_const]
    exact hq

/-! back -/
def F__law_back : FD := fun ds Q _ => ∃ (a : List Int) (b n : Nat) (z u : Int), ds = [ils a, .lst ((figs b a n).map ils), .int b, .int z, .int u] ∧ 1 ≤ a.length ∧ a.length ≤ 3 ∧ (∀ y ∈ a, y.natAbs < 2 ^ 3100) ∧ 2 ≤ b ∧ b ≤ 8 ∧ n ≤ 3100 ∧ isN b a n ∧ 0 ≤ z ∧ z ≤ 5 ∧ Q (.bl true)
def g__law_back : DSt := (dSeqS (dSet 5 (dCB dLenV (dCons (dVar 0) dNil)))
    (dSeqS (dIfS (dTst (dOp dLeV (dOp dAddV (dCB dLenV (dCons (dVar 1) dNil)) (dVar 3)) (dC (.int 1100)))) (dSeqS (dSet 9 (dComp (dSeq (dVar 1)) true (dgName 12) dYes (dCB dListV (dCons (dVar 12) dNil)) [12]))
    (dSeqS (dIfS (dOr (dNot (dTru (dCall F__law_same [] (dCons (dCallN 2 1 F_order_of (dCons (dVar 9) (dCons (dVar 5) dNil)) (dCons (dVar 2) dNil)) (dCons (dVar 0) dNil))))) (dTst (dOp dNeV (dVar 9) (dVar 1)))) (dRet (dC (.bl false))) dNext)
    (dSeqS (dSet 10 (dCB dTupleV (dCons (dOp dAddV (dComp (dRng1 (dCons (dVar 3) dNil)) false (dgName 13) dYes (dCB dTupleV (dCons (dOp dMulV (dLst (dCons (dC (.int 0)) dNil)) (dVar 5)) dNil)) [13]) (dComp (dSeq (dVar 1)) true (dgName 12) dYes (dCB dListV (dCons (dVar 12) dNil)) [12])) dNil)))
    (dIfS (dNot (dTru (dCall F__law_same [] (dCons (dCallN 2 1 F_order_of (dCons (dVar 10) (dCons (dVar 5) dNil)) (dCons (dVar 2) dNil)) (dCons (dVar 0) dNil))))) (dRet (dC (.bl false))) dNext)))) dNext)
    (dSeqS (dSet 6 (dOp dModV (dCB dIntV (dCons (dVar 4) dNil)) (dOp dAddV (dCB dMinV (dCons (dCB dLenV (dCons (dVar 1) dNil)) (dCons (dC (.int 1100)) dNil))) (dC (.int 1)))))
    (dSeqS (dSet 7 (dCall F__law_power [] (dCons (dVar 2) (dCons (dOp dSubV (dCB dLenV (dCons (dVar 1) dNil)) (dVar 6)) dNil))))
    (dSeqS (dSet 8 (dComp (dSeq (dVar 0)) true (dgName 11) dYes (dOp dMulV (dOp dSubV (dC (.int 1)) (dOp dMulV (dC (.int 2)) (dCB dIntV (dCons (dOp dLtV (dVar 11) (dC (.int 0))) dNil)))) (dOp dFdivV (dCB dAbsV (dCons (dVar 11) dNil)) (dVar 7))) [11]))
    (dRet (dCall F__law_same [] (dCons (dCallN 2 1 F_order_of (dCons (dSl (dVar 1) dNoPart (dPart (dVar 6))) (dCons (dVar 5) dNil)) (dCons (dVar 2) dNil)) (dCons (dVar 8) dNil)))))))))
theorem pow_small {b n k : Nat} {a : List Int} (hb : 2 ≤ b) (hb8 : b ≤ 8) (h : isN b a n) (ha : ∀ y ∈ a, y.natAbs < 2 ^ 3100) (hk : k ≤ n) : b ^ k < 2 ^ 9000 := by
  have h1 : b ^ k ≤ b ^ n := Nat.pow_le_pow_right (by omega) hk
  cases n with
  | zero =>
    have : k = 0 := by omega
    subst this
    rw [Nat.pow_zero]
    exact Nat.one_lt_two_pow (by omega)
  | succ m =>
    obtain ⟨x, hx, hp⟩ := h.low m (Nat.lt_succ_self m)
    have h2 : b ^ m ≤ x.natAbs := by
      by_cases z : x.natAbs < b ^ m
      · rw [Nat.div_eq_of_lt z] at hp; exact absurd hp (Nat.lt_irrefl _)
      · omega
    have h3 := ha x hx
    have h4 : b ^ (m + 1) ≤ 2 ^ 3100 * 2 ^ 3 := by
      rw [Nat.pow_succ]
      exact Nat.mul_le_mul (by omega) hb8
    rw [← Nat.pow_add] at h4
    exact Nat.lt_of_le_of_lt (Nat.le_trans h1 h4) (Nat.pow_lt_pow_right (a := 2) (by omega) (by omega))
theorem cut_take {α : Type} (xs : List α) (k : Nat) : cutG xs none (some (k : Int)) = xs.take k := by
  unfold cutG
  rw [HT.sIx_nat]
  show (xs.drop 0).take (min k xs.length - 0) = _
  rw [List.drop_zero, Nat.sub_zero]
  by_cases h : k ≤ xs.length
  · rw [Nat.min_eq_left h]
  · rw [Nat.min_eq_right (by omega), List.take_length, List.take_of_length_le (by omega)]
theorem does__law_back : Does ["vector", "rows", "root", "zeros", "upto", "width", "rest", "power", "due", "handed", "longer", "entry", "row", "k"] ["vector", "rows", "root", "zeros", "upto"] F__law_back g__law_back := by
  rintro ds Q Xd ⟨a, b, n, z, u, rfl, ha1, ha3, hbig, hb, hb8, hn, tn, z0, z5, hq⟩
  refine ⟨rfl, ?_⟩
  show g__law_back _ [.val _, .val _, .val _, .val _, .val _, .no, .no, .no, .no, .no, .no, .no, .no, .no]
  have fl := figs_len b a n
  have full := order_figs tn
  have wn : ((a.length : Nat) : Int).toNat = a.length := Int.toNat_natCast _
  unfold g__law_back
  refine seq_cut (fun δ => δ = [.val (ils a), .val (.lst ((figs b a n).map ils)), .val (.int b), .val (.int z), .val (.int u), .val (.int a.length), .no, .no, .no, .no, .no, .no, .no, .no]) ?_ ?_
  · intro R hR
    simp -failIfUnchanged only [dSeqS, dSet, dSetO, dRet, dRetN, dIfS, dDrop, dNext, dBreak, dCont, dNever, dShow, dFor, dApp, dPutIx, dAsg, dOp, dUn, dTst, dTru, dAnd, dOr, dNot, dAndV, dOrV, dNotV, dIfE, dCons, dNil, dTup, dLst, dCB, dCall, dCallN, dC, dVar, dChain, dSeq, dRng1, dRng2, dZip, dComp, dYes, dgName, dgTup, dgCons, dgNil, dwipe, dPeek, dPeekT, dIxO, frzAt, dNoPart, dPart, dSl, dEqV, dNeV, q000, q001, q002, q003, q004, q005, q006, q007, q008, q009, q010, q011, q012, q013, q014, q015, q016, q017, q018, q019, q020, q021, q022, q023, q024, q025, q026, q027, q028, q029, q030, q031, q032, q033, q034, q035, q036, q037, q038, q039, q040, q041, q042, q043, q044, q045, q046, q047, q048, q049, q050, q051, q052, q053, q054, q055, List.getElem?_cons_zero, List.getElem?_cons_succ, List.set_cons_zero, List.set_cons_succ, List.cons_append, List.nil_append, List.append_nil, if_true, if_false, ite_true, ite_false, Bool.false_eq_true, decide_eq_true_eq, Bool.not_true, Bool.not_false, Bool.not_eq_true', decide_eq_false_iff_not, Bool.not_not, isi_int_int, isi_int_bool, isi_int_tuple, isi_int_str, isi_int_lt, isi_bl_int, isi_bl_bool, isi_bl_lt, isi_str_str, isi_str_lt, isi_non_lt, isi_tup_tuple, isi_lst_tuple, isi_tup_lt, isi_lst_lt, okEq_int, okEq_bl, okEq_non, okEq_ils, okEq_vec, deqv_int, deqv_bl, deqv_ils, deqv_vec, true_and, and_true, and_self, reduceCtorEq, not_true_eq_false, not_false_eq_true, false_imp_iff, true_imp_iff, forall_const, List.length_map]
    exact hR _ rfl
  rintro _ rfl
  refine seq_cut (fun δ => ∃ h l : DS, δ = [.val (ils a), .val (.lst ((figs b a n).map ils)), .val (.int b), .val (.int z), .val (.int u), .val (.int a.length), .no, .no, .no, h, l, .no, .no, .no]) ?_ ?_
  · intro R hR
    simp -failIfUnchanged only [dSeqS, dSet, dSetO, dRet, dRetN, dIfS, dDrop, dNext, dBreak, dCont, dNever, dShow, dFor, dApp, dPutIx, dAsg, dOp, dUn, dTst, dTru, dAnd, dOr, dNot, dAndV, dOrV, dNotV, dIfE, dCons, dNil, dTup, dLst, dCB, dCall, dCallN, dC, dVar, dChain, dSeq, dRng1, dRng2, dZip, dComp, dYes, dgName, dgTup, dgCons, dgNil, dwipe, dPeek, dPeekT, dIxO, frzAt, dNoPart, dPart, dSl, dEqV, dNeV, q000, q001, q002, q003, q004, q005, q006, q007, q008, q009, q010, q011, q012, q013, q014, q015, q016, q017, q018, q019, q020, q021, q022, q023, q024, q025, q026, q027, q028, q029, q030, q031, q032, q033, q034, q035, q036, q037, q038, q039, q040, q041, q042, q043, q044, q045, q046, q047, q048, q049, q050, q051, q052, q053, q054, q055, List.getElem?_cons_zero, List.getElem?_cons_succ, List.set_cons_zero, List.set_cons_succ, List.cons_append, List.nil_append, List.append_nil, if_true, if_false, ite_true, ite_false, Bool.false_eq_true, decide_eq_true_eq, Bool.not_true, Bool.not_false, Bool.not_eq_true', decide_eq_false_iff_not, Bool.not_not, isi_int_int, isi_int_bool, isi_int_tuple, isi_int_str, isi_int_lt, isi_bl_int, isi_bl_bool, isi_bl_lt, isi_str_str, isi_str_lt, isi_non_lt, isi_tup_tuple, isi_lst_tuple, isi_tup_lt, isi_lst_lt, okEq_int, okEq_bl, okEq_non, okEq_ils, okEq_vec, deqv_int, deqv_bl, deqv_ils, deqv_vec, true_and, and_true, and_self, reduceCtorEq, not_true_eq_false, not_false_eq_true, false_imp_iff, true_imp_iff, forall_const, List.length_map]
    by_cases hz : ((figs b a n).length : Int) + z ≤ 1100
    · rw [if_pos hz]
      refine comp_map ils ils (figs b a n) (fun r hr R hR => ?_) ?_
      · simp -failIfUnchanged only [dSeqS, dSet, dSetO, dRet, dRetN, dIfS, dDrop, dNext, dBreak, dCont, dNever, dShow, dFor, dApp, dPutIx, dAsg, dOp, dUn, dTst, dTru, dAnd, dOr, dNot, dAndV, dOrV, dNotV, dIfE, dCons, dNil, dTup, dLst, dCB, dCall, dCallN, dC, dVar, dChain, dSeq, dRng1, dRng2, dZip, dComp, dYes, dgName, dgTup, dgCons, dgNil, dwipe, dPeek, dPeekT, dIxO, frzAt, dNoPart, dPart, dSl, dEqV, dNeV, q000, q001, q002, q003, q004, q005, q006, q007, q008, q009, q010, q011, q012, q013, q014, q015, q016, q017, q018, q019, q020, q021, q022, q023, q024, q025, q026, q027, q028, q029, q030, q031, q032, q033, q034, q035, q036, q037, q038, q039, q040, q041, q042, q043, q044, q045, q046, q047, q048, q049, q050, q051, q052, q053, q054, q055, List.getElem?_cons_zero, List.getElem?_cons_succ, List.set_cons_zero, List.set_cons_succ, List.cons_append, List.nil_append, List.append_nil, if_true, if_false, ite_true, ite_false, Bool.false_eq_true, decide_eq_true_eq, Bool.not_true, Bool.not_false, Bool.not_eq_true', decide_eq_false_iff_not, Bool.not_not, isi_int_int, isi_int_bool, isi_int_tuple, isi_int_str, isi_int_lt, isi_bl_int, isi_bl_bool, isi_bl_lt, isi_str_str, isi_str_lt, isi_non_lt, isi_tup_tuple, isi_lst_tuple, isi_tup_lt, isi_lst_lt, okEq_int, okEq_bl, okEq_non, okEq_ils, okEq_vec, deqv_int, deqv_bl, deqv_ils, deqv_vec, true_and, and_true, and_self, reduceCtorEq, not_true_eq_false, not_false_eq_true, false_imp_iff, true_imp_iff, forall_const]
        exact hR
      refine ⟨rfl, rfl, _, figs b a n, a.length, b, rfl, isRows_lst _, by omega, by omega, by omega, by omega, ?_⟩
      rw [wn, full]
      refine ⟨a, _, rfl, isV_ils a, by omega, ?_⟩
      simp -failIfUnchanged only [dSeqS, dSet, dSetO, dRet, dRetN, dIfS, dDrop, dNext, dBreak, dCont, dNever, dShow, dFor, dApp, dPutIx, dAsg, dOp, dUn, dTst, dTru, dAnd, dOr, dNot, dAndV, dOrV, dNotV, dIfE, dCons, dNil, dTup, dLst, dCB, dCall, dCallN, dC, dVar, dChain, dSeq, dRng1, dRng2, dZip, dComp, dYes, dgName, dgTup, dgCons, dgNil, dwipe, dPeek, dPeekT, dIxO, frzAt, dNoPart, dPart, dSl, dEqV, dNeV, q000, q001, q002, q003, q004, q005, q006, q007, q008, q009, q010, q011, q012, q013, q014, q015, q016, q017, q018, q019, q020, q021, q022, q023, q024, q025, q026, q027, q028, q029, q030, q031, q032, q033, q034, q035, q036, q037, q038, q039, q040, q041, q042, q043, q044, q045, q046, q047, q048, q049, q050, q051, q052, q053, q054, q055, List.getElem?_cons_zero, List.getElem?_cons_succ, List.set_cons_zero, List.set_cons_succ, List.cons_append, List.nil_append, List.append_nil, if_true, if_false, ite_true, ite_false, Bool.false_eq_true, decide_eq_true_eq, Bool.not_true, Bool.not_false, Bool.not_eq_true', decide_eq_false_iff_not, Bool.not_not, isi_int_int, isi_int_bool, isi_int_tuple, isi_int_str, isi_int_lt, isi_bl_int, isi_bl_bool, isi_bl_lt, isi_str_str, isi_str_lt, isi_non_lt, isi_tup_tuple, isi_lst_tuple, isi_tup_lt, isi_lst_lt, okEq_int, okEq_bl, okEq_non, okEq_ils, okEq_vec, deqv_int, deqv_bl, deqv_ils, deqv_vec, true_and, and_true, and_self, reduceCtorEq, not_true_eq_false, not_false_eq_true, false_imp_iff, true_imp_iff, forall_const]
      have ok := okEq_rows (figs b a n)
      have rf := deqv_refl ok
      simp only [ok, rf]
      simp -failIfUnchanged only [dSeqS, dSet, dSetO, dRet, dRetN, dIfS, dDrop, dNext, dBreak, dCont, dNever, dShow, dFor, dApp, dPutIx, dAsg, dOp, dUn, dTst, dTru, dAnd, dOr, dNot, dAndV, dOrV, dNotV, dIfE, dCons, dNil, dTup, dLst, dCB, dCall, dCallN, dC, dVar, dChain, dSeq, dRng1, dRng2, dZip, dComp, dYes, dgName, dgTup, dgCons, dgNil, dwipe, dPeek, dPeekT, dIxO, frzAt, dNoPart, dPart, dSl, dEqV, dNeV, q000, q001, q002, q003, q004, q005, q006, q007, q008, q009, q010, q011, q012, q013, q014, q015, q016, q017, q018, q019, q020, q021, q022, q023, q024, q025, q026, q027, q028, q029, q030, q031, q032, q033, q034, q035, q036, q037, q038, q039, q040, q041, q042, q043, q044, q045, q046, q047, q048, q049, q050, q051, q052, q053, q054, q055, List.getElem?_cons_zero, List.getElem?_cons_succ, List.set_cons_zero, List.set_cons_succ, List.cons_append, List.nil_append, List.append_nil, if_true, if_false, ite_true, ite_false, Bool.false_eq_true, decide_eq_true_eq, Bool.not_true, Bool.not_false, Bool.not_eq_true', decide_eq_false_iff_not, Bool.not_not, isi_int_int, isi_int_bool, isi_int_tuple, isi_int_str, isi_int_lt, isi_bl_int, isi_bl_bool, isi_bl_lt, isi_str_str, isi_str_lt, isi_non_lt, isi_tup_tuple, isi_lst_tuple, isi_tup_lt, isi_lst_lt, okEq_int, okEq_bl, okEq_non, okEq_ils, okEq_vec, deqv_int, deqv_bl, deqv_ils, deqv_vec, true_and, and_true, and_self, reduceCtorEq, not_true_eq_false, not_false_eq_true, false_imp_iff, true_imp_iff, forall_const]
      refine ⟨by omega, by omega, by rw [rngD_len, sizeLine_eq]; omega, ?_⟩
      refine comp_rng _ (fun _ => vec (List.replicate a.length 0)) (fun i hi R hR => ?_) ?_
      · simp -failIfUnchanged only [dSeqS, dSet, dSetO, dRet, dRetN, dIfS, dDrop, dNext, dBreak, dCont, dNever, dShow, dFor, dApp, dPutIx, dAsg, dOp, dUn, dTst, dTru, dAnd, dOr, dNot, dAndV, dOrV, dNotV, dIfE, dCons, dNil, dTup, dLst, dCB, dCall, dCallN, dC, dVar, dChain, dSeq, dRng1, dRng2, dZip, dComp, dYes, dgName, dgTup, dgCons, dgNil, dwipe, dPeek, dPeekT, dIxO, frzAt, dNoPart, dPart, dSl, dEqV, dNeV, q000, q001, q002, q003, q004, q005, q006, q007, q008, q009, q010, q011, q012, q013, q014, q015, q016, q017, q018, q019, q020, q021, q022, q023, q024, q025, q026, q027, q028, q029, q030, q031, q032, q033, q034, q035, q036, q037, q038, q039, q040, q041, q042, q043, q044, q045, q046, q047, q048, q049, q050, q051, q052, q053, q054, q055, List.getElem?_cons_zero, List.getElem?_cons_succ, List.set_cons_zero, List.set_cons_succ, List.cons_append, List.nil_append, List.append_nil, if_true, if_false, ite_true, ite_false, Bool.false_eq_true, decide_eq_true_eq, Bool.not_true, Bool.not_false, Bool.not_eq_true', decide_eq_false_iff_not, Bool.not_not, isi_int_int, isi_int_bool, isi_int_tuple, isi_int_str, isi_int_lt, isi_bl_int, isi_bl_bool, isi_bl_lt, isi_str_str, isi_str_lt, isi_non_lt, isi_tup_tuple, isi_lst_tuple, isi_tup_lt, isi_lst_lt, okEq_int, okEq_bl, okEq_non, okEq_ils, okEq_vec, deqv_int, deqv_bl, deqv_ils, deqv_vec, true_and, and_true, and_self, reduceCtorEq, not_true_eq_false, not_false_eq_true, false_imp_iff, true_imp_iff, forall_const]
        refine ⟨by decide, by omega, by omega, by rw [sizeLine_eq]; show 1 * _ ≤ _; omega, ?_⟩
        rw [flat_rep, wn]
        exact hR
      refine comp_map ils ils (figs b a n) (fun r hr R hR => ?_) ?_
      · simp -failIfUnchanged only [dSeqS, dSet, dSetO, dRet, dRetN, dIfS, dDrop, dNext, dBreak, dCont, dNever, dShow, dFor, dApp, dPutIx, dAsg, dOp, dUn, dTst, dTru, dAnd, dOr, dNot, dAndV, dOrV, dNotV, dIfE, dCons, dNil, dTup, dLst, dCB, dCall, dCallN, dC, dVar, dChain, dSeq, dRng1, dRng2, dZip, dComp, dYes, dgName, dgTup, dgCons, dgNil, dwipe, dPeek, dPeekT, dIxO, frzAt, dNoPart, dPart, dSl, dEqV, dNeV, q000, q001, q002, q003, q004, q005, q006, q007, q008, q009, q010, q011, q012, q013, q014, q015, q016, q017, q018, q019, q020, q021, q022, q023, q024, q025, q026, q027, q028, q029, q030, q031, q032, q033, q034, q035, q036, q037, q038, q039, q040, q041, q042, q043, q044, q045, q046, q047, q048, q049, q050, q051, q052, q053, q054, q055, List.getElem?_cons_zero, List.getElem?_cons_succ, List.set_cons_zero, List.set_cons_succ, List.cons_append, List.nil_append, List.append_nil, if_true, if_false, ite_true, ite_false, Bool.false_eq_true, decide_eq_true_eq, Bool.not_true, Bool.not_false, Bool.not_eq_true', decide_eq_false_iff_not, Bool.not_not, isi_int_int, isi_int_bool, isi_int_tuple, isi_int_str, isi_int_lt, isi_bl_int, isi_bl_bool, isi_bl_lt, isi_str_str, isi_str_lt, isi_non_lt, isi_tup_tuple, isi_lst_tuple, isi_tup_lt, isi_lst_lt, okEq_int, okEq_bl, okEq_non, okEq_ils, okEq_vec, deqv_int, deqv_bl, deqv_ils, deqv_vec, true_and, and_true, and_self, reduceCtorEq, not_true_eq_false, not_false_eq_true, false_imp_iff, true_imp_iff, forall_const]
        exact hR
      rw [show (List.range z.toNat).map (fun _ => vec (List.replicate a.length 0)) = (List.replicate z.toNat (List.replicate a.length (0 : Int))).map vec by
        rw [List.map_replicate]
        refine List.ext_getElem (by simp) fun i h1 h2 => by simp]
      simp -failIfUnchanged only [dSeqS, dSet, dSetO, dRet, dRetN, dIfS, dDrop, dNext, dBreak, dCont, dNever, dShow, dFor, dApp, dPutIx, dAsg, dOp, dUn, dTst, dTru, dAnd, dOr, dNot, dAndV, dOrV, dNotV, dIfE, dCons, dNil, dTup, dLst, dCB, dCall, dCallN, dC, dVar, dChain, dSeq, dRng1, dRng2, dZip, dComp, dYes, dgName, dgTup, dgCons, dgNil, dwipe, dPeek, dPeekT, dIxO, frzAt, dNoPart, dPart, dSl, dEqV, dNeV, q000, q001, q002, q003, q004, q005, q006, q007, q008, q009, q010, q011, q012, q013, q014, q015, q016, q017, q018, q019, q020, q021, q022, q023, q024, q025, q026, q027, q028, q029, q030, q031, q032, q033, q034, q035, q036, q037, q038, q039, q040, q041, q042, q043, q044, q045, q046, q047, q048, q049, q050, q051, q052, q053, q054, q055, List.getElem?_cons_zero, List.getElem?_cons_succ, List.set_cons_zero, List.set_cons_succ, List.cons_append, List.nil_append, List.append_nil, if_true, if_false, ite_true, ite_false, Bool.false_eq_true, decide_eq_true_eq, Bool.not_true, Bool.not_false, Bool.not_eq_true', decide_eq_false_iff_not, Bool.not_not, isi_int_int, isi_int_bool, isi_int_tuple, isi_int_str, isi_int_lt, isi_bl_int, isi_bl_bool, isi_bl_lt, isi_str_str, isi_str_lt, isi_non_lt, isi_tup_tuple, isi_lst_tuple, isi_tup_lt, isi_lst_lt, okEq_int, okEq_bl, okEq_non, okEq_ils, okEq_vec, deqv_int, deqv_bl, deqv_ils, deqv_vec, true_and, and_true, and_self, reduceCtorEq, not_true_eq_false, not_false_eq_true, false_imp_iff, true_imp_iff, forall_const]
      refine ⟨by rw [List.length_map, List.length_map, List.length_replicate, fl, sizeLine_eq]; omega, rfl, rfl, _, List.replicate z.toNat (List.replicate a.length 0) ++ figs b a n, a.length, b, rfl, isRows_mix _ _, by omega, by omega, by omega, by omega, ?_⟩
      rw [wn, ord_zeros, full]
      refine ⟨a, _, rfl, isV_ils a, by omega, ?_⟩
      simp -failIfUnchanged only [dSeqS, dSet, dSetO, dRet, dRetN, dIfS, dDrop, dNext, dBreak, dCont, dNever, dShow, dFor, dApp, dPutIx, dAsg, dOp, dUn, dTst, dTru, dAnd, dOr, dNot, dAndV, dOrV, dNotV, dIfE, dCons, dNil, dTup, dLst, dCB, dCall, dCallN, dC, dVar, dChain, dSeq, dRng1, dRng2, dZip, dComp, dYes, dgName, dgTup, dgCons, dgNil, dwipe, dPeek, dPeekT, dIxO, frzAt, dNoPart, dPart, dSl, dEqV, dNeV, q000, q001, q002, q003, q004, q005, q006, q007, q008, q009, q010, q011, q012, q013, q014, q015, q016, q017, q018, q019, q020, q021, q022, q023, q024, q025, q026, q027, q028, q029, q030, q031, q032, q033, q034, q035, q036, q037, q038, q039, q040, q041, q042, q043, q044, q045, q046, q047, q048, q049, q050, q051, q052, q053, q054, q055, List.getElem?_cons_zero, List.getElem?_cons_succ, List.set_cons_zero, List.set_cons_succ, List.cons_append, List.nil_append, List.append_nil, if_true, if_false, ite_true, ite_false, Bool.false_eq_true, decide_eq_true_eq, Bool.not_true, Bool.not_false, Bool.not_eq_true', decide_eq_false_iff_not, Bool.not_not, isi_int_int, isi_int_bool, isi_int_tuple, isi_int_str, isi_int_lt, isi_bl_int, isi_bl_bool, isi_bl_lt, isi_str_str, isi_str_lt, isi_non_lt, isi_tup_tuple, isi_lst_tuple, isi_tup_lt, isi_lst_lt, okEq_int, okEq_bl, okEq_non, okEq_ils, okEq_vec, deqv_int, deqv_bl, deqv_ils, deqv_vec, true_and, and_true, and_self, reduceCtorEq, not_true_eq_false, not_false_eq_true, false_imp_iff, true_imp_iff, forall_const]
      exact hR _ ⟨_, _, rfl⟩
    · rw [if_neg hz]
      exact hR _ ⟨_, _, rfl⟩
  rintro _ ⟨h, l, rfl⟩
  refine seq_cut (fun δ => ∃ k : Nat, k ≤ n ∧ δ = [.val (ils a), .val (.lst ((figs b a n).map ils)), .val (.int b), .val (.int z), .val (.int u), .val (.int a.length), .val (.int k), .no, .no, h, l, .no, .no, .no]) ?_ ?_
  · intro R hR
    simp -failIfUnchanged only [dSeqS, dSet, dSetO, dRet, dRetN, dIfS, dDrop, dNext, dBreak, dCont, dNever, dShow, dFor, dApp, dPutIx, dAsg, dOp, dUn, dTst, dTru, dAnd, dOr, dNot, dAndV, dOrV, dNotV, dIfE, dCons, dNil, dTup, dLst, dCB, dCall, dCallN, dC, dVar, dChain, dSeq, dRng1, dRng2, dZip, dComp, dYes, dgName, dgTup, dgCons, dgNil, dwipe, dPeek, dPeekT, dIxO, frzAt, dNoPart, dPart, dSl, dEqV, dNeV, q000, q001, q002, q003, q004, q005, q006, q007, q008, q009, q010, q011, q012, q013, q014, q015, q016, q017, q018, q019, q020, q021, q022, q023, q024, q025, q026, q027, q028, q029, q030, q031, q032, q033, q034, q035, q036, q037, q038, q039, q040, q041, q042, q043, q044, q045, q046, q047, q048, q049, q050, q051, q052, q053, q054, q055, List.getElem?_cons_zero, List.getElem?_cons_succ, List.set_cons_zero, List.set_cons_succ, List.cons_append, List.nil_append, List.append_nil, if_true, if_false, ite_true, ite_false, Bool.false_eq_true, decide_eq_true_eq, Bool.not_true, Bool.not_false, Bool.not_eq_true', decide_eq_false_iff_not, Bool.not_not, isi_int_int, isi_int_bool, isi_int_tuple, isi_int_str, isi_int_lt, isi_bl_int, isi_bl_bool, isi_bl_lt, isi_str_str, isi_str_lt, isi_non_lt, isi_tup_tuple, isi_lst_tuple, isi_tup_lt, isi_lst_lt, okEq_int, okEq_bl, okEq_non, okEq_ils, okEq_vec, deqv_int, deqv_bl, deqv_ils, deqv_vec, true_and, and_true, and_self, reduceCtorEq, not_true_eq_false, not_false_eq_true, false_imp_iff, true_imp_iff, forall_const, List.length_map]
    rw [fl]
    have m0 : min (n : Int) 1100 + 1 = ((min n 1100 + 1 : Nat) : Int) := by omega
    rw [m0]
    have e0 := Int.emod_nonneg u (b := ((min n 1100 + 1 : Nat) : Int)) (by omega)
    have e1 := Int.emod_lt_of_pos u (b := ((min n 1100 + 1 : Nat) : Int)) (by omega)
    refine ⟨by omega, hR _ ⟨(u % ((min n 1100 + 1 : Nat) : Int)).toNat, by omega, ?_⟩⟩
    rw [Int.toNat_of_nonneg e0]
  rintro _ ⟨k, hk, rfl⟩
  refine seq_cut (fun δ => δ = [.val (ils a), .val (.lst ((figs b a n).map ils)), .val (.int b), .val (.int z), .val (.int u), .val (.int a.length), .val (.int k), .val (.int ((b ^ (n - k) : Nat) : Int)), .no, h, l, .no, .no, .no]) ?_ ?_
  · intro R hR
    simp -failIfUnchanged only [dSeqS, dSet, dSetO, dRet, dRetN, dIfS, dDrop, dNext, dBreak, dCont, dNever, dShow, dFor, dApp, dPutIx, dAsg, dOp, dUn, dTst, dTru, dAnd, dOr, dNot, dAndV, dOrV, dNotV, dIfE, dCons, dNil, dTup, dLst, dCB, dCall, dCallN, dC, dVar, dChain, dSeq, dRng1, dRng2, dZip, dComp, dYes, dgName, dgTup, dgCons, dgNil, dwipe, dPeek, dPeekT, dIxO, frzAt, dNoPart, dPart, dSl, dEqV, dNeV, q000, q001, q002, q003, q004, q005, q006, q007, q008, q009, q010, q011, q012, q013, q014, q015, q016, q017, q018, q019, q020, q021, q022, q023, q024, q025, q026, q027, q028, q029, q030, q031, q032, q033, q034, q035, q036, q037, q038, q039, q040, q041, q042, q043, q044, q045, q046, q047, q048, q049, q050, q051, q052, q053, q054, q055, List.getElem?_cons_zero, List.getElem?_cons_succ, List.set_cons_zero, List.set_cons_succ, List.cons_append, List.nil_append, List.append_nil, if_true, if_false, ite_true, ite_false, Bool.false_eq_true, decide_eq_true_eq, Bool.not_true, Bool.not_false, Bool.not_eq_true', decide_eq_false_iff_not, Bool.not_not, isi_int_int, isi_int_bool, isi_int_tuple, isi_int_str, isi_int_lt, isi_bl_int, isi_bl_bool, isi_bl_lt, isi_str_str, isi_str_lt, isi_non_lt, isi_tup_tuple, isi_lst_tuple, isi_tup_lt, isi_lst_lt, okEq_int, okEq_bl, okEq_non, okEq_ils, okEq_vec, deqv_int, deqv_bl, deqv_ils, deqv_vec, true_and, and_true, and_self, reduceCtorEq, not_true_eq_false, not_false_eq_true, false_imp_iff, true_imp_iff, forall_const, List.length_map]
    refine ⟨b, _, rfl, by omega, by omega, by omega, by omega, hR _ ?_⟩
    rw [fl, show ((n : Int) - (k : Int)).toNat = n - k by omega, Int.natCast_pow]
  rintro _ rfl
  have ps := pow_small hb hb8 tn hbig (k := n - k) (by omega)
  have p0 : 0 < b ^ (n - k) := Nat.pow_pos (by omega)
  have dv := divOk_nat p0 ps
  refine seq_cut (fun δ => δ = [.val (ils a), .val (.lst ((figs b a n).map ils)), .val (.int b), .val (.int z), .val (.int u), .val (.int a.length), .val (.int k), .val (.int ((b ^ (n - k) : Nat) : Int)), .val (ils (headAt b a (n - k))), h, l, .no, .no, .no]) ?_ ?_
  · intro R hR
    simp -failIfUnchanged only [dSeqS, dSet, dSetO, dRet, dRetN, dIfS, dDrop, dNext, dBreak, dCont, dNever, dShow, dFor, dApp, dPutIx, dAsg, dOp, dUn, dTst, dTru, dAnd, dOr, dNot, dAndV, dOrV, dNotV, dIfE, dCons, dNil, dTup, dLst, dCB, dCall, dCallN, dC, dVar, dChain, dSeq, dRng1, dRng2, dZip, dComp, dYes, dgName, dgTup, dgCons, dgNil, dwipe, dPeek, dPeekT, dIxO, frzAt, dNoPart, dPart, dSl, dEqV, dNeV, q000, q001, q002, q003, q004, q005, q006, q007, q008, q009, q010, q011, q012, q013, q014, q015, q016, q017, q018, q019, q020, q021, q022, q023, q024, q025, q026, q027, q028, q029, q030, q031, q032, q033, q034, q035, q036, q037, q038, q039, q040, q041, q042, q043, q044, q045, q046, q047, q048, q049, q050, q051, q052, q053, q054, q055, List.getElem?_cons_zero, List.getElem?_cons_succ, List.set_cons_zero, List.set_cons_succ, List.cons_append, List.nil_append, List.append_nil, if_true, if_false, ite_true, ite_false, Bool.false_eq_true, decide_eq_true_eq, Bool.not_true, Bool.not_false, Bool.not_eq_true', decide_eq_false_iff_not, Bool.not_not, isi_int_int, isi_int_bool, isi_int_tuple, isi_int_str, isi_int_lt, isi_bl_int, isi_bl_bool, isi_bl_lt, isi_str_str, isi_str_lt, isi_non_lt, isi_tup_tuple, isi_lst_tuple, isi_tup_lt, isi_lst_lt, okEq_int, okEq_bl, okEq_non, okEq_ils, okEq_vec, deqv_int, deqv_bl, deqv_ils, deqv_vec, true_and, and_true, and_self, reduceCtorEq, not_true_eq_false, not_false_eq_true, false_imp_iff, true_imp_iff, forall_const]
    refine comp_map D.int (fun y => .int (sg y * ((y.natAbs / b ^ (n - k) : Nat) : Int))) a (fun y hy R hR => ?_) ?_
    · simp -failIfUnchanged only [dSeqS, dSet, dSetO, dRet, dRetN, dIfS, dDrop, dNext, dBreak, dCont, dNever, dShow, dFor, dApp, dPutIx, dAsg, dOp, dUn, dTst, dTru, dAnd, dOr, dNot, dAndV, dOrV, dNotV, dIfE, dCons, dNil, dTup, dLst, dCB, dCall, dCallN, dC, dVar, dChain, dSeq, dRng1, dRng2, dZip, dComp, dYes, dgName, dgTup, dgCons, dgNil, dwipe, dPeek, dPeekT, dIxO, frzAt, dNoPart, dPart, dSl, dEqV, dNeV, q000, q001, q002, q003, q004, q005, q006, q007, q008, q009, q010, q011, q012, q013, q014, q015, q016, q017, q018, q019, q020, q021, q022, q023, q024, q025, q026, q027, q028, q029, q030, q031, q032, q033, q034, q035, q036, q037, q038, q039, q040, q041, q042, q043, q044, q045, q046, q047, q048, q049, q050, q051, q052, q053, q054, q055, List.getElem?_cons_zero, List.getElem?_cons_succ, List.set_cons_zero, List.set_cons_succ, List.cons_append, List.nil_append, List.append_nil, if_true, if_false, ite_true, ite_false, Bool.false_eq_true, decide_eq_true_eq, Bool.not_true, Bool.not_false, Bool.not_eq_true', decide_eq_false_iff_not, Bool.not_not, isi_int_int, isi_int_bool, isi_int_tuple, isi_int_str, isi_int_lt, isi_bl_int, isi_bl_bool, isi_bl_lt, isi_str_str, isi_str_lt, isi_non_lt, isi_tup_tuple, isi_lst_tuple, isi_tup_lt, isi_lst_lt, okEq_int, okEq_bl, okEq_non, okEq_ils, okEq_vec, deqv_int, deqv_bl, deqv_ils, deqv_vec, true_and, and_true, and_self, reduceCtorEq, not_true_eq_false, not_false_eq_true, false_imp_iff, true_imp_iff, forall_const]
      have s1 := sg_small y
      rw [show ((y.natAbs : Nat) : Int) / ((b ^ (n - k) : Nat) : Int) = ((y.natAbs / b ^ (n - k) : Nat) : Int) from (Int.natCast_ediv ..).symm]
      unfold sg at hR s1
      by_cases h : y < 0
      · simp only [h, if_true, decide_true] at hR s1 ⊢
        exact ⟨mul_l (by omega) (by omega), dv, mul_l (by omega) (by omega), hR⟩
      · simp only [h, if_false, decide_false] at hR s1 ⊢
        exact ⟨mul_l (by omega) (by omega), dv, mul_l (by omega) (by omega), hR⟩
    · rw [show a.map (fun y => D.int (sg y * ((y.natAbs / b ^ (n - k) : Nat) : Int))) = (headAt b a (n - k)).map .int by unfold headAt; rw [List.map_map]; rfl]
      exact hR _ rfl
  rintro _ rfl
  simp -failIfUnchanged only [dSeqS, dSet, dSetO, dRet, dRetN, dIfS, dDrop, dNext, dBreak, dCont, dNever, dShow, dFor, dApp, dPutIx, dAsg, dOp, dUn, dTst, dTru, dAnd, dOr, dNot, dAndV, dOrV, dNotV, dIfE, dCons, dNil, dTup, dLst, dCB, dCall, dCallN, dC, dVar, dChain, dSeq, dRng1, dRng2, dZip, dComp, dYes, dgName, dgTup, dgCons, dgNil, dwipe, dPeek, dPeekT, dIxO, frzAt, dNoPart, dPart, dSl, dEqV, dNeV, q000, q001, q002, q003, q004, q005, q006, q007, q008, q009, q010, q011, q012, q013, q014, q015, q016, q017, q018, q019, q020, q021, q022, q023, q024, q025, q026, q027, q028, q029, q030, q031, q032, q033, q034, q035, q036, q037, q038, q039, q040, q041, q042, q043, q044, q045, q046, q047, q048, q049, q050, q051, q052, q053, q054, q055, List.getElem?_cons_zero, List.getElem?_cons_succ, List.set_cons_zero, List.set_cons_succ, List.cons_append, List.nil_append, List.append_nil, if_true, if_false, ite_true, ite_false, Bool.false_eq_true, decide_eq_true_eq, Bool.not_true, Bool.not_false, Bool.not_eq_true', decide_eq_false_iff_not, Bool.not_not, isi_int_int, isi_int_bool, isi_int_tuple, isi_int_str, isi_int_lt, isi_bl_int, isi_bl_bool, isi_bl_lt, isi_str_str, isi_str_lt, isi_non_lt, isi_tup_tuple, isi_lst_tuple, isi_tup_lt, isi_lst_lt, okEq_int, okEq_bl, okEq_non, okEq_ils, okEq_vec, deqv_int, deqv_bl, deqv_ils, deqv_vec, true_and, and_true, and_self, reduceCtorEq, not_true_eq_false, not_false_eq_true, false_imp_iff, true_imp_iff, forall_const]
  rw [cut_map, cut_take]
  refine ⟨rfl, rfl, _, (figs b a n).take k, a.length, b, rfl, isRows_lst _, by omega, by omega, by omega, by omega, ?_⟩
  rw [wn, order_take rfl tn.top k hk]
  refine ⟨headAt b a (n - k), _, rfl, isV_ils _, ?_, hq⟩
  show (a.map _).length < _
  rw [List.length_map]
  omega
end L2.DL

-- K00L
set_option Elab.async false
set_option linter.all false
set_option maxRecDepth 100000
set_option maxHeartbeats 8000000
namespace L2.DL
open PySem PySem.Spec PyProof.Rows
/-! # the law -/
def F_law : FD := fun ds Q _ => ∃ ns : List Int, ds = [.frz (ns.map .int)] ∧ Q (.bl true)
def g_law : DSt := (dSeqS (dSet 1 (dCall F__law_digits [] (dCons (dCall F__law_cell [] (dCons (dVar 0) (dCons (dC (.int 0)) dNil))) (dCons (dLst (dCons (dC (.int 3)) (dCons (dC (.int 7)) (dCons (dC (.int 61)) (dCons (dC (.int 6)) (dCons (dC (.int 8)) (dCons (dC (.int 1200)) (dCons (dC (.int 3)) (dCons (dC (.int 2)) (dCons (dC (.int 2)) (dCons (dC (.int 2)) (dCons (dC (.int 12)) dNil)))))))))))) dNil))))
    (dSeqS (dSet 2 (dOp dAddV (dC (.int 1)) (dOp dIxV (dVar 1) (dC (.int 0)))))
    (dSeqS (dSet 3 (dOp dAddV (dC (.int 2)) (dOp dIxV (dVar 1) (dC (.int 1)))))
    (dSeqS (dSet 4 (dOp dAddV (dC (.int 1)) (dOp dMulV (dC (.int 2)) (dCB dIntV (dCons (dOp dEqV (dOp dIxV (dVar 1) (dC (.int 10))) (dC (.int 7))) dNil)))))
    (dSeqS (dSet 5 (dComp (dRng1 (dCons (dVar 2) dNil)) false (dgName 13) dYes (dCall F__law_entry [] (dCons (dCall F__law_cell [] (dCons (dVar 0) (dCons (dOp dAddV (dC (.int 1)) (dOp dMulV (dC (.int 2)) (dVar 13))) dNil))) (dCons (dCall F__law_cell [] (dCons (dVar 0) (dCons (dOp dAddV (dC (.int 2)) (dOp dMulV (dC (.int 2)) (dVar 13))) dNil))) (dCons (dVar 3) (dCons (dVar 4) dNil))))) [13]))
    (dSeqS (dSet 6 (dComp (dRng1 (dCons (dOp dAddV (dC (.int 1)) (dOp dIxV (dVar 1) (dC (.int 6)))) dNil)) false (dgName 11) dYes (dOp dSubV (dC (.int 1)) (dOp dMulV (dC (.int 2)) (dOp dIxV (dVar 1) (dOp dAddV (dC (.int 7)) (dVar 11))))) [11]))
    (dSeqS (dIfS (dNot (dTru (dCall F__law_signs_right [] (dCons (dVar 5) (dCons (dVar 6) dNil))))) (dRet (dC (.bl false))) dNext)
    (dSeqS (dSet 7 (dCall F__law_figures [] (dCons (dVar 5) (dCons (dVar 3) dNil))))
    (dSeqS (dSet 8 (dCall F__law_figures [] (dCons (dVar 5) (dCons (dC (.int 2)) dNil))))
    (dSeqS (dSet 9 (dCB dListV (dCons (dVar 5) dNil)))
    (dSeqS (dIfS (dOr (dNot (dTru (dCall F__law_same_rows [] (dCons (dCallN 1 1 F_figures_of (dCons (dVar 9) dNil) (dCons (dVar 3) dNil)) (dCons (dVar 7) dNil))))) (dTst (dOp dNeV (dVar 9) (dVar 5)))) (dRet (dC (.bl false))) dNext)
    (dSeqS (dIfS (dNot (dTru (dCall F__law_same_rows [] (dCons (dCall F_figures_of [.int 2] (dCons (dCB dTupleV (dCons (dVar 5) dNil)) dNil)) (dCons (dVar 8) dNil))))) (dRet (dC (.bl false))) dNext)
    (dSeqS (dIfS (dNot (dTru (dCall F__law_back [] (dCons (dVar 5) (dCons (dVar 7) (dCons (dVar 3) (dCons (dOp dIxV (dVar 1) (dC (.int 3))) (dCons (dOp dIxV (dVar 1) (dC (.int 5))) dNil)))))))) (dRet (dC (.bl false))) dNext)
    (dSeqS (dIfS (dAnd (dTst (dOp dLeV (dCB dLenV (dCons (dVar 8) dNil)) (dC (.int 1100)))) (dNot (dTru (dCall F__law_same [] (dCons (dCall F_order_of [.int 2] (dCons (dComp (dSeq (dVar 8)) true (dgName 14) dYes (dCB dTupleV (dCons (dVar 14) dNil)) [14]) (dCons (dVar 2) dNil))) (dCons (dVar 5) dNil)))))) (dRet (dC (.bl false))) dNext)
    (dSeqS (dSet 10 (dCall F__law_rows [] (dCons (dCall F__law_cell [] (dCons (dVar 0) (dCons (dC (.int 7)) dNil))) (dCons (dVar 2) (dCons (dVar 1) dNil)))))
    (dSeqS (dSet 9 (dComp (dSeq (dVar 10)) true (dgName 14) dYes (dCB dListV (dCons (dVar 14) dNil)) [14]))
    (dSeqS (dIfS (dOr (dNot (dTru (dCall F__law_same [] (dCons (dCallN 2 1 F_order_of (dCons (dVar 9) (dCons (dVar 2) dNil)) (dCons (dVar 3) dNil)) (dCons (dCall F__law_total [] (dCons (dVar 10) (dCons (dVar 2) (dCons (dVar 3) dNil)))) dNil))))) (dTst (dOp dNeV (dVar 9) (dVar 10)))) (dRet (dC (.bl false))) dNext)
    (dSeqS (dIfS (dNot (dTru (dCall F__law_same [] (dCons (dCall F_order_of [.int 2] (dCons (dCB dTupleV (dCons (dComp (dSeq (dVar 10)) true (dgName 14) dYes (dCB dTupleV (dCons (dVar 14) dNil)) [14]) dNil)) (dCons (dVar 2) dNil))) (dCons (dCall F__law_total [] (dCons (dVar 10) (dCons (dVar 2) (dCons (dC (.int 2)) dNil)))) dNil))))) (dRet (dC (.bl false))) dNext)
    (dSeqS (dFor (dRng1 (dCons (dC (.int 3)) dNil)) (dgName 11) (dSeqS (dSet 12 (dOp dMulV (dLst (dCons (dC (.int 0)) dNil)) (dOp dAddV (dVar 11) (dC (.int 1)))))
    (dIfS (dOr (dNot (dTru (dCall F__law_same_rows [] (dCons (dCallN 1 1 F_figures_of (dCons (dVar 12) dNil) (dCons (dVar 3) dNil)) (dCons (dLst dNil) dNil))))) (dNot (dTru (dCall F__law_same [] (dCons (dCallN 2 1 F_order_of (dCons (dLst dNil) (dCons (dOp dAddV (dVar 11) (dC (.int 1))) dNil)) (dCons (dVar 3) dNil)) (dCons (dVar 12) dNil)))))) (dRet (dC (.bl false))) dNext)))
    (dSeqS (dIfS (dOr (dNot (dTru (dCall F__law_same_rows [] (dCons (dCall F_figures_of [.int 2] (dCons (dVar 5) dNil)) (dCons (dVar 8) dNil))))) (dNot (dTru (dCall F__law_signs_right [] (dCons (dVar 5) (dCons (dVar 6) dNil)))))) (dRet (dC (.bl false))) dNext)
    (dRet (dCall F__law_same_rows [] (dCons (dCallN 1 1 F_figures_of (dCons (dCB dListV (dCons (dVar 5) dNil)) dNil) (dCons (dVar 3) dNil)) (dCons (dVar 7) dNil))))))))))))))))))))))))
theorem paired_all {α β : Type} {P : α → β → Prop} {Z : β → Prop} (h : ∀ x y, P x y → Z y) : ∀ {xs : List α} {ys : List β}, Paired P xs ys → ∀ y ∈ ys, Z y
  | _, _, .nil, y, hy => by cases hy
  | _, _, .cons r t, y, hy => by
    rcases List.mem_cons.mp hy with rfl | hy
    · exact h _ _ r
    · exact paired_all h t y hy
theorem paired_len {α β : Type} {P : α → β → Prop} {xs : List α} {ys : List β} (h : Paired P xs ys) : ys.length = xs.length := h.length.symm
/-- a comprehension over a range whose items are ints of some kind -/
theorem comp_ints {g : DG} {fe : DE} {δ : Env} {Q : DP} (n : Nat) (Z : Int → Prop) (h : ∀ i, i < n → ∀ R : DP, (∀ x : Int, Z x → R (.int x)) → g (.int (i : Nat)) δ fun δ2 => fe δ2 R fun _ => False)
    (hQ : ∀ ns : List Int, ns.length = n → (∀ x ∈ ns, Z x) → Q (.lst (ns.map .int))) : dLoop g dYes fe δ (rngD 0 n) [] Q := by
  unfold rngD
  refine comp_rel (fun i : Nat => D.int (0 + (i : Nat))) (fun _ y => ∃ x : Int, Z x ∧ y = .int x) (List.range n) (fun i hi R hR => ?_) fun ys hys => ?_
  · rw [Int.zero_add]
    exact h i (List.mem_range.mp hi) R fun x hx => hR _ ⟨x, hx, rfl⟩
  · have key : ∀ {l : List Nat} {ys : List D}, Paired (fun (_ : Nat) y => ∃ x : Int, Z x ∧ y = .int x) l ys → ∃ ns : List Int, ns.length = l.length ∧ (∀ x ∈ ns, Z x) ∧ ys = ns.map .int := by
      intro l ys h
      induction h with
      | nil => exact ⟨[], rfl, fun x hx => by (cases hx), rfl⟩
      | cons r t ih =>
        obtain ⟨ns, h1, h2, rfl⟩ := ih
        obtain ⟨x, hx, rfl⟩ := r
        exact ⟨x :: ns, by simp [h1], fun y hy => by
          rcases List.mem_cons.mp hy with rfl | hy
          · exact hx
          · exact h2 y hy, rfl⟩
    obtain ⟨ns, h1, h2, rfl⟩ := key hys
    exact hQ ns (by simpa using h1) h2
theorem isN_zero (b : Nat) (k : Nat) (hk : 0 < k) : isN b (List.replicate k 0) 0 := ⟨fun x hx => by rw [List.eq_of_mem_replicate hx]; simp, fun m hm => absurd hm (Nat.not_lt_zero _)⟩
theorem does_law : Does ["script", "shape", "width", "root", "far", "vector", "drawn", "rows", "plain", "handed", "free", "k", "zero", "j", "row"] ["script"] F_law g_law := by
  rintro ds Q Xd ⟨ns, rfl, hq⟩
  refine ⟨rfl, ?_⟩
  show g_law _ [.val _, .no, .no, .no, .no, .no, .no, .no, .no, .no, .no, .no, .no, .no, .no]
  unfold g_law
  refine seq_cut (fun δ => ∃ (d0 d1 d2 d3 d4 d5 d6 : Int) (r : List Int), (0 ≤ d0 ∧ d0 < 3) ∧ (0 ≤ d1 ∧ d1 < 7) ∧ (0 ≤ d2 ∧ d2 < 61) ∧ (0 ≤ d3 ∧ d3 < 6) ∧ (0 ≤ d6 ∧ d6 < 3) ∧ r.length = 4 ∧ (∀ x ∈ r, 0 ≤ x ∧ x < 12) ∧ (∀ i : Nat, i < 3 → r.getD i 0 < 2) ∧
    δ = [.val (.frz (ns.map .int)), .val (.lst ((d0 :: d1 :: d2 :: d3 :: d4 :: d5 :: d6 :: r).map D.int)), .no, .no, .no, .no, .no, .no, .no, .no, .no, .no, .no, .no, .no]) ?_ ?_
  · intro R hR
    simp -failIfUnchanged only [dSeqS, dSet, dSetO, dRet, dRetN, dIfS, dDrop, dNext, dBreak, dCont, dNever, dShow, dFor, dApp, dPutIx, dAsg, dOp, dUn, dTst, dTru, dAnd, dOr, dNot, dAndV, dOrV, dNotV, dIfE, dCons, dNil, dTup, dLst, dCB, dCall, dCallN, dC, dVar, dChain, dSeq, dRng1, dRng2, dZip, dComp, dYes, dgName, dgTup, dgCons, dgNil, dwipe, dPeek, dPeekT, dIxO, frzAt, dNoPart, dPart, dSl, dEqV, dNeV, q000, q001, q002, q003, q004, q005, q006, q007, q008, q009, q010, q011, q012, q013, q014, q015, q016, q017, q018, q019, q020, q021, q022, q023, q024, q025, q026, q027, q028, q029, q030, q031, q032, q033, q034, q035, q036, q037, q038, q039, q040, q041, q042, q043, q044, q045, q046, q047, q048, q049, q050, q051, q052, q053, q054, q055, List.getElem?_cons_zero, List.getElem?_cons_succ, List.set_cons_zero, List.set_cons_succ, List.cons_append, List.nil_append, List.append_nil, if_true, if_false, ite_true, ite_false, Bool.false_eq_true, decide_eq_true_eq, Bool.not_true, Bool.not_false, Bool.not_eq_true', decide_eq_false_iff_not, Bool.not_not, isi_int_int, isi_int_bool, isi_int_tuple, isi_int_str, isi_int_lt, isi_bl_int, isi_bl_bool, isi_bl_lt, isi_str_str, isi_str_lt, isi_non_lt, isi_tup_tuple, isi_lst_tuple, isi_tup_lt, isi_lst_lt, okEq_int, okEq_bl, okEq_non, okEq_ils, okEq_vec, deqv_int, deqv_bl, deqv_ils, deqv_vec, true_and, and_true, and_self, reduceCtorEq, not_true_eq_false, not_false_eq_true, false_imp_iff, true_imp_iff, forall_const]
    refine ⟨ns, 0, rfl, by decide, by decide, fun c => ?_⟩
    refine ⟨by decide, c, [3, 7, 61, 6, 8, 1200, 3, 2, 2, 2, 12], rfl, by decide, by decide, fun row hrow => ?_⟩
    cases hrow with
    | cons h0 hrow => cases hrow with
      | cons h1 hrow => cases hrow with
        | cons h2 hrow => cases hrow with
          | cons h3 hrow => cases hrow with
            | cons h4 hrow => cases hrow with
              | cons h5 hrow => cases hrow with
                | cons h6 hrow => cases hrow with
                  | cons h7 hrow => cases hrow with
                    | cons h8 hrow => cases hrow with
                      | cons h9 hrow => cases hrow with
                        | cons h10 hrow =>
                          cases hrow
                          refine hR _ ⟨_, _, _, _, _, _, _, _, h0, h1, h2, h3, h6, rfl, ?_, ?_, rfl⟩
                          · intro x hx
                            simp only [List.mem_cons, List.not_mem_nil, or_false] at hx
                            rcases hx with rfl | rfl | rfl | rfl <;> omega
                          · intro i hi
                            match i, hi with
                            | 0, _ => exact h7.2
                            | 1, _ => exact h8.2
                            | 2, _ => exact h9.2
  rintro _ ⟨d0, d1, d2, d3, d4, d5, d6, r, h0, h1, h2, h3, h6, rl, rb, rb2, rfl⟩
  have a0 : atI ((d0 :: d1 :: d2 :: d3 :: d4 :: d5 :: d6 :: r).map D.int) 0 = some (.int d0) := atI_get (i := 0) (by simp)
  have a1 : atI ((d0 :: d1 :: d2 :: d3 :: d4 :: d5 :: d6 :: r).map D.int) 1 = some (.int d1) := atI_get (i := 1) (by simp)
  have a3 : atI ((d0 :: d1 :: d2 :: d3 :: d4 :: d5 :: d6 :: r).map D.int) 3 = some (.int d3) := atI_get (i := 3) (by simp)
  have a5 : atI ((d0 :: d1 :: d2 :: d3 :: d4 :: d5 :: d6 :: r).map D.int) 5 = some (.int d5) := atI_get (i := 5) (by simp)
  have a6 : atI ((d0 :: d1 :: d2 :: d3 :: d4 :: d5 :: d6 :: r).map D.int) 6 = some (.int d6) := atI_get (i := 6) (by simp)
  have a7 : ∀ i : Nat, i < 4 → atI ((d0 :: d1 :: d2 :: d3 :: d4 :: d5 :: d6 :: r).map D.int) (7 + (i : Int)) = some (.int (r.getD i 0)) := fun i hi => by
    have e : (7 : Int) + (i : Int) = ((7 + i : Nat) : Int) := by omega
    rw [e]
    refine atI_get ?_
    rw [List.getElem?_map, show 7 + i = i + 1 + 1 + 1 + 1 + 1 + 1 + 1 by omega]
    simp only [List.getElem?_cons_succ]
    have hl : i < r.length := by omega
    simp [List.getD_eq_getElem?_getD, hl]
  have shape_is : ∃ sh0 : List Int, (d0 :: d1 :: d2 :: d3 :: d4 :: d5 :: d6 :: r).map D.int = ((d0 :: d1 :: d2 :: d3 :: d4 :: sh0).map D.int) := ⟨d5 :: d6 :: r, rfl⟩
  have rg : ∀ i : Nat, i < 4 → 0 ≤ r.getD i 0 ∧ r.getD i 0 < 12 := fun i hi => by
    have hl : i < r.length := by omega
    have : r.getD i 0 ∈ r := by simp [List.getD_eq_getElem?_getD, hl]
    exact rb _ this
  generalize (d0 :: d1 :: d2 :: d3 :: d4 :: d5 :: d6 :: r).map D.int = sh at *
  obtain ⟨w, hw⟩ : ∃ w : Int, w = 1 + d0 := ⟨_, rfl⟩
  obtain ⟨b, hb⟩ : ∃ b : Nat, (b : Int) = 2 + d1 := ⟨(2 + d1).toNat, by omega⟩
  have w1 : 1 ≤ w := by omega
  have w3 : w ≤ 3 := by omega
  have b2 : 2 ≤ b := by omega
  have b8 : b ≤ 8 := by omega
  refine seq_cut (fun δ => δ = [.val (.frz (ns.map .int)), .val (.lst sh), .val (.int w), .no, .no, .no, .no, .no, .no, .no, .no, .no, .no, .no, .no]) ?_ ?_
  · intro R hR
    simp -failIfUnchanged only [dSeqS, dSet, dSetO, dRet, dRetN, dIfS, dDrop, dNext, dBreak, dCont, dNever, dShow, dFor, dApp, dPutIx, dAsg, dOp, dUn, dTst, dTru, dAnd, dOr, dNot, dAndV, dOrV, dNotV, dIfE, dCons, dNil, dTup, dLst, dCB, dCall, dCallN, dC, dVar, dChain, dSeq, dRng1, dRng2, dZip, dComp, dYes, dgName, dgTup, dgCons, dgNil, dwipe, dPeek, dPeekT, dIxO, frzAt, dNoPart, dPart, dSl, dEqV, dNeV, q000, q001, q002, q003, q004, q005, q006, q007, q008, q009, q010, q011, q012, q013, q014, q015, q016, q017, q018, q019, q020, q021, q022, q023, q024, q025, q026, q027, q028, q029, q030, q031, q032, q033, q034, q035, q036, q037, q038, q039, q040, q041, q042, q043, q044, q045, q046, q047, q048, q049, q050, q051, q052, q053, q054, q055, List.getElem?_cons_zero, List.getElem?_cons_succ, List.set_cons_zero, List.set_cons_succ, List.cons_append, List.nil_append, List.append_nil, if_true, if_false, ite_true, ite_false, Bool.false_eq_true, decide_eq_true_eq, Bool.not_true, Bool.not_false, Bool.not_eq_true', decide_eq_false_iff_not, Bool.not_not, isi_int_int, isi_int_bool, isi_int_tuple, isi_int_str, isi_int_lt, isi_bl_int, isi_bl_bool, isi_bl_lt, isi_str_str, isi_str_lt, isi_non_lt, isi_tup_tuple, isi_lst_tuple, isi_tup_lt, isi_lst_lt, okEq_int, okEq_bl, okEq_non, okEq_ils, okEq_vec, deqv_int, deqv_bl, deqv_ils, deqv_vec, true_and, and_true, and_self, reduceCtorEq, not_true_eq_false, not_false_eq_true, false_imp_iff, true_imp_iff, forall_const, a0, Option.some.injEq, exists_eq_left']
    rw [← hw]
    exact hR _ rfl
  rintro _ rfl
  refine seq_cut (fun δ => δ = [.val (.frz (ns.map .int)), .val (.lst sh), .val (.int w), .val (.int b), .no, .no, .no, .no, .no, .no, .no, .no, .no, .no, .no]) ?_ ?_
  · intro R hR
    simp -failIfUnchanged only [dSeqS, dSet, dSetO, dRet, dRetN, dIfS, dDrop, dNext, dBreak, dCont, dNever, dShow, dFor, dApp, dPutIx, dAsg, dOp, dUn, dTst, dTru, dAnd, dOr, dNot, dAndV, dOrV, dNotV, dIfE, dCons, dNil, dTup, dLst, dCB, dCall, dCallN, dC, dVar, dChain, dSeq, dRng1, dRng2, dZip, dComp, dYes, dgName, dgTup, dgCons, dgNil, dwipe, dPeek, dPeekT, dIxO, frzAt, dNoPart, dPart, dSl, dEqV, dNeV, q000, q001, q002, q003, q004, q005, q006, q007, q008, q009, q010, q011, q012, q013, q014, q015, q016, q017, q018, q019, q020, q021, q022, q023, q024, q025, q026, q027, q028, q029, q030, q031, q032, q033, q034, q035, q036, q037, q038, q039, q040, q041, q042, q043, q044, q045, q046, q047, q048, q049, q050, q051, q052, q053, q054, q055, List.getElem?_cons_zero, List.getElem?_cons_succ, List.set_cons_zero, List.set_cons_succ, List.cons_append, List.nil_append, List.append_nil, if_true, if_false, ite_true, ite_false, Bool.false_eq_true, decide_eq_true_eq, Bool.not_true, Bool.not_false, Bool.not_eq_true', decide_eq_false_iff_not, Bool.not_not, isi_int_int, isi_int_bool, isi_int_tuple, isi_int_str, isi_int_lt, isi_bl_int, isi_bl_bool, isi_bl_lt, isi_str_str, isi_str_lt, isi_non_lt, isi_tup_tuple, isi_lst_tuple, isi_tup_lt, isi_lst_lt, okEq_int, okEq_bl, okEq_non, okEq_ils, okEq_vec, deqv_int, deqv_bl, deqv_ils, deqv_vec, true_and, and_true, and_self, reduceCtorEq, not_true_eq_false, not_false_eq_true, false_imp_iff, true_imp_iff, forall_const, a1, Option.some.injEq, exists_eq_left']
    rw [← hb]
    exact hR _ rfl
  rintro _ rfl
  refine seq_cut (fun δ => ∃ f : Int, 1 ≤ f ∧ f ≤ 3 ∧ δ = [.val (.frz (ns.map .int)), .val (.lst sh), .val (.int w), .val (.int b), .val (.int f), .no, .no, .no, .no, .no, .no, .no, .no, .no, .no]) ?_ ?_
  · intro R hR
    have e10 := a7 3 (by omega)
    rw [show (7 : Int) + ((3 : Nat) : Int) = 10 from rfl] at e10
    simp -failIfUnchanged only [dSeqS, dSet, dSetO, dRet, dRetN, dIfS, dDrop, dNext, dBreak, dCont, dNever, dShow, dFor, dApp, dPutIx, dAsg, dOp, dUn, dTst, dTru, dAnd, dOr, dNot, dAndV, dOrV, dNotV, dIfE, dCons, dNil, dTup, dLst, dCB, dCall, dCallN, dC, dVar, dChain, dSeq, dRng1, dRng2, dZip, dComp, dYes, dgName, dgTup, dgCons, dgNil, dwipe, dPeek, dPeekT, dIxO, frzAt, dNoPart, dPart, dSl, dEqV, dNeV, q000, q001, q002, q003, q004, q005, q006, q007, q008, q009, q010, q011, q012, q013, q014, q015, q016, q017, q018, q019, q020, q021, q022, q023, q024, q025, q026, q027, q028, q029, q030, q031, q032, q033, q034, q035, q036, q037, q038, q039, q040, q041, q042, q043, q044, q045, q046, q047, q048, q049, q050, q051, q052, q053, q054, q055, List.getElem?_cons_zero, List.getElem?_cons_succ, List.set_cons_zero, List.set_cons_succ, List.cons_append, List.nil_append, List.append_nil, if_true, if_false, ite_true, ite_false, Bool.false_eq_true, decide_eq_true_eq, Bool.not_true, Bool.not_false, Bool.not_eq_true', decide_eq_false_iff_not, Bool.not_not, isi_int_int, isi_int_bool, isi_int_tuple, isi_int_str, isi_int_lt, isi_bl_int, isi_bl_bool, isi_bl_lt, isi_str_str, isi_str_lt, isi_non_lt, isi_tup_tuple, isi_lst_tuple, isi_tup_lt, isi_lst_lt, okEq_int, okEq_bl, okEq_non, okEq_ils, okEq_vec, deqv_int, deqv_bl, deqv_ils, deqv_vec, true_and, and_true, and_self, reduceCtorEq, not_true_eq_false, not_false_eq_true, false_imp_iff, true_imp_iff, forall_const, e10, Option.some.injEq, exists_eq_left']
    by_cases h7 : r.getD 3 0 = 7
    · simp only [h7, decide_true, if_true]
      exact ⟨mul_l (by omega) (by omega), hR _ ⟨3, by omega, by omega, rfl⟩⟩
    · simp only [h7, decide_false]
      exact ⟨mul_l (by omega) (by omega), hR _ ⟨1, by omega, by omega, rfl⟩⟩
  rintro _ ⟨f, f1, f3, rfl⟩
  refine seq_cut (fun δ => ∃ a : List Int, a.length = w.toNat ∧ (∀ y ∈ a, y.natAbs < 2 ^ 3010) ∧ δ = [.val (.frz (ns.map .int)), .val (.lst sh), .val (.int w), .val (.int b), .val (.int f), .val (ils a), .no, .no, .no, .no, .no, .no, .no, .no, .no]) ?_ ?_
  · intro R hR
    simp -failIfUnchanged only [dSeqS, dSet, dSetO, dRet, dRetN, dIfS, dDrop, dNext, dBreak, dCont, dNever, dShow, dFor, dApp, dPutIx, dAsg, dOp, dUn, dTst, dTru, dAnd, dOr, dNot, dAndV, dOrV, dNotV, dIfE, dCons, dNil, dTup, dLst, dCB, dCall, dCallN, dC, dVar, dChain, dSeq, dRng1, dRng2, dZip, dComp, dYes, dgName, dgTup, dgCons, dgNil, dwipe, dPeek, dPeekT, dIxO, frzAt, dNoPart, dPart, dSl, dEqV, dNeV, q000, q001, q002, q003, q004, q005, q006, q007, q008, q009, q010, q011, q012, q013, q014, q015, q016, q017, q018, q019, q020, q021, q022, q023, q024, q025, q026, q027, q028, q029, q030, q031, q032, q033, q034, q035, q036, q037, q038, q039, q040, q041, q042, q043, q044, q045, q046, q047, q048, q049, q050, q051, q052, q053, q054, q055, List.getElem?_cons_zero, List.getElem?_cons_succ, List.set_cons_zero, List.set_cons_succ, List.cons_append, List.nil_append, List.append_nil, if_true, if_false, ite_true, ite_false, Bool.false_eq_true, decide_eq_true_eq, Bool.not_true, Bool.not_false, Bool.not_eq_true', decide_eq_false_iff_not, Bool.not_not, isi_int_int, isi_int_bool, isi_int_tuple, isi_int_str, isi_int_lt, isi_bl_int, isi_bl_bool, isi_bl_lt, isi_str_str, isi_str_lt, isi_non_lt, isi_tup_tuple, isi_lst_tuple, isi_tup_lt, isi_lst_lt, okEq_int, okEq_bl, okEq_non, okEq_ils, okEq_vec, deqv_int, deqv_bl, deqv_ils, deqv_vec, true_and, and_true, and_self, reduceCtorEq, not_true_eq_false, not_false_eq_true, false_imp_iff, true_imp_iff, forall_const]
    refine ⟨by omega, by omega, by rw [rngD_len, sizeLine_eq]; omega, ?_⟩
    refine comp_ints _ (fun y => y.natAbs < 2 ^ 3010) (fun i hi R hR => ?_) fun a al ab => hR _ ⟨a, al, ab, rfl⟩
    simp -failIfUnchanged only [dSeqS, dSet, dSetO, dRet, dRetN, dIfS, dDrop, dNext, dBreak, dCont, dNever, dShow, dFor, dApp, dPutIx, dAsg, dOp, dUn, dTst, dTru, dAnd, dOr, dNot, dAndV, dOrV, dNotV, dIfE, dCons, dNil, dTup, dLst, dCB, dCall, dCallN, dC, dVar, dChain, dSeq, dRng1, dRng2, dZip, dComp, dYes, dgName, dgTup, dgCons, dgNil, dwipe, dPeek, dPeekT, dIxO, frzAt, dNoPart, dPart, dSl, dEqV, dNeV, q000, q001, q002, q003, q004, q005, q006, q007, q008, q009, q010, q011, q012, q013, q014, q015, q016, q017, q018, q019, q020, q021, q022, q023, q024, q025, q026, q027, q028, q029, q030, q031, q032, q033, q034, q035, q036, q037, q038, q039, q040, q041, q042, q043, q044, q045, q046, q047, q048, q049, q050, q051, q052, q053, q054, q055, List.getElem?_cons_zero, List.getElem?_cons_succ, List.set_cons_zero, List.set_cons_succ, List.cons_append, List.nil_append, List.append_nil, if_true, if_false, ite_true, ite_false, Bool.false_eq_true, decide_eq_true_eq, Bool.not_true, Bool.not_false, Bool.not_eq_true', decide_eq_false_iff_not, Bool.not_not, isi_int_int, isi_int_bool, isi_int_tuple, isi_int_str, isi_int_lt, isi_bl_int, isi_bl_bool, isi_bl_lt, isi_str_str, isi_str_lt, isi_non_lt, isi_tup_tuple, isi_lst_tuple, isi_tup_lt, isi_lst_lt, okEq_int, okEq_bl, okEq_non, okEq_ils, okEq_vec, deqv_int, deqv_bl, deqv_ils, deqv_vec, true_and, and_true, and_self, reduceCtorEq, not_true_eq_false, not_false_eq_true, false_imp_iff, true_imp_iff, forall_const]
    refine ⟨mul_l (by omega) (by omega), ns, _, rfl, by omega, by omega, fun c1 => ?_⟩
    simp -failIfUnchanged only [dSeqS, dSet, dSetO, dRet, dRetN, dIfS, dDrop, dNext, dBreak, dCont, dNever, dShow, dFor, dApp, dPutIx, dAsg, dOp, dUn, dTst, dTru, dAnd, dOr, dNot, dAndV, dOrV, dNotV, dIfE, dCons, dNil, dTup, dLst, dCB, dCall, dCallN, dC, dVar, dChain, dSeq, dRng1, dRng2, dZip, dComp, dYes, dgName, dgTup, dgCons, dgNil, dwipe, dPeek, dPeekT, dIxO, frzAt, dNoPart, dPart, dSl, dEqV, dNeV, q000, q001, q002, q003, q004, q005, q006, q007, q008, q009, q010, q011, q012, q013, q014, q015, q016, q017, q018, q019, q020, q021, q022, q023, q024, q025, q026, q027, q028, q029, q030, q031, q032, q033, q034, q035, q036, q037, q038, q039, q040, q041, q042, q043, q044, q045, q046, q047, q048, q049, q050, q051, q052, q053, q054, q055, List.getElem?_cons_zero, List.getElem?_cons_succ, List.set_cons_zero, List.set_cons_succ, List.cons_append, List.nil_append, List.append_nil, if_true, if_false, ite_true, ite_false, Bool.false_eq_true, decide_eq_true_eq, Bool.not_true, Bool.not_false, Bool.not_eq_true', decide_eq_false_iff_not, Bool.not_not, isi_int_int, isi_int_bool, isi_int_tuple, isi_int_str, isi_int_lt, isi_bl_int, isi_bl_bool, isi_bl_lt, isi_str_str, isi_str_lt, isi_non_lt, isi_tup_tuple, isi_lst_tuple, isi_tup_lt, isi_lst_lt, okEq_int, okEq_bl, okEq_non, okEq_ils, okEq_vec, deqv_int, deqv_bl, deqv_ils, deqv_vec, true_and, and_true, and_self, reduceCtorEq, not_true_eq_false, not_false_eq_true, false_imp_iff, true_imp_iff, forall_const]
    refine ⟨mul_l (by omega) (by omega), ns, _, rfl, by omega, by omega, fun c2 => ?_⟩
    simp -failIfUnchanged only [dSeqS, dSet, dSetO, dRet, dRetN, dIfS, dDrop, dNext, dBreak, dCont, dNever, dShow, dFor, dApp, dPutIx, dAsg, dOp, dUn, dTst, dTru, dAnd, dOr, dNot, dAndV, dOrV, dNotV, dIfE, dCons, dNil, dTup, dLst, dCB, dCall, dCallN, dC, dVar, dChain, dSeq, dRng1, dRng2, dZip, dComp, dYes, dgName, dgTup, dgCons, dgNil, dwipe, dPeek, dPeekT, dIxO, frzAt, dNoPart, dPart, dSl, dEqV, dNeV, q000, q001, q002, q003, q004, q005, q006, q007, q008, q009, q010, q011, q012, q013, q014, q015, q016, q017, q018, q019, q020, q021, q022, q023, q024, q025, q026, q027, q028, q029, q030, q031, q032, q033, q034, q035, q036, q037, q038, q039, q040, q041, q042, q043, q044, q045, q046, q047, q048, q049, q050, q051, q052, q053, q054, q055, List.getElem?_cons_zero, List.getElem?_cons_succ, List.set_cons_zero, List.set_cons_succ, List.cons_append, List.nil_append, List.append_nil, if_true, if_false, ite_true, ite_false, Bool.false_eq_true, decide_eq_true_eq, Bool.not_true, Bool.not_false, Bool.not_eq_true', decide_eq_false_iff_not, Bool.not_not, isi_int_int, isi_int_bool, isi_int_tuple, isi_int_str, isi_int_lt, isi_bl_int, isi_bl_bool, isi_bl_lt, isi_str_str, isi_str_lt, isi_non_lt, isi_tup_tuple, isi_lst_tuple, isi_tup_lt, isi_lst_lt, okEq_int, okEq_bl, okEq_non, okEq_ils, okEq_vec, deqv_int, deqv_bl, deqv_ils, deqv_vec, true_and, and_true, and_self, reduceCtorEq, not_true_eq_false, not_false_eq_true, false_imp_iff, true_imp_iff, forall_const]
    exact ⟨_, _, _, _, rfl, by omega, by omega, by omega, by omega, hR⟩
  rintro _ ⟨a, al, ab, rfl⟩
  have big31 : ∀ y ∈ a, y.natAbs < 2 ^ 3100 := fun y hy => Nat.lt_of_lt_of_le (ab y hy) (Nat.pow_le_pow_right (by omega) (by omega))
  have big40 : ∀ y ∈ a, y.natAbs < 2 ^ 4000 := fun y hy => Nat.lt_of_lt_of_le (ab y hy) (Nat.pow_le_pow_right (by omega) (by omega))
  have ane : a ≠ [] := fun z => by rw [z] at al; simp at al; omega
  refine seq_cut (fun δ => ∃ d : List Int, d.length ≤ 3 ∧ (∀ z ∈ d, sml z) ∧ δ = [.val (.frz (ns.map .int)), .val (.lst sh), .val (.int w), .val (.int b), .val (.int f), .val (ils a), .val (ils d), .no, .no, .no, .no, .no, .no, .no, .no]) ?_ ?_
  · intro R hR
    simp -failIfUnchanged only [dSeqS, dSet, dSetO, dRet, dRetN, dIfS, dDrop, dNext, dBreak, dCont, dNever, dShow, dFor, dApp, dPutIx, dAsg, dOp, dUn, dTst, dTru, dAnd, dOr, dNot, dAndV, dOrV, dNotV, dIfE, dCons, dNil, dTup, dLst, dCB, dCall, dCallN, dC, dVar, dChain, dSeq, dRng1, dRng2, dZip, dComp, dYes, dgName, dgTup, dgCons, dgNil, dwipe, dPeek, dPeekT, dIxO, frzAt, dNoPart, dPart, dSl, dEqV, dNeV, q000, q001, q002, q003, q004, q005, q006, q007, q008, q009, q010, q011, q012, q013, q014, q015, q016, q017, q018, q019, q020, q021, q022, q023, q024, q025, q026, q027, q028, q029, q030, q031, q032, q033, q034, q035, q036, q037, q038, q039, q040, q041, q042, q043, q044, q045, q046, q047, q048, q049, q050, q051, q052, q053, q054, q055, List.getElem?_cons_zero, List.getElem?_cons_succ, List.set_cons_zero, List.set_cons_succ, List.cons_append, List.nil_append, List.append_nil, if_true, if_false, ite_true, ite_false, Bool.false_eq_true, decide_eq_true_eq, Bool.not_true, Bool.not_false, Bool.not_eq_true', decide_eq_false_iff_not, Bool.not_not, isi_int_int, isi_int_bool, isi_int_tuple, isi_int_str, isi_int_lt, isi_bl_int, isi_bl_bool, isi_bl_lt, isi_str_str, isi_str_lt, isi_non_lt, isi_tup_tuple, isi_lst_tuple, isi_tup_lt, isi_lst_lt, okEq_int, okEq_bl, okEq_non, okEq_ils, okEq_vec, deqv_int, deqv_bl, deqv_ils, deqv_vec, true_and, and_true, and_self, reduceCtorEq, not_true_eq_false, not_false_eq_true, false_imp_iff, true_imp_iff, forall_const, a6, Option.some.injEq, exists_eq_left']
    refine ⟨by omega, by omega, by rw [rngD_len, sizeLine_eq]; omega, ?_⟩
    refine comp_ints _ sml (fun i hi R hR => ?_) fun d dl db => hR _ ⟨d, by omega, db, rfl⟩
    have i3 : i < 3 := by omega
    simp -failIfUnchanged only [dSeqS, dSet, dSetO, dRet, dRetN, dIfS, dDrop, dNext, dBreak, dCont, dNever, dShow, dFor, dApp, dPutIx, dAsg, dOp, dUn, dTst, dTru, dAnd, dOr, dNot, dAndV, dOrV, dNotV, dIfE, dCons, dNil, dTup, dLst, dCB, dCall, dCallN, dC, dVar, dChain, dSeq, dRng1, dRng2, dZip, dComp, dYes, dgName, dgTup, dgCons, dgNil, dwipe, dPeek, dPeekT, dIxO, frzAt, dNoPart, dPart, dSl, dEqV, dNeV, q000, q001, q002, q003, q004, q005, q006, q007, q008, q009, q010, q011, q012, q013, q014, q015, q016, q017, q018, q019, q020, q021, q022, q023, q024, q025, q026, q027, q028, q029, q030, q031, q032, q033, q034, q035, q036, q037, q038, q039, q040, q041, q042, q043, q044, q045, q046, q047, q048, q049, q050, q051, q052, q053, q054, q055, List.getElem?_cons_zero, List.getElem?_cons_succ, List.set_cons_zero, List.set_cons_succ, List.cons_append, List.nil_append, List.append_nil, if_true, if_false, ite_true, ite_false, Bool.false_eq_true, decide_eq_true_eq, Bool.not_true, Bool.not_false, Bool.not_eq_true', decide_eq_false_iff_not, Bool.not_not, isi_int_int, isi_int_bool, isi_int_tuple, isi_int_str, isi_int_lt, isi_bl_int, isi_bl_bool, isi_bl_lt, isi_str_str, isi_str_lt, isi_non_lt, isi_tup_tuple, isi_lst_tuple, isi_tup_lt, isi_lst_lt, okEq_int, okEq_bl, okEq_non, okEq_ils, okEq_vec, deqv_int, deqv_bl, deqv_ils, deqv_vec, true_and, and_true, and_self, reduceCtorEq, not_true_eq_false, not_false_eq_true, false_imp_iff, true_imp_iff, forall_const, a7 i (by omega), Option.some.injEq, exists_eq_left']
    have q1 := rg i (by omega)
    exact ⟨mul_l (by omega) (by omega), hR _ ⟨by omega, by omega⟩⟩
  rintro _ ⟨d, d3', ds', rfl⟩
  refine seq_cut (fun δ => δ = [.val (.frz (ns.map .int)), .val (.lst sh), .val (.int w), .val (.int b), .val (.int f), .val (ils a), .val (ils d), .no, .no, .no, .no, .no, .no, .no, .no]) ?_ ?_
  · intro R hR
    simp -failIfUnchanged only [dSeqS, dSet, dSetO, dRet, dRetN, dIfS, dDrop, dNext, dBreak, dCont, dNever, dShow, dFor, dApp, dPutIx, dAsg, dOp, dUn, dTst, dTru, dAnd, dOr, dNot, dAndV, dOrV, dNotV, dIfE, dCons, dNil, dTup, dLst, dCB, dCall, dCallN, dC, dVar, dChain, dSeq, dRng1, dRng2, dZip, dComp, dYes, dgName, dgTup, dgCons, dgNil, dwipe, dPeek, dPeekT, dIxO, frzAt, dNoPart, dPart, dSl, dEqV, dNeV, q000, q001, q002, q003, q004, q005, q006, q007, q008, q009, q010, q011, q012, q013, q014, q015, q016, q017, q018, q019, q020, q021, q022, q023, q024, q025, q026, q027, q028, q029, q030, q031, q032, q033, q034, q035, q036, q037, q038, q039, q040, q041, q042, q043, q044, q045, q046, q047, q048, q049, q050, q051, q052, q053, q054, q055, List.getElem?_cons_zero, List.getElem?_cons_succ, List.set_cons_zero, List.set_cons_succ, List.cons_append, List.nil_append, List.append_nil, if_true, if_false, ite_true, ite_false, Bool.false_eq_true, decide_eq_true_eq, Bool.not_true, Bool.not_false, Bool.not_eq_true', decide_eq_false_iff_not, Bool.not_not, isi_int_int, isi_int_bool, isi_int_tuple, isi_int_str, isi_int_lt, isi_bl_int, isi_bl_bool, isi_bl_lt, isi_str_str, isi_str_lt, isi_non_lt, isi_tup_tuple, isi_lst_tuple, isi_tup_lt, isi_lst_lt, okEq_int, okEq_bl, okEq_non, okEq_ils, okEq_vec, deqv_int, deqv_bl, deqv_ils, deqv_vec, true_and, and_true, and_self, reduceCtorEq, not_true_eq_false, not_false_eq_true, false_imp_iff, true_imp_iff, forall_const]
    refine ⟨a, d, rfl, by omega, by omega, d3', ds', ?_⟩
    simp -failIfUnchanged only [dSeqS, dSet, dSetO, dRet, dRetN, dIfS, dDrop, dNext, dBreak, dCont, dNever, dShow, dFor, dApp, dPutIx, dAsg, dOp, dUn, dTst, dTru, dAnd, dOr, dNot, dAndV, dOrV, dNotV, dIfE, dCons, dNil, dTup, dLst, dCB, dCall, dCallN, dC, dVar, dChain, dSeq, dRng1, dRng2, dZip, dComp, dYes, dgName, dgTup, dgCons, dgNil, dwipe, dPeek, dPeekT, dIxO, frzAt, dNoPart, dPart, dSl, dEqV, dNeV, q000, q001, q002, q003, q004, q005, q006, q007, q008, q009, q010, q011, q012, q013, q014, q015, q016, q017, q018, q019, q020, q021, q022, q023, q024, q025, q026, q027, q028, q029, q030, q031, q032, q033, q034, q035, q036, q037, q038, q039, q040, q041, q042, q043, q044, q045, q046, q047, q048, q049, q050, q051, q052, q053, q054, q055, List.getElem?_cons_zero, List.getElem?_cons_succ, List.set_cons_zero, List.set_cons_succ, List.cons_append, List.nil_append, List.append_nil, if_true, if_false, ite_true, ite_false, Bool.false_eq_true, decide_eq_true_eq, Bool.not_true, Bool.not_false, Bool.not_eq_true', decide_eq_false_iff_not, Bool.not_not, isi_int_int, isi_int_bool, isi_int_tuple, isi_int_str, isi_int_lt, isi_bl_int, isi_bl_bool, isi_bl_lt, isi_str_str, isi_str_lt, isi_non_lt, isi_tup_tuple, isi_lst_tuple, isi_tup_lt, isi_lst_lt, okEq_int, okEq_bl, okEq_non, okEq_ils, okEq_vec, deqv_int, deqv_bl, deqv_ils, deqv_vec, true_and, and_true, and_self, reduceCtorEq, not_true_eq_false, not_false_eq_true, false_imp_iff, true_imp_iff, forall_const]
    exact hR _ rfl
  rintro _ rfl
  refine seq_cut (fun δ => ∃ n, n ≤ 3100 ∧ isN b a n ∧ δ = [.val (.frz (ns.map .int)), .val (.lst sh), .val (.int w), .val (.int b), .val (.int f), .val (ils a), .val (ils d), .val (.lst ((figs b a n).map ils)), .no, .no, .no, .no, .no, .no, .no]) ?_ ?_
  · intro R hR
    simp -failIfUnchanged only [dSeqS, dSet, dSetO, dRet, dRetN, dIfS, dDrop, dNext, dBreak, dCont, dNever, dShow, dFor, dApp, dPutIx, dAsg, dOp, dUn, dTst, dTru, dAnd, dOr, dNot, dAndV, dOrV, dNotV, dIfE, dCons, dNil, dTup, dLst, dCB, dCall, dCallN, dC, dVar, dChain, dSeq, dRng1, dRng2, dZip, dComp, dYes, dgName, dgTup, dgCons, dgNil, dwipe, dPeek, dPeekT, dIxO, frzAt, dNoPart, dPart, dSl, dEqV, dNeV, q000, q001, q002, q003, q004, q005, q006, q007, q008, q009, q010, q011, q012, q013, q014, q015, q016, q017, q018, q019, q020, q021, q022, q023, q024, q025, q026, q027, q028, q029, q030, q031, q032, q033, q034, q035, q036, q037, q038, q039, q040, q041, q042, q043, q044, q045, q046, q047, q048, q049, q050, q051, q052, q053, q054, q055, List.getElem?_cons_zero, List.getElem?_cons_succ, List.set_cons_zero, List.set_cons_succ, List.cons_append, List.nil_append, List.append_nil, if_true, if_false, ite_true, ite_false, Bool.false_eq_true, decide_eq_true_eq, Bool.not_true, Bool.not_false, Bool.not_eq_true', decide_eq_false_iff_not, Bool.not_not, isi_int_int, isi_int_bool, isi_int_tuple, isi_int_str, isi_int_lt, isi_bl_int, isi_bl_bool, isi_bl_lt, isi_str_str, isi_str_lt, isi_non_lt, isi_tup_tuple, isi_lst_tuple, isi_tup_lt, isi_lst_lt, okEq_int, okEq_bl, okEq_non, okEq_ils, okEq_vec, deqv_int, deqv_bl, deqv_ils, deqv_vec, true_and, and_true, and_self, reduceCtorEq, not_true_eq_false, not_false_eq_true, false_imp_iff, true_imp_iff, forall_const]
    exact ⟨a, b, rfl, ane, by omega, big31, b2, b8, fun n hn tn => hR _ ⟨n, hn, tn, rfl⟩⟩
  rintro _ ⟨n, hn, tn, rfl⟩
  refine seq_cut (fun δ => ∃ m, m ≤ 3100 ∧ isN 2 a m ∧ δ = [.val (.frz (ns.map .int)), .val (.lst sh), .val (.int w), .val (.int b), .val (.int f), .val (ils a), .val (ils d), .val (.lst ((figs b a n).map ils)), .val (.lst ((figs 2 a m).map ils)), .no, .no, .no, .no, .no, .no]) ?_ ?_
  · intro R hR
    simp -failIfUnchanged only [dSeqS, dSet, dSetO, dRet, dRetN, dIfS, dDrop, dNext, dBreak, dCont, dNever, dShow, dFor, dApp, dPutIx, dAsg, dOp, dUn, dTst, dTru, dAnd, dOr, dNot, dAndV, dOrV, dNotV, dIfE, dCons, dNil, dTup, dLst, dCB, dCall, dCallN, dC, dVar, dChain, dSeq, dRng1, dRng2, dZip, dComp, dYes, dgName, dgTup, dgCons, dgNil, dwipe, dPeek, dPeekT, dIxO, frzAt, dNoPart, dPart, dSl, dEqV, dNeV, q000, q001, q002, q003, q004, q005, q006, q007, q008, q009, q010, q011, q012, q013, q014, q015, q016, q017, q018, q019, q020, q021, q022, q023, q024, q025, q026, q027, q028, q029, q030, q031, q032, q033, q034, q035, q036, q037, q038, q039, q040, q041, q042, q043, q044, q045, q046, q047, q048, q049, q050, q051, q052, q053, q054, q055, List.getElem?_cons_zero, List.getElem?_cons_succ, List.set_cons_zero, List.set_cons_succ, List.cons_append, List.nil_append, List.append_nil, if_true, if_false, ite_true, ite_false, Bool.false_eq_true, decide_eq_true_eq, Bool.not_true, Bool.not_false, Bool.not_eq_true', decide_eq_false_iff_not, Bool.not_not, isi_int_int, isi_int_bool, isi_int_tuple, isi_int_str, isi_int_lt, isi_bl_int, isi_bl_bool, isi_bl_lt, isi_str_str, isi_str_lt, isi_non_lt, isi_tup_tuple, isi_lst_tuple, isi_tup_lt, isi_lst_lt, okEq_int, okEq_bl, okEq_non, okEq_ils, okEq_vec, deqv_int, deqv_bl, deqv_ils, deqv_vec, true_and, and_true, and_self, reduceCtorEq, not_true_eq_false, not_false_eq_true, false_imp_iff, true_imp_iff, forall_const]
    exact ⟨a, 2, rfl, ane, by omega, big31, by omega, by omega, fun m hm tm => hR _ ⟨m, hm, tm, rfl⟩⟩
  rintro _ ⟨m, hm, tm, rfl⟩
  have same_n : ∀ k, isN b a k → figs b a k = figs b a n := fun k tk => by rw [tk.uniq (by omega) tn]
  have same_m : ∀ k, isN 2 a k → figs 2 a k = figs 2 a m := fun k tk => by rw [tk.uniq (by omega) tm]
  have short : ∀ (c k : Nat), ∀ r ∈ figs c a k, r.length < 2 ^ 60 := fun c k r hr => by rw [figs_rows r hr]; omega
  refine seq_cut (fun δ => δ = [.val (.frz (ns.map .int)), .val (.lst sh), .val (.int w), .val (.int b), .val (.int f), .val (ils a), .val (ils d), .val (.lst ((figs b a n).map ils)), .val (.lst ((figs 2 a m).map ils)), .val (ils a), .no, .no, .no, .no, .no]) ?_ ?_
  · intro R hR
    simp -failIfUnchanged only [dSeqS, dSet, dSetO, dRet, dRetN, dIfS, dDrop, dNext, dBreak, dCont, dNever, dShow, dFor, dApp, dPutIx, dAsg, dOp, dUn, dTst, dTru, dAnd, dOr, dNot, dAndV, dOrV, dNotV, dIfE, dCons, dNil, dTup, dLst, dCB, dCall, dCallN, dC, dVar, dChain, dSeq, dRng1, dRng2, dZip, dComp, dYes, dgName, dgTup, dgCons, dgNil, dwipe, dPeek, dPeekT, dIxO, frzAt, dNoPart, dPart, dSl, dEqV, dNeV, q000, q001, q002, q003, q004, q005, q006, q007, q008, q009, q010, q011, q012, q013, q014, q015, q016, q017, q018, q019, q020, q021, q022, q023, q024, q025, q026, q027, q028, q029, q030, q031, q032, q033, q034, q035, q036, q037, q038, q039, q040, q041, q042, q043, q044, q045, q046, q047, q048, q049, q050, q051, q052, q053, q054, q055, List.getElem?_cons_zero, List.getElem?_cons_succ, List.set_cons_zero, List.set_cons_succ, List.cons_append, List.nil_append, List.append_nil, if_true, if_false, ite_true, ite_false, Bool.false_eq_true, decide_eq_true_eq, Bool.not_true, Bool.not_false, Bool.not_eq_true', decide_eq_false_iff_not, Bool.not_not, isi_int_int, isi_int_bool, isi_int_tuple, isi_int_str, isi_int_lt, isi_bl_int, isi_bl_bool, isi_bl_lt, isi_str_str, isi_str_lt, isi_non_lt, isi_tup_tuple, isi_lst_tuple, isi_tup_lt, isi_lst_lt, okEq_int, okEq_bl, okEq_non, okEq_ils, okEq_vec, deqv_int, deqv_bl, deqv_ils, deqv_vec, true_and, and_true, and_self, reduceCtorEq, not_true_eq_false, not_false_eq_true, false_imp_iff, true_imp_iff, forall_const]
    exact hR _ rfl
  rintro _ rfl
  refine seq_cut (fun δ => δ = [.val (.frz (ns.map .int)), .val (.lst sh), .val (.int w), .val (.int b), .val (.int f), .val (ils a), .val (ils d), .val (.lst ((figs b a n).map ils)), .val (.lst ((figs 2 a m).map ils)), .val (ils a), .no, .no, .no, .no, .no]) ?_ ?_
  · intro R hR
    simp -failIfUnchanged only [dSeqS, dSet, dSetO, dRet, dRetN, dIfS, dDrop, dNext, dBreak, dCont, dNever, dShow, dFor, dApp, dPutIx, dAsg, dOp, dUn, dTst, dTru, dAnd, dOr, dNot, dAndV, dOrV, dNotV, dIfE, dCons, dNil, dTup, dLst, dCB, dCall, dCallN, dC, dVar, dChain, dSeq, dRng1, dRng2, dZip, dComp, dYes, dgName, dgTup, dgCons, dgNil, dwipe, dPeek, dPeekT, dIxO, frzAt, dNoPart, dPart, dSl, dEqV, dNeV, q000, q001, q002, q003, q004, q005, q006, q007, q008, q009, q010, q011, q012, q013, q014, q015, q016, q017, q018, q019, q020, q021, q022, q023, q024, q025, q026, q027, q028, q029, q030, q031, q032, q033, q034, q035, q036, q037, q038, q039, q040, q041, q042, q043, q044, q045, q046, q047, q048, q049, q050, q051, q052, q053, q054, q055, List.getElem?_cons_zero, List.getElem?_cons_succ, List.set_cons_zero, List.set_cons_succ, List.cons_append, List.nil_append, List.append_nil, if_true, if_false, ite_true, ite_false, Bool.false_eq_true, decide_eq_true_eq, Bool.not_true, Bool.not_false, Bool.not_eq_true', decide_eq_false_iff_not, Bool.not_not, isi_int_int, isi_int_bool, isi_int_tuple, isi_int_str, isi_int_lt, isi_bl_int, isi_bl_bool, isi_bl_lt, isi_str_str, isi_str_lt, isi_non_lt, isi_tup_tuple, isi_lst_tuple, isi_tup_lt, isi_lst_lt, okEq_int, okEq_bl, okEq_non, okEq_ils, okEq_vec, deqv_int, deqv_bl, deqv_ils, deqv_vec, true_and, and_true, and_self, reduceCtorEq, not_true_eq_false, not_false_eq_true, false_imp_iff, true_imp_iff, forall_const]
    refine ⟨rfl, rfl, _, a, b, rfl, isV_ils a, ane, big40, b2, b8, fun k tk => ?_⟩
    rw [same_n k tk]
    refine ⟨figs b a n, rfl, by rw [figs_len]; omega, short b n, ?_⟩
    simp -failIfUnchanged only [dSeqS, dSet, dSetO, dRet, dRetN, dIfS, dDrop, dNext, dBreak, dCont, dNever, dShow, dFor, dApp, dPutIx, dAsg, dOp, dUn, dTst, dTru, dAnd, dOr, dNot, dAndV, dOrV, dNotV, dIfE, dCons, dNil, dTup, dLst, dCB, dCall, dCallN, dC, dVar, dChain, dSeq, dRng1, dRng2, dZip, dComp, dYes, dgName, dgTup, dgCons, dgNil, dwipe, dPeek, dPeekT, dIxO, frzAt, dNoPart, dPart, dSl, dEqV, dNeV, q000, q001, q002, q003, q004, q005, q006, q007, q008, q009, q010, q011, q012, q013, q014, q015, q016, q017, q018, q019, q020, q021, q022, q023, q024, q025, q026, q027, q028, q029, q030, q031, q032, q033, q034, q035, q036, q037, q038, q039, q040, q041, q042, q043, q044, q045, q046, q047, q048, q049, q050, q051, q052, q053, q054, q055, List.getElem?_cons_zero, List.getElem?_cons_succ, List.set_cons_zero, List.set_cons_succ, List.cons_append, List.nil_append, List.append_nil, if_true, if_false, ite_true, ite_false, Bool.false_eq_true, decide_eq_true_eq, Bool.not_true, Bool.not_false, Bool.not_eq_true', decide_eq_false_iff_not, Bool.not_not, isi_int_int, isi_int_bool, isi_int_tuple, isi_int_str, isi_int_lt, isi_bl_int, isi_bl_bool, isi_bl_lt, isi_str_str, isi_str_lt, isi_non_lt, isi_tup_tuple, isi_lst_tuple, isi_tup_lt, isi_lst_lt, okEq_int, okEq_bl, okEq_non, okEq_ils, okEq_vec, deqv_int, deqv_bl, deqv_ils, deqv_vec, true_and, and_true, and_self, reduceCtorEq, not_true_eq_false, not_false_eq_true, false_imp_iff, true_imp_iff, forall_const]
    exact hR _ rfl
  rintro _ rfl
  refine seq_cut (fun δ => δ = [.val (.frz (ns.map .int)), .val (.lst sh), .val (.int w), .val (.int b), .val (.int f), .val (ils a), .val (ils d), .val (.lst ((figs b a n).map ils)), .val (.lst ((figs 2 a m).map ils)), .val (ils a), .no, .no, .no, .no, .no]) ?_ ?_
  · intro R hR
    simp -failIfUnchanged only [dSeqS, dSet, dSetO, dRet, dRetN, dIfS, dDrop, dNext, dBreak, dCont, dNever, dShow, dFor, dApp, dPutIx, dAsg, dOp, dUn, dTst, dTru, dAnd, dOr, dNot, dAndV, dOrV, dNotV, dIfE, dCons, dNil, dTup, dLst, dCB, dCall, dCallN, dC, dVar, dChain, dSeq, dRng1, dRng2, dZip, dComp, dYes, dgName, dgTup, dgCons, dgNil, dwipe, dPeek, dPeekT, dIxO, frzAt, dNoPart, dPart, dSl, dEqV, dNeV, q000, q001, q002, q003, q004, q005, q006, q007, q008, q009, q010, q011, q012, q013, q014, q015, q016, q017, q018, q019, q020, q021, q022, q023, q024, q025, q026, q027, q028, q029, q030, q031, q032, q033, q034, q035, q036, q037, q038, q039, q040, q041, q042, q043, q044, q045, q046, q047, q048, q049, q050, q051, q052, q053, q054, q055, List.getElem?_cons_zero, List.getElem?_cons_succ, List.set_cons_zero, List.set_cons_succ, List.cons_append, List.nil_append, List.append_nil, if_true, if_false, ite_true, ite_false, Bool.false_eq_true, decide_eq_true_eq, Bool.not_true, Bool.not_false, Bool.not_eq_true', decide_eq_false_iff_not, Bool.not_not, isi_int_int, isi_int_bool, isi_int_tuple, isi_int_str, isi_int_lt, isi_bl_int, isi_bl_bool, isi_bl_lt, isi_str_str, isi_str_lt, isi_non_lt, isi_tup_tuple, isi_lst_tuple, isi_tup_lt, isi_lst_lt, okEq_int, okEq_bl, okEq_non, okEq_ils, okEq_vec, deqv_int, deqv_bl, deqv_ils, deqv_vec, true_and, and_true, and_self, reduceCtorEq, not_true_eq_false, not_false_eq_true, false_imp_iff, true_imp_iff, forall_const]
    refine ⟨_, a, 2, rfl, isV_vec a, ane, big40, by omega, by omega, fun k tk => ?_⟩
    rw [same_m k tk]
    refine ⟨figs 2 a m, rfl, by rw [figs_len]; omega, short 2 m, ?_⟩
    simp -failIfUnchanged only [dSeqS, dSet, dSetO, dRet, dRetN, dIfS, dDrop, dNext, dBreak, dCont, dNever, dShow, dFor, dApp, dPutIx, dAsg, dOp, dUn, dTst, dTru, dAnd, dOr, dNot, dAndV, dOrV, dNotV, dIfE, dCons, dNil, dTup, dLst, dCB, dCall, dCallN, dC, dVar, dChain, dSeq, dRng1, dRng2, dZip, dComp, dYes, dgName, dgTup, dgCons, dgNil, dwipe, dPeek, dPeekT, dIxO, frzAt, dNoPart, dPart, dSl, dEqV, dNeV, q000, q001, q002, q003, q004, q005, q006, q007, q008, q009, q010, q011, q012, q013, q014, q015, q016, q017, q018, q019, q020, q021, q022, q023, q024, q025, q026, q027, q028, q029, q030, q031, q032, q033, q034, q035, q036, q037, q038, q039, q040, q041, q042, q043, q044, q045, q046, q047, q048, q049, q050, q051, q052, q053, q054, q055, List.getElem?_cons_zero, List.getElem?_cons_succ, List.set_cons_zero, List.set_cons_succ, List.cons_append, List.nil_append, List.append_nil, if_true, if_false, ite_true, ite_false, Bool.false_eq_true, decide_eq_true_eq, Bool.not_true, Bool.not_false, Bool.not_eq_true', decide_eq_false_iff_not, Bool.not_not, isi_int_int, isi_int_bool, isi_int_tuple, isi_int_str, isi_int_lt, isi_bl_int, isi_bl_bool, isi_bl_lt, isi_str_str, isi_str_lt, isi_non_lt, isi_tup_tuple, isi_lst_tuple, isi_tup_lt, isi_lst_lt, okEq_int, okEq_bl, okEq_non, okEq_ils, okEq_vec, deqv_int, deqv_bl, deqv_ils, deqv_vec, true_and, and_true, and_self, reduceCtorEq, not_true_eq_false, not_false_eq_true, false_imp_iff, true_imp_iff, forall_const]
    exact hR _ rfl
  rintro _ rfl
  refine seq_cut (fun δ => δ = [.val (.frz (ns.map .int)), .val (.lst sh), .val (.int w), .val (.int b), .val (.int f), .val (ils a), .val (ils d), .val (.lst ((figs b a n).map ils)), .val (.lst ((figs 2 a m).map ils)), .val (ils a), .no, .no, .no, .no, .no]) ?_ ?_
  · intro R hR
    simp -failIfUnchanged only [dSeqS, dSet, dSetO, dRet, dRetN, dIfS, dDrop, dNext, dBreak, dCont, dNever, dShow, dFor, dApp, dPutIx, dAsg, dOp, dUn, dTst, dTru, dAnd, dOr, dNot, dAndV, dOrV, dNotV, dIfE, dCons, dNil, dTup, dLst, dCB, dCall, dCallN, dC, dVar, dChain, dSeq, dRng1, dRng2, dZip, dComp, dYes, dgName, dgTup, dgCons, dgNil, dwipe, dPeek, dPeekT, dIxO, frzAt, dNoPart, dPart, dSl, dEqV, dNeV, q000, q001, q002, q003, q004, q005, q006, q007, q008, q009, q010, q011, q012, q013, q014, q015, q016, q017, q018, q019, q020, q021, q022, q023, q024, q025, q026, q027, q028, q029, q030, q031, q032, q033, q034, q035, q036, q037, q038, q039, q040, q041, q042, q043, q044, q045, q046, q047, q048, q049, q050, q051, q052, q053, q054, q055, List.getElem?_cons_zero, List.getElem?_cons_succ, List.set_cons_zero, List.set_cons_succ, List.cons_append, List.nil_append, List.append_nil, if_true, if_false, ite_true, ite_false, Bool.false_eq_true, decide_eq_true_eq, Bool.not_true, Bool.not_false, Bool.not_eq_true', decide_eq_false_iff_not, Bool.not_not, isi_int_int, isi_int_bool, isi_int_tuple, isi_int_str, isi_int_lt, isi_bl_int, isi_bl_bool, isi_bl_lt, isi_str_str, isi_str_lt, isi_non_lt, isi_tup_tuple, isi_lst_tuple, isi_tup_lt, isi_lst_lt, okEq_int, okEq_bl, okEq_non, okEq_ils, okEq_vec, deqv_int, deqv_bl, deqv_ils, deqv_vec, true_and, and_true, and_self, reduceCtorEq, not_true_eq_false, not_false_eq_true, false_imp_iff, true_imp_iff, forall_const, a3, a5, Option.some.injEq, exists_eq_left']
    refine ⟨a, b, n, d3, d5, rfl, by omega, by omega, big31, b2, b8, hn, tn, by omega, by omega, ?_⟩
    simp -failIfUnchanged only [dSeqS, dSet, dSetO, dRet, dRetN, dIfS, dDrop, dNext, dBreak, dCont, dNever, dShow, dFor, dApp, dPutIx, dAsg, dOp, dUn, dTst, dTru, dAnd, dOr, dNot, dAndV, dOrV, dNotV, dIfE, dCons, dNil, dTup, dLst, dCB, dCall, dCallN, dC, dVar, dChain, dSeq, dRng1, dRng2, dZip, dComp, dYes, dgName, dgTup, dgCons, dgNil, dwipe, dPeek, dPeekT, dIxO, frzAt, dNoPart, dPart, dSl, dEqV, dNeV, q000, q001, q002, q003, q004, q005, q006, q007, q008, q009, q010, q011, q012, q013, q014, q015, q016, q017, q018, q019, q020, q021, q022, q023, q024, q025, q026, q027, q028, q029, q030, q031, q032, q033, q034, q035, q036, q037, q038, q039, q040, q041, q042, q043, q044, q045, q046, q047, q048, q049, q050, q051, q052, q053, q054, q055, List.getElem?_cons_zero, List.getElem?_cons_succ, List.set_cons_zero, List.set_cons_succ, List.cons_append, List.nil_append, List.append_nil, if_true, if_false, ite_true, ite_false, Bool.false_eq_true, decide_eq_true_eq, Bool.not_true, Bool.not_false, Bool.not_eq_true', decide_eq_false_iff_not, Bool.not_not, isi_int_int, isi_int_bool, isi_int_tuple, isi_int_str, isi_int_lt, isi_bl_int, isi_bl_bool, isi_bl_lt, isi_str_str, isi_str_lt, isi_non_lt, isi_tup_tuple, isi_lst_tuple, isi_tup_lt, isi_lst_lt, okEq_int, okEq_bl, okEq_non, okEq_ils, okEq_vec, deqv_int, deqv_bl, deqv_ils, deqv_vec, true_and, and_true, and_self, reduceCtorEq, not_true_eq_false, not_false_eq_true, false_imp_iff, true_imp_iff, forall_const]
    exact hR _ rfl
  rintro _ rfl
  have wl : w.toNat = a.length := al.symm
  refine seq_cut (fun δ => δ = [.val (.frz (ns.map .int)), .val (.lst sh), .val (.int w), .val (.int b), .val (.int f), .val (ils a), .val (ils d), .val (.lst ((figs b a n).map ils)), .val (.lst ((figs 2 a m).map ils)), .val (ils a), .no, .no, .no, .no, .no]) ?_ ?_
  · intro R hR
    simp -failIfUnchanged only [dSeqS, dSet, dSetO, dRet, dRetN, dIfS, dDrop, dNext, dBreak, dCont, dNever, dShow, dFor, dApp, dPutIx, dAsg, dOp, dUn, dTst, dTru, dAnd, dOr, dNot, dAndV, dOrV, dNotV, dIfE, dCons, dNil, dTup, dLst, dCB, dCall, dCallN, dC, dVar, dChain, dSeq, dRng1, dRng2, dZip, dComp, dYes, dgName, dgTup, dgCons, dgNil, dwipe, dPeek, dPeekT, dIxO, frzAt, dNoPart, dPart, dSl, dEqV, dNeV, q000, q001, q002, q003, q004, q005, q006, q007, q008, q009, q010, q011, q012, q013, q014, q015, q016, q017, q018, q019, q020, q021, q022, q023, q024, q025, q026, q027, q028, q029, q030, q031, q032, q033, q034, q035, q036, q037, q038, q039, q040, q041, q042, q043, q044, q045, q046, q047, q048, q049, q050, q051, q052, q053, q054, q055, List.getElem?_cons_zero, List.getElem?_cons_succ, List.set_cons_zero, List.set_cons_succ, List.cons_append, List.nil_append, List.append_nil, if_true, if_false, ite_true, ite_false, Bool.false_eq_true, decide_eq_true_eq, Bool.not_true, Bool.not_false, Bool.not_eq_true', decide_eq_false_iff_not, Bool.not_not, isi_int_int, isi_int_bool, isi_int_tuple, isi_int_str, isi_int_lt, isi_bl_int, isi_bl_bool, isi_bl_lt, isi_str_str, isi_str_lt, isi_non_lt, isi_tup_tuple, isi_lst_tuple, isi_tup_lt, isi_lst_lt, okEq_int, okEq_bl, okEq_non, okEq_ils, okEq_vec, deqv_int, deqv_bl, deqv_ils, deqv_vec, true_and, and_true, and_self, reduceCtorEq, not_true_eq_false, not_false_eq_true, false_imp_iff, true_imp_iff, forall_const, List.length_map]
    by_cases hp : ((figs 2 a m).length : Int) ≤ 1100
    · simp only [hp]
      simp -failIfUnchanged only [dSeqS, dSet, dSetO, dRet, dRetN, dIfS, dDrop, dNext, dBreak, dCont, dNever, dShow, dFor, dApp, dPutIx, dAsg, dOp, dUn, dTst, dTru, dAnd, dOr, dNot, dAndV, dOrV, dNotV, dIfE, dCons, dNil, dTup, dLst, dCB, dCall, dCallN, dC, dVar, dChain, dSeq, dRng1, dRng2, dZip, dComp, dYes, dgName, dgTup, dgCons, dgNil, dwipe, dPeek, dPeekT, dIxO, frzAt, dNoPart, dPart, dSl, dEqV, dNeV, q000, q001, q002, q003, q004, q005, q006, q007, q008, q009, q010, q011, q012, q013, q014, q015, q016, q017, q018, q019, q020, q021, q022, q023, q024, q025, q026, q027, q028, q029, q030, q031, q032, q033, q034, q035, q036, q037, q038, q039, q040, q041, q042, q043, q044, q045, q046, q047, q048, q049, q050, q051, q052, q053, q054, q055, List.getElem?_cons_zero, List.getElem?_cons_succ, List.set_cons_zero, List.set_cons_succ, List.cons_append, List.nil_append, List.append_nil, if_true, if_false, ite_true, ite_false, Bool.false_eq_true, decide_eq_true_eq, Bool.not_true, Bool.not_false, Bool.not_eq_true', decide_eq_false_iff_not, Bool.not_not, isi_int_int, isi_int_bool, isi_int_tuple, isi_int_str, isi_int_lt, isi_bl_int, isi_bl_bool, isi_bl_lt, isi_str_str, isi_str_lt, isi_non_lt, isi_tup_tuple, isi_lst_tuple, isi_tup_lt, isi_lst_lt, okEq_int, okEq_bl, okEq_non, okEq_ils, okEq_vec, deqv_int, deqv_bl, deqv_ils, deqv_vec, true_and, and_true, and_self, reduceCtorEq, not_true_eq_false, not_false_eq_true, false_imp_iff, true_imp_iff, forall_const]
      refine comp_map ils vec (figs 2 a m) (fun r hr R hR => ?_) ?_
      · simp -failIfUnchanged only [dSeqS, dSet, dSetO, dRet, dRetN, dIfS, dDrop, dNext, dBreak, dCont, dNever, dShow, dFor, dApp, dPutIx, dAsg, dOp, dUn, dTst, dTru, dAnd, dOr, dNot, dAndV, dOrV, dNotV, dIfE, dCons, dNil, dTup, dLst, dCB, dCall, dCallN, dC, dVar, dChain, dSeq, dRng1, dRng2, dZip, dComp, dYes, dgName, dgTup, dgCons, dgNil, dwipe, dPeek, dPeekT, dIxO, frzAt, dNoPart, dPart, dSl, dEqV, dNeV, q000, q001, q002, q003, q004, q005, q006, q007, q008, q009, q010, q011, q012, q013, q014, q015, q016, q017, q018, q019, q020, q021, q022, q023, q024, q025, q026, q027, q028, q029, q030, q031, q032, q033, q034, q035, q036, q037, q038, q039, q040, q041, q042, q043, q044, q045, q046, q047, q048, q049, q050, q051, q052, q053, q054, q055, List.getElem?_cons_zero, List.getElem?_cons_succ, List.set_cons_zero, List.set_cons_succ, List.cons_append, List.nil_append, List.append_nil, if_true, if_false, ite_true, ite_false, Bool.false_eq_true, decide_eq_true_eq, Bool.not_true, Bool.not_false, Bool.not_eq_true', decide_eq_false_iff_not, Bool.not_not, isi_int_int, isi_int_bool, isi_int_tuple, isi_int_str, isi_int_lt, isi_bl_int, isi_bl_bool, isi_bl_lt, isi_str_str, isi_str_lt, isi_non_lt, isi_tup_tuple, isi_lst_tuple, isi_tup_lt, isi_lst_lt, okEq_int, okEq_bl, okEq_non, okEq_ils, okEq_vec, deqv_int, deqv_bl, deqv_ils, deqv_vec, true_and, and_true, and_self, reduceCtorEq, not_true_eq_false, not_false_eq_true, false_imp_iff, true_imp_iff, forall_const]
        exact hR
      refine ⟨_, figs 2 a m, w, 2, rfl, isRows_lstT _, by omega, by omega, by omega, by omega, ?_⟩
      rw [wl, show (2 : Int) = ((2 : Nat) : Int) from rfl, order_figs tm]
      refine ⟨a, _, rfl, isV_ils a, by omega, ?_⟩
      simp -failIfUnchanged only [dSeqS, dSet, dSetO, dRet, dRetN, dIfS, dDrop, dNext, dBreak, dCont, dNever, dShow, dFor, dApp, dPutIx, dAsg, dOp, dUn, dTst, dTru, dAnd, dOr, dNot, dAndV, dOrV, dNotV, dIfE, dCons, dNil, dTup, dLst, dCB, dCall, dCallN, dC, dVar, dChain, dSeq, dRng1, dRng2, dZip, dComp, dYes, dgName, dgTup, dgCons, dgNil, dwipe, dPeek, dPeekT, dIxO, frzAt, dNoPart, dPart, dSl, dEqV, dNeV, q000, q001, q002, q003, q004, q005, q006, q007, q008, q009, q010, q011, q012, q013, q014, q015, q016, q017, q018, q019, q020, q021, q022, q023, q024, q025, q026, q027, q028, q029, q030, q031, q032, q033, q034, q035, q036, q037, q038, q039, q040, q041, q042, q043, q044, q045, q046, q047, q048, q049, q050, q051, q052, q053, q054, q055, List.getElem?_cons_zero, List.getElem?_cons_succ, List.set_cons_zero, List.set_cons_succ, List.cons_append, List.nil_append, List.append_nil, if_true, if_false, ite_true, ite_false, Bool.false_eq_true, decide_eq_true_eq, Bool.not_true, Bool.not_false, Bool.not_eq_true', decide_eq_false_iff_not, Bool.not_not, isi_int_int, isi_int_bool, isi_int_tuple, isi_int_str, isi_int_lt, isi_bl_int, isi_bl_bool, isi_bl_lt, isi_str_str, isi_str_lt, isi_non_lt, isi_tup_tuple, isi_lst_tuple, isi_tup_lt, isi_lst_lt, okEq_int, okEq_bl, okEq_non, okEq_ils, okEq_vec, deqv_int, deqv_bl, deqv_ils, deqv_vec, true_and, and_true, and_self, reduceCtorEq, not_true_eq_false, not_false_eq_true, false_imp_iff, true_imp_iff, forall_const]
      exact hR _ rfl
    · simp only [hp]
      simp -failIfUnchanged only [dSeqS, dSet, dSetO, dRet, dRetN, dIfS, dDrop, dNext, dBreak, dCont, dNever, dShow, dFor, dApp, dPutIx, dAsg, dOp, dUn, dTst, dTru, dAnd, dOr, dNot, dAndV, dOrV, dNotV, dIfE, dCons, dNil, dTup, dLst, dCB, dCall, dCallN, dC, dVar, dChain, dSeq, dRng1, dRng2, dZip, dComp, dYes, dgName, dgTup, dgCons, dgNil, dwipe, dPeek, dPeekT, dIxO, frzAt, dNoPart, dPart, dSl, dEqV, dNeV, q000, q001, q002, q003, q004, q005, q006, q007, q008, q009, q010, q011, q012, q013, q014, q015, q016, q017, q018, q019, q020, q021, q022, q023, q024, q025, q026, q027, q028, q029, q030, q031, q032, q033, q034, q035, q036, q037, q038, q039, q040, q041, q042, q043, q044, q045, q046, q047, q048, q049, q050, q051, q052, q053, q054, q055, List.getElem?_cons_zero, List.getElem?_cons_succ, List.set_cons_zero, List.set_cons_succ, List.cons_append, List.nil_append, List.append_nil, if_true, if_false, ite_true, ite_false, Bool.false_eq_true, decide_eq_true_eq, Bool.not_true, Bool.not_false, Bool.not_eq_true', decide_eq_false_iff_not, Bool.not_not, isi_int_int, isi_int_bool, isi_int_tuple, isi_int_str, isi_int_lt, isi_bl_int, isi_bl_bool, isi_bl_lt, isi_str_str, isi_str_lt, isi_non_lt, isi_tup_tuple, isi_lst_tuple, isi_tup_lt, isi_lst_lt, okEq_int, okEq_bl, okEq_non, okEq_ils, okEq_vec, deqv_int, deqv_bl, deqv_ils, deqv_vec, true_and, and_true, and_self, reduceCtorEq, not_true_eq_false, not_false_eq_true, false_imp_iff, true_imp_iff, forall_const]
      exact hR _ rfl
  rintro _ rfl
  refine seq_cut (fun δ => ∃ fr : List (List Int), fr.length ≤ 1100 ∧ (∀ r ∈ fr, r.length = w.toNat ∧ ∀ x ∈ r, -7 ≤ x ∧ x ≤ 7) ∧ δ = [.val (.frz (ns.map .int)), .val (.lst sh), .val (.int w), .val (.int b), .val (.int f), .val (ils a), .val (ils d), .val (.lst ((figs b a n).map ils)), .val (.lst ((figs 2 a m).map ils)), .val (ils a), .val (.lst (fr.map ils)), .no, .no, .no, .no]) ?_ ?_
  · intro R hR
    simp -failIfUnchanged only [dSeqS, dSet, dSetO, dRet, dRetN, dIfS, dDrop, dNext, dBreak, dCont, dNever, dShow, dFor, dApp, dPutIx, dAsg, dOp, dUn, dTst, dTru, dAnd, dOr, dNot, dAndV, dOrV, dNotV, dIfE, dCons, dNil, dTup, dLst, dCB, dCall, dCallN, dC, dVar, dChain, dSeq, dRng1, dRng2, dZip, dComp, dYes, dgName, dgTup, dgCons, dgNil, dwipe, dPeek, dPeekT, dIxO, frzAt, dNoPart, dPart, dSl, dEqV, dNeV, q000, q001, q002, q003, q004, q005, q006, q007, q008, q009, q010, q011, q012, q013, q014, q015, q016, q017, q018, q019, q020, q021, q022, q023, q024, q025, q026, q027, q028, q029, q030, q031, q032, q033, q034, q035, q036, q037, q038, q039, q040, q041, q042, q043, q044, q045, q046, q047, q048, q049, q050, q051, q052, q053, q054, q055, List.getElem?_cons_zero, List.getElem?_cons_succ, List.set_cons_zero, List.set_cons_succ, List.cons_append, List.nil_append, List.append_nil, if_true, if_false, ite_true, ite_false, Bool.false_eq_true, decide_eq_true_eq, Bool.not_true, Bool.not_false, Bool.not_eq_true', decide_eq_false_iff_not, Bool.not_not, isi_int_int, isi_int_bool, isi_int_tuple, isi_int_str, isi_int_lt, isi_bl_int, isi_bl_bool, isi_bl_lt, isi_str_str, isi_str_lt, isi_non_lt, isi_tup_tuple, isi_lst_tuple, isi_tup_lt, isi_lst_lt, okEq_int, okEq_bl, okEq_non, okEq_ils, okEq_vec, deqv_int, deqv_bl, deqv_ils, deqv_vec, true_and, and_true, and_self, reduceCtorEq, not_true_eq_false, not_false_eq_true, false_imp_iff, true_imp_iff, forall_const]
    refine ⟨ns, 7, rfl, by omega, by omega, fun c => ?_⟩
    obtain ⟨sh0, e⟩ := shape_is
    exact ⟨c, w, d0, d1, d2, d3, d4, sh0, by rw [e], by omega, by omega, by omega, by omega, by omega, by omega, fun fr fl fb => hR _ ⟨fr, fl, fb, rfl⟩⟩
  rintro _ ⟨fr, frl, frb, rfl⟩
  have frs : ∀ r ∈ fr, r.length = w.toNat := fun r hr => (frb r hr).1
  have ol : ∀ c : Int, (orderOf c w.toNat fr).length < 2 ^ 60 := fun c => by
    unfold orderOf
    rw [ord_len (by simp) frs]
    omega
  refine seq_cut (fun δ => δ = [.val (.frz (ns.map .int)), .val (.lst sh), .val (.int w), .val (.int b), .val (.int f), .val (ils a), .val (ils d), .val (.lst ((figs b a n).map ils)), .val (.lst ((figs 2 a m).map ils)), .val (.lst (fr.map ils)), .val (.lst (fr.map ils)), .no, .no, .no, .no]) ?_ ?_
  · intro R hR
    simp -failIfUnchanged only [dSeqS, dSet, dSetO, dRet, dRetN, dIfS, dDrop, dNext, dBreak, dCont, dNever, dShow, dFor, dApp, dPutIx, dAsg, dOp, dUn, dTst, dTru, dAnd, dOr, dNot, dAndV, dOrV, dNotV, dIfE, dCons, dNil, dTup, dLst, dCB, dCall, dCallN, dC, dVar, dChain, dSeq, dRng1, dRng2, dZip, dComp, dYes, dgName, dgTup, dgCons, dgNil, dwipe, dPeek, dPeekT, dIxO, frzAt, dNoPart, dPart, dSl, dEqV, dNeV, q000, q001, q002, q003, q004, q005, q006, q007, q008, q009, q010, q011, q012, q013, q014, q015, q016, q017, q018, q019, q020, q021, q022, q023, q024, q025, q026, q027, q028, q029, q030, q031, q032, q033, q034, q035, q036, q037, q038, q039, q040, q041, q042, q043, q044, q045, q046, q047, q048, q049, q050, q051, q052, q053, q054, q055, List.getElem?_cons_zero, List.getElem?_cons_succ, List.set_cons_zero, List.set_cons_succ, List.cons_append, List.nil_append, List.append_nil, if_true, if_false, ite_true, ite_false, Bool.false_eq_true, decide_eq_true_eq, Bool.not_true, Bool.not_false, Bool.not_eq_true', decide_eq_false_iff_not, Bool.not_not, isi_int_int, isi_int_bool, isi_int_tuple, isi_int_str, isi_int_lt, isi_bl_int, isi_bl_bool, isi_bl_lt, isi_str_str, isi_str_lt, isi_non_lt, isi_tup_tuple, isi_lst_tuple, isi_tup_lt, isi_lst_lt, okEq_int, okEq_bl, okEq_non, okEq_ils, okEq_vec, deqv_int, deqv_bl, deqv_ils, deqv_vec, true_and, and_true, and_self, reduceCtorEq, not_true_eq_false, not_false_eq_true, false_imp_iff, true_imp_iff, forall_const]
    refine comp_map ils ils fr (fun r hr R hR => ?_) (hR _ rfl)
    simp -failIfUnchanged only [dSeqS, dSet, dSetO, dRet, dRetN, dIfS, dDrop, dNext, dBreak, dCont, dNever, dShow, dFor, dApp, dPutIx, dAsg, dOp, dUn, dTst, dTru, dAnd, dOr, dNot, dAndV, dOrV, dNotV, dIfE, dCons, dNil, dTup, dLst, dCB, dCall, dCallN, dC, dVar, dChain, dSeq, dRng1, dRng2, dZip, dComp, dYes, dgName, dgTup, dgCons, dgNil, dwipe, dPeek, dPeekT, dIxO, frzAt, dNoPart, dPart, dSl, dEqV, dNeV, q000, q001, q002, q003, q004, q005, q006, q007, q008, q009, q010, q011, q012, q013, q014, q015, q016, q017, q018, q019, q020, q021, q022, q023, q024, q025, q026, q027, q028, q029, q030, q031, q032, q033, q034, q035, q036, q037, q038, q039, q040, q041, q042, q043, q044, q045, q046, q047, q048, q049, q050, q051, q052, q053, q054, q055, List.getElem?_cons_zero, List.getElem?_cons_succ, List.set_cons_zero, List.set_cons_succ, List.cons_append, List.nil_append, List.append_nil, if_true, if_false, ite_true, ite_false, Bool.false_eq_true, decide_eq_true_eq, Bool.not_true, Bool.not_false, Bool.not_eq_true', decide_eq_false_iff_not, Bool.not_not, isi_int_int, isi_int_bool, isi_int_tuple, isi_int_str, isi_int_lt, isi_bl_int, isi_bl_bool, isi_bl_lt, isi_str_str, isi_str_lt, isi_non_lt, isi_tup_tuple, isi_lst_tuple, isi_tup_lt, isi_lst_lt, okEq_int, okEq_bl, okEq_non, okEq_ils, okEq_vec, deqv_int, deqv_bl, deqv_ils, deqv_vec, true_and, and_true, and_self, reduceCtorEq, not_true_eq_false, not_false_eq_true, false_imp_iff, true_imp_iff, forall_const]
    exact hR
  rintro _ rfl
  refine seq_cut (fun δ => δ = [.val (.frz (ns.map .int)), .val (.lst sh), .val (.int w), .val (.int b), .val (.int f), .val (ils a), .val (ils d), .val (.lst ((figs b a n).map ils)), .val (.lst ((figs 2 a m).map ils)), .val (.lst (fr.map ils)), .val (.lst (fr.map ils)), .no, .no, .no, .no]) ?_ ?_
  · intro R hR
    simp -failIfUnchanged only [dSeqS, dSet, dSetO, dRet, dRetN, dIfS, dDrop, dNext, dBreak, dCont, dNever, dShow, dFor, dApp, dPutIx, dAsg, dOp, dUn, dTst, dTru, dAnd, dOr, dNot, dAndV, dOrV, dNotV, dIfE, dCons, dNil, dTup, dLst, dCB, dCall, dCallN, dC, dVar, dChain, dSeq, dRng1, dRng2, dZip, dComp, dYes, dgName, dgTup, dgCons, dgNil, dwipe, dPeek, dPeekT, dIxO, frzAt, dNoPart, dPart, dSl, dEqV, dNeV, q000, q001, q002, q003, q004, q005, q006, q007, q008, q009, q010, q011, q012, q013, q014, q015, q016, q017, q018, q019, q020, q021, q022, q023, q024, q025, q026, q027, q028, q029, q030, q031, q032, q033, q034, q035, q036, q037, q038, q039, q040, q041, q042, q043, q044, q045, q046, q047, q048, q049, q050, q051, q052, q053, q054, q055, List.getElem?_cons_zero, List.getElem?_cons_succ, List.set_cons_zero, List.set_cons_succ, List.cons_append, List.nil_append, List.append_nil, if_true, if_false, ite_true, ite_false, Bool.false_eq_true, decide_eq_true_eq, Bool.not_true, Bool.not_false, Bool.not_eq_true', decide_eq_false_iff_not, Bool.not_not, isi_int_int, isi_int_bool, isi_int_tuple, isi_int_str, isi_int_lt, isi_bl_int, isi_bl_bool, isi_bl_lt, isi_str_str, isi_str_lt, isi_non_lt, isi_tup_tuple, isi_lst_tuple, isi_tup_lt, isi_lst_lt, okEq_int, okEq_bl, okEq_non, okEq_ils, okEq_vec, deqv_int, deqv_bl, deqv_ils, deqv_vec, true_and, and_true, and_self, reduceCtorEq, not_true_eq_false, not_false_eq_true, false_imp_iff, true_imp_iff, forall_const]
    refine ⟨rfl, rfl, _, fr, w, b, rfl, isRows_lst _, by omega, by omega, by omega, by omega, ?_⟩
    simp -failIfUnchanged only [dSeqS, dSet, dSetO, dRet, dRetN, dIfS, dDrop, dNext, dBreak, dCont, dNever, dShow, dFor, dApp, dPutIx, dAsg, dOp, dUn, dTst, dTru, dAnd, dOr, dNot, dAndV, dOrV, dNotV, dIfE, dCons, dNil, dTup, dLst, dCB, dCall, dCallN, dC, dVar, dChain, dSeq, dRng1, dRng2, dZip, dComp, dYes, dgName, dgTup, dgCons, dgNil, dwipe, dPeek, dPeekT, dIxO, frzAt, dNoPart, dPart, dSl, dEqV, dNeV, q000, q001, q002, q003, q004, q005, q006, q007, q008, q009, q010, q011, q012, q013, q014, q015, q016, q017, q018, q019, q020, q021, q022, q023, q024, q025, q026, q027, q028, q029, q030, q031, q032, q033, q034, q035, q036, q037, q038, q039, q040, q041, q042, q043, q044, q045, q046, q047, q048, q049, q050, q051, q052, q053, q054, q055, List.getElem?_cons_zero, List.getElem?_cons_succ, List.set_cons_zero, List.set_cons_succ, List.cons_append, List.nil_append, List.append_nil, if_true, if_false, ite_true, ite_false, Bool.false_eq_true, decide_eq_true_eq, Bool.not_true, Bool.not_false, Bool.not_eq_true', decide_eq_false_iff_not, Bool.not_not, isi_int_int, isi_int_bool, isi_int_tuple, isi_int_str, isi_int_lt, isi_bl_int, isi_bl_bool, isi_bl_lt, isi_str_str, isi_str_lt, isi_non_lt, isi_tup_tuple, isi_lst_tuple, isi_tup_lt, isi_lst_lt, okEq_int, okEq_bl, okEq_non, okEq_ils, okEq_vec, deqv_int, deqv_bl, deqv_ils, deqv_vec, true_and, and_true, and_self, reduceCtorEq, not_true_eq_false, not_false_eq_true, false_imp_iff, true_imp_iff, forall_const]
    refine ⟨fr, w, b, rfl, by omega, by omega, by omega, by omega, frb, ?_⟩
    refine ⟨_, _, rfl, isV_ils _, ol _, ?_⟩
    simp -failIfUnchanged only [dSeqS, dSet, dSetO, dRet, dRetN, dIfS, dDrop, dNext, dBreak, dCont, dNever, dShow, dFor, dApp, dPutIx, dAsg, dOp, dUn, dTst, dTru, dAnd, dOr, dNot, dAndV, dOrV, dNotV, dIfE, dCons, dNil, dTup, dLst, dCB, dCall, dCallN, dC, dVar, dChain, dSeq, dRng1, dRng2, dZip, dComp, dYes, dgName, dgTup, dgCons, dgNil, dwipe, dPeek, dPeekT, dIxO, frzAt, dNoPart, dPart, dSl, dEqV, dNeV, q000, q001, q002, q003, q004, q005, q006, q007, q008, q009, q010, q011, q012, q013, q014, q015, q016, q017, q018, q019, q020, q021, q022, q023, q024, q025, q026, q027, q028, q029, q030, q031, q032, q033, q034, q035, q036, q037, q038, q039, q040, q041, q042, q043, q044, q045, q046, q047, q048, q049, q050, q051, q052, q053, q054, q055, List.getElem?_cons_zero, List.getElem?_cons_succ, List.set_cons_zero, List.set_cons_succ, List.cons_append, List.nil_append, List.append_nil, if_true, if_false, ite_true, ite_false, Bool.false_eq_true, decide_eq_true_eq, Bool.not_true, Bool.not_false, Bool.not_eq_true', decide_eq_false_iff_not, Bool.not_not, isi_int_int, isi_int_bool, isi_int_tuple, isi_int_str, isi_int_lt, isi_bl_int, isi_bl_bool, isi_bl_lt, isi_str_str, isi_str_lt, isi_non_lt, isi_tup_tuple, isi_lst_tuple, isi_tup_lt, isi_lst_lt, okEq_int, okEq_bl, okEq_non, okEq_ils, okEq_vec, deqv_int, deqv_bl, deqv_ils, deqv_vec, true_and, and_true, and_self, reduceCtorEq, not_true_eq_false, not_false_eq_true, false_imp_iff, true_imp_iff, forall_const]
    have ok := okEq_rows fr
    have rf := deqv_refl ok
    simp only [ok, rf]
    simp -failIfUnchanged only [dSeqS, dSet, dSetO, dRet, dRetN, dIfS, dDrop, dNext, dBreak, dCont, dNever, dShow, dFor, dApp, dPutIx, dAsg, dOp, dUn, dTst, dTru, dAnd, dOr, dNot, dAndV, dOrV, dNotV, dIfE, dCons, dNil, dTup, dLst, dCB, dCall, dCallN, dC, dVar, dChain, dSeq, dRng1, dRng2, dZip, dComp, dYes, dgName, dgTup, dgCons, dgNil, dwipe, dPeek, dPeekT, dIxO, frzAt, dNoPart, dPart, dSl, dEqV, dNeV, q000, q001, q002, q003, q004, q005, q006, q007, q008, q009, q010, q011, q012, q013, q014, q015, q016, q017, q018, q019, q020, q021, q022, q023, q024, q025, q026, q027, q028, q029, q030, q031, q032, q033, q034, q035, q036, q037, q038, q039, q040, q041, q042, q043, q044, q045, q046, q047, q048, q049, q050, q051, q052, q053, q054, q055, List.getElem?_cons_zero, List.getElem?_cons_succ, List.set_cons_zero, List.set_cons_succ, List.cons_append, List.nil_append, List.append_nil, if_true, if_false, ite_true, ite_false, Bool.false_eq_true, decide_eq_true_eq, Bool.not_true, Bool.not_false, Bool.not_eq_true', decide_eq_false_iff_not, Bool.not_not, isi_int_int, isi_int_bool, isi_int_tuple, isi_int_str, isi_int_lt, isi_bl_int, isi_bl_bool, isi_bl_lt, isi_str_str, isi_str_lt, isi_non_lt, isi_tup_tuple, isi_lst_tuple, isi_tup_lt, isi_lst_lt, okEq_int, okEq_bl, okEq_non, okEq_ils, okEq_vec, deqv_int, deqv_bl, deqv_ils, deqv_vec, true_and, and_true, and_self, reduceCtorEq, not_true_eq_false, not_false_eq_true, false_imp_iff, true_imp_iff, forall_const]
    exact hR _ rfl
  rintro _ rfl
  refine seq_cut (fun δ => δ = [.val (.frz (ns.map .int)), .val (.lst sh), .val (.int w), .val (.int b), .val (.int f), .val (ils a), .val (ils d), .val (.lst ((figs b a n).map ils)), .val (.lst ((figs 2 a m).map ils)), .val (.lst (fr.map ils)), .val (.lst (fr.map ils)), .no, .no, .no, .no]) ?_ ?_
  · intro R hR
    simp -failIfUnchanged only [dSeqS, dSet, dSetO, dRet, dRetN, dIfS, dDrop, dNext, dBreak, dCont, dNever, dShow, dFor, dApp, dPutIx, dAsg, dOp, dUn, dTst, dTru, dAnd, dOr, dNot, dAndV, dOrV, dNotV, dIfE, dCons, dNil, dTup, dLst, dCB, dCall, dCallN, dC, dVar, dChain, dSeq, dRng1, dRng2, dZip, dComp, dYes, dgName, dgTup, dgCons, dgNil, dwipe, dPeek, dPeekT, dIxO, frzAt, dNoPart, dPart, dSl, dEqV, dNeV, q000, q001, q002, q003, q004, q005, q006, q007, q008, q009, q010, q011, q012, q013, q014, q015, q016, q017, q018, q019, q020, q021, q022, q023, q024, q025, q026, q027, q028, q029, q030, q031, q032, q033, q034, q035, q036, q037, q038, q039, q040, q041, q042, q043, q044, q045, q046, q047, q048, q049, q050, q051, q052, q053, q054, q055, List.getElem?_cons_zero, List.getElem?_cons_succ, List.set_cons_zero, List.set_cons_succ, List.cons_append, List.nil_append, List.append_nil, if_true, if_false, ite_true, ite_false, Bool.false_eq_true, decide_eq_true_eq, Bool.not_true, Bool.not_false, Bool.not_eq_true', decide_eq_false_iff_not, Bool.not_not, isi_int_int, isi_int_bool, isi_int_tuple, isi_int_str, isi_int_lt, isi_bl_int, isi_bl_bool, isi_bl_lt, isi_str_str, isi_str_lt, isi_non_lt, isi_tup_tuple, isi_lst_tuple, isi_tup_lt, isi_lst_lt, okEq_int, okEq_bl, okEq_non, okEq_ils, okEq_vec, deqv_int, deqv_bl, deqv_ils, deqv_vec, true_and, and_true, and_self, reduceCtorEq, not_true_eq_false, not_false_eq_true, false_imp_iff, true_imp_iff, forall_const]
    refine comp_map ils vec fr (fun r hr R hR => ?_) ?_
    · simp -failIfUnchanged only [dSeqS, dSet, dSetO, dRet, dRetN, dIfS, dDrop, dNext, dBreak, dCont, dNever, dShow, dFor, dApp, dPutIx, dAsg, dOp, dUn, dTst, dTru, dAnd, dOr, dNot, dAndV, dOrV, dNotV, dIfE, dCons, dNil, dTup, dLst, dCB, dCall, dCallN, dC, dVar, dChain, dSeq, dRng1, dRng2, dZip, dComp, dYes, dgName, dgTup, dgCons, dgNil, dwipe, dPeek, dPeekT, dIxO, frzAt, dNoPart, dPart, dSl, dEqV, dNeV, q000, q001, q002, q003, q004, q005, q006, q007, q008, q009, q010, q011, q012, q013, q014, q015, q016, q017, q018, q019, q020, q021, q022, q023, q024, q025, q026, q027, q028, q029, q030, q031, q032, q033, q034, q035, q036, q037, q038, q039, q040, q041, q042, q043, q044, q045, q046, q047, q048, q049, q050, q051, q052, q053, q054, q055, List.getElem?_cons_zero, List.getElem?_cons_succ, List.set_cons_zero, List.set_cons_succ, List.cons_append, List.nil_append, List.append_nil, if_true, if_false, ite_true, ite_false, Bool.false_eq_true, decide_eq_true_eq, Bool.not_true, Bool.not_false, Bool.not_eq_true', decide_eq_false_iff_not, Bool.not_not, isi_int_int, isi_int_bool, isi_int_tuple, isi_int_str, isi_int_lt, isi_bl_int, isi_bl_bool, isi_bl_lt, isi_str_str, isi_str_lt, isi_non_lt, isi_tup_tuple, isi_lst_tuple, isi_tup_lt, isi_lst_lt, okEq_int, okEq_bl, okEq_non, okEq_ils, okEq_vec, deqv_int, deqv_bl, deqv_ils, deqv_vec, true_and, and_true, and_self, reduceCtorEq, not_true_eq_false, not_false_eq_true, false_imp_iff, true_imp_iff, forall_const]
      exact hR
    simp -failIfUnchanged only [dSeqS, dSet, dSetO, dRet, dRetN, dIfS, dDrop, dNext, dBreak, dCont, dNever, dShow, dFor, dApp, dPutIx, dAsg, dOp, dUn, dTst, dTru, dAnd, dOr, dNot, dAndV, dOrV, dNotV, dIfE, dCons, dNil, dTup, dLst, dCB, dCall, dCallN, dC, dVar, dChain, dSeq, dRng1, dRng2, dZip, dComp, dYes, dgName, dgTup, dgCons, dgNil, dwipe, dPeek, dPeekT, dIxO, frzAt, dNoPart, dPart, dSl, dEqV, dNeV, q000, q001, q002, q003, q004, q005, q006, q007, q008, q009, q010, q011, q012, q013, q014, q015, q016, q017, q018, q019, q020, q021, q022, q023, q024, q025, q026, q027, q028, q029, q030, q031, q032, q033, q034, q035, q036, q037, q038, q039, q040, q041, q042, q043, q044, q045, q046, q047, q048, q049, q050, q051, q052, q053, q054, q055, List.getElem?_cons_zero, List.getElem?_cons_succ, List.set_cons_zero, List.set_cons_succ, List.cons_append, List.nil_append, List.append_nil, if_true, if_false, ite_true, ite_false, Bool.false_eq_true, decide_eq_true_eq, Bool.not_true, Bool.not_false, Bool.not_eq_true', decide_eq_false_iff_not, Bool.not_not, isi_int_int, isi_int_bool, isi_int_tuple, isi_int_str, isi_int_lt, isi_bl_int, isi_bl_bool, isi_bl_lt, isi_str_str, isi_str_lt, isi_non_lt, isi_tup_tuple, isi_lst_tuple, isi_tup_lt, isi_lst_lt, okEq_int, okEq_bl, okEq_non, okEq_ils, okEq_vec, deqv_int, deqv_bl, deqv_ils, deqv_vec, true_and, and_true, and_self, reduceCtorEq, not_true_eq_false, not_false_eq_true, false_imp_iff, true_imp_iff, forall_const]
    refine ⟨_, fr, w, 2, rfl, isRows_tupT _, by omega, by omega, by omega, by omega, ?_⟩
    simp -failIfUnchanged only [dSeqS, dSet, dSetO, dRet, dRetN, dIfS, dDrop, dNext, dBreak, dCont, dNever, dShow, dFor, dApp, dPutIx, dAsg, dOp, dUn, dTst, dTru, dAnd, dOr, dNot, dAndV, dOrV, dNotV, dIfE, dCons, dNil, dTup, dLst, dCB, dCall, dCallN, dC, dVar, dChain, dSeq, dRng1, dRng2, dZip, dComp, dYes, dgName, dgTup, dgCons, dgNil, dwipe, dPeek, dPeekT, dIxO, frzAt, dNoPart, dPart, dSl, dEqV, dNeV, q000, q001, q002, q003, q004, q005, q006, q007, q008, q009, q010, q011, q012, q013, q014, q015, q016, q017, q018, q019, q020, q021, q022, q023, q024, q025, q026, q027, q028, q029, q030, q031, q032, q033, q034, q035, q036, q037, q038, q039, q040, q041, q042, q043, q044, q045, q046, q047, q048, q049, q050, q051, q052, q053, q054, q055, List.getElem?_cons_zero, List.getElem?_cons_succ, List.set_cons_zero, List.set_cons_succ, List.cons_append, List.nil_append, List.append_nil, if_true, if_false, ite_true, ite_false, Bool.false_eq_true, decide_eq_true_eq, Bool.not_true, Bool.not_false, Bool.not_eq_true', decide_eq_false_iff_not, Bool.not_not, isi_int_int, isi_int_bool, isi_int_tuple, isi_int_str, isi_int_lt, isi_bl_int, isi_bl_bool, isi_bl_lt, isi_str_str, isi_str_lt, isi_non_lt, isi_tup_tuple, isi_lst_tuple, isi_tup_lt, isi_lst_lt, okEq_int, okEq_bl, okEq_non, okEq_ils, okEq_vec, deqv_int, deqv_bl, deqv_ils, deqv_vec, true_and, and_true, and_self, reduceCtorEq, not_true_eq_false, not_false_eq_true, false_imp_iff, true_imp_iff, forall_const]
    refine ⟨fr, w, 2, rfl, by omega, by omega, by omega, by omega, frb, ?_⟩
    refine ⟨_, _, rfl, isV_ils _, ol _, ?_⟩
    simp -failIfUnchanged only [dSeqS, dSet, dSetO, dRet, dRetN, dIfS, dDrop, dNext, dBreak, dCont, dNever, dShow, dFor, dApp, dPutIx, dAsg, dOp, dUn, dTst, dTru, dAnd, dOr, dNot, dAndV, dOrV, dNotV, dIfE, dCons, dNil, dTup, dLst, dCB, dCall, dCallN, dC, dVar, dChain, dSeq, dRng1, dRng2, dZip, dComp, dYes, dgName, dgTup, dgCons, dgNil, dwipe, dPeek, dPeekT, dIxO, frzAt, dNoPart, dPart, dSl, dEqV, dNeV, q000, q001, q002, q003, q004, q005, q006, q007, q008, q009, q010, q011, q012, q013, q014, q015, q016, q017, q018, q019, q020, q021, q022, q023, q024, q025, q026, q027, q028, q029, q030, q031, q032, q033, q034, q035, q036, q037, q038, q039, q040, q041, q042, q043, q044, q045, q046, q047, q048, q049, q050, q051, q052, q053, q054, q055, List.getElem?_cons_zero, List.getElem?_cons_succ, List.set_cons_zero, List.set_cons_succ, List.cons_append, List.nil_append, List.append_nil, if_true, if_false, ite_true, ite_false, Bool.false_eq_true, decide_eq_true_eq, Bool.not_true, Bool.not_false, Bool.not_eq_true', decide_eq_false_iff_not, Bool.not_not, isi_int_int, isi_int_bool, isi_int_tuple, isi_int_str, isi_int_lt, isi_bl_int, isi_bl_bool, isi_bl_lt, isi_str_str, isi_str_lt, isi_non_lt, isi_tup_tuple, isi_lst_tuple, isi_tup_lt, isi_lst_lt, okEq_int, okEq_bl, okEq_non, okEq_ils, okEq_vec, deqv_int, deqv_bl, deqv_ils, deqv_vec, true_and, and_true, and_self, reduceCtorEq, not_true_eq_false, not_false_eq_true, false_imp_iff, true_imp_iff, forall_const]
    exact hR _ rfl
  rintro _ rfl
  refine seq_cut (fun δ => ∃ kk zz : DS, δ = [.val (.frz (ns.map .int)), .val (.lst sh), .val (.int w), .val (.int b), .val (.int f), .val (ils a), .val (ils d), .val (.lst ((figs b a n).map ils)), .val (.lst ((figs 2 a m).map ils)), .val (.lst (fr.map ils)), .val (.lst (fr.map ils)), kk, zz, .no, .no]) ?_ ?_
  · intro R hR
    simp -failIfUnchanged only [dSeqS, dSet, dSetO, dRet, dRetN, dIfS, dDrop, dNext, dBreak, dCont, dNever, dShow, dFor, dApp, dPutIx, dAsg, dOp, dUn, dTst, dTru, dAnd, dOr, dNot, dAndV, dOrV, dNotV, dIfE, dCons, dNil, dTup, dLst, dCB, dCall, dCallN, dC, dVar, dChain, dSeq, dRng1, dRng2, dZip, dComp, dYes, dgName, dgTup, dgCons, dgNil, dwipe, dPeek, dPeekT, dIxO, frzAt, dNoPart, dPart, dSl, dEqV, dNeV, q000, q001, q002, q003, q004, q005, q006, q007, q008, q009, q010, q011, q012, q013, q014, q015, q016, q017, q018, q019, q020, q021, q022, q023, q024, q025, q026, q027, q028, q029, q030, q031, q032, q033, q034, q035, q036, q037, q038, q039, q040, q041, q042, q043, q044, q045, q046, q047, q048, q049, q050, q051, q052, q053, q054, q055, List.getElem?_cons_zero, List.getElem?_cons_succ, List.set_cons_zero, List.set_cons_succ, List.cons_append, List.nil_append, List.append_nil, if_true, if_false, ite_true, ite_false, Bool.false_eq_true, decide_eq_true_eq, Bool.not_true, Bool.not_false, Bool.not_eq_true', decide_eq_false_iff_not, Bool.not_not, isi_int_int, isi_int_bool, isi_int_tuple, isi_int_str, isi_int_lt, isi_bl_int, isi_bl_bool, isi_bl_lt, isi_str_str, isi_str_lt, isi_non_lt, isi_tup_tuple, isi_lst_tuple, isi_tup_lt, isi_lst_lt, okEq_int, okEq_bl, okEq_non, okEq_ils, okEq_vec, deqv_int, deqv_bl, deqv_ils, deqv_vec, true_and, and_true, and_self, reduceCtorEq, not_true_eq_false, not_false_eq_true, false_imp_iff, true_imp_iff, forall_const]
    refine ⟨by decide, by decide, ?_⟩
    refine for_rng _ (fun i δ => ∃ kk zz : DS, δ = [.val (.frz (ns.map .int)), .val (.lst sh), .val (.int w), .val (.int b), .val (.int f), .val (ils a), .val (ils d), .val (.lst ((figs b a n).map ils)), .val (.lst ((figs 2 a m).map ils)), .val (.lst (fr.map ils)), .val (.lst (fr.map ils)), kk, zz, .no, .no]) ⟨_, _, rfl⟩ ?_ ?_
    · rintro i δ R hi ⟨kk, zz, rfl⟩ hR
      have hi3 : i < 3 := hi
      simp -failIfUnchanged only [dSeqS, dSet, dSetO, dRet, dRetN, dIfS, dDrop, dNext, dBreak, dCont, dNever, dShow, dFor, dApp, dPutIx, dAsg, dOp, dUn, dTst, dTru, dAnd, dOr, dNot, dAndV, dOrV, dNotV, dIfE, dCons, dNil, dTup, dLst, dCB, dCall, dCallN, dC, dVar, dChain, dSeq, dRng1, dRng2, dZip, dComp, dYes, dgName, dgTup, dgCons, dgNil, dwipe, dPeek, dPeekT, dIxO, frzAt, dNoPart, dPart, dSl, dEqV, dNeV, q000, q001, q002, q003, q004, q005, q006, q007, q008, q009, q010, q011, q012, q013, q014, q015, q016, q017, q018, q019, q020, q021, q022, q023, q024, q025, q026, q027, q028, q029, q030, q031, q032, q033, q034, q035, q036, q037, q038, q039, q040, q041, q042, q043, q044, q045, q046, q047, q048, q049, q050, q051, q052, q053, q054, q055, List.getElem?_cons_zero, List.getElem?_cons_succ, List.set_cons_zero, List.set_cons_succ, List.cons_append, List.nil_append, List.append_nil, if_true, if_false, ite_true, ite_false, Bool.false_eq_true, decide_eq_true_eq, Bool.not_true, Bool.not_false, Bool.not_eq_true', decide_eq_false_iff_not, Bool.not_not, isi_int_int, isi_int_bool, isi_int_tuple, isi_int_str, isi_int_lt, isi_bl_int, isi_bl_bool, isi_bl_lt, isi_str_str, isi_str_lt, isi_non_lt, isi_tup_tuple, isi_lst_tuple, isi_tup_lt, isi_lst_lt, okEq_int, okEq_bl, okEq_non, okEq_ils, okEq_vec, deqv_int, deqv_bl, deqv_ils, deqv_vec, true_and, and_true, and_self, reduceCtorEq, not_true_eq_false, not_false_eq_true, false_imp_iff, true_imp_iff, forall_const]
      refine ⟨by decide, by omega, by omega, by rw [sizeLine_eq]; show 1 * _ ≤ _; omega, ?_⟩
      have ki : ((i : Int) + 1).toNat = i + 1 := by omega
      rw [flat_rep, ki]
      have z0 := isN_zero b (i + 1) (by omega)
      have zz : ∀ y ∈ List.replicate (i + 1) (0 : Int), y.natAbs < 2 ^ 4000 := fun y hy => by rw [List.eq_of_mem_replicate hy]; exact Nat.pow_pos (by decide)
      refine ⟨rfl, rfl, _, List.replicate (i + 1) 0, b, rfl, isV_ils _, by simp, zz, b2, b8, fun k tk => ?_⟩
      rw [tk.uniq (by omega) z0]
      refine ⟨by decide, [], rfl, by decide, fun r hr => by (cases hr), ?_⟩
      simp -failIfUnchanged only [dSeqS, dSet, dSetO, dRet, dRetN, dIfS, dDrop, dNext, dBreak, dCont, dNever, dShow, dFor, dApp, dPutIx, dAsg, dOp, dUn, dTst, dTru, dAnd, dOr, dNot, dAndV, dOrV, dNotV, dIfE, dCons, dNil, dTup, dLst, dCB, dCall, dCallN, dC, dVar, dChain, dSeq, dRng1, dRng2, dZip, dComp, dYes, dgName, dgTup, dgCons, dgNil, dwipe, dPeek, dPeekT, dIxO, frzAt, dNoPart, dPart, dSl, dEqV, dNeV, q000, q001, q002, q003, q004, q005, q006, q007, q008, q009, q010, q011, q012, q013, q014, q015, q016, q017, q018, q019, q020, q021, q022, q023, q024, q025, q026, q027, q028, q029, q030, q031, q032, q033, q034, q035, q036, q037, q038, q039, q040, q041, q042, q043, q044, q045, q046, q047, q048, q049, q050, q051, q052, q053, q054, q055, List.getElem?_cons_zero, List.getElem?_cons_succ, List.set_cons_zero, List.set_cons_succ, List.cons_append, List.nil_append, List.append_nil, if_true, if_false, ite_true, ite_false, Bool.false_eq_true, decide_eq_true_eq, Bool.not_true, Bool.not_false, Bool.not_eq_true', decide_eq_false_iff_not, Bool.not_not, isi_int_int, isi_int_bool, isi_int_tuple, isi_int_str, isi_int_lt, isi_bl_int, isi_bl_bool, isi_bl_lt, isi_str_str, isi_str_lt, isi_non_lt, isi_tup_tuple, isi_lst_tuple, isi_tup_lt, isi_lst_lt, okEq_int, okEq_bl, okEq_non, okEq_ils, okEq_vec, deqv_int, deqv_bl, deqv_ils, deqv_vec, true_and, and_true, and_self, reduceCtorEq, not_true_eq_false, not_false_eq_true, false_imp_iff, true_imp_iff, forall_const]
      refine ⟨by decide, rfl, rfl, _, [], (i : Int) + 1, b, rfl, isRows_lst [], by omega, by omega, by omega, by omega, ?_⟩
      rw [ki]
      refine ⟨List.replicate (i + 1) 0, _, rfl, isV_ils _, by rw [List.length_replicate]; omega, ?_⟩
      simp -failIfUnchanged only [dSeqS, dSet, dSetO, dRet, dRetN, dIfS, dDrop, dNext, dBreak, dCont, dNever, dShow, dFor, dApp, dPutIx, dAsg, dOp, dUn, dTst, dTru, dAnd, dOr, dNot, dAndV, dOrV, dNotV, dIfE, dCons, dNil, dTup, dLst, dCB, dCall, dCallN, dC, dVar, dChain, dSeq, dRng1, dRng2, dZip, dComp, dYes, dgName, dgTup, dgCons, dgNil, dwipe, dPeek, dPeekT, dIxO, frzAt, dNoPart, dPart, dSl, dEqV, dNeV, q000, q001, q002, q003, q004, q005, q006, q007, q008, q009, q010, q011, q012, q013, q014, q015, q016, q017, q018, q019, q020, q021, q022, q023, q024, q025, q026, q027, q028, q029, q030, q031, q032, q033, q034, q035, q036, q037, q038, q039, q040, q041, q042, q043, q044, q045, q046, q047, q048, q049, q050, q051, q052, q053, q054, q055, List.getElem?_cons_zero, List.getElem?_cons_succ, List.set_cons_zero, List.set_cons_succ, List.cons_append, List.nil_append, List.append_nil, if_true, if_false, ite_true, ite_false, Bool.false_eq_true, decide_eq_true_eq, Bool.not_true, Bool.not_false, Bool.not_eq_true', decide_eq_false_iff_not, Bool.not_not, isi_int_int, isi_int_bool, isi_int_tuple, isi_int_str, isi_int_lt, isi_bl_int, isi_bl_bool, isi_bl_lt, isi_str_str, isi_str_lt, isi_non_lt, isi_tup_tuple, isi_lst_tuple, isi_tup_lt, isi_lst_lt, okEq_int, okEq_bl, okEq_non, okEq_ils, okEq_vec, deqv_int, deqv_bl, deqv_ils, deqv_vec, true_and, and_true, and_self, reduceCtorEq, not_true_eq_false, not_false_eq_true, false_imp_iff, true_imp_iff, forall_const]
      exact hR _ ⟨_, _, rfl⟩
    · rintro δ ⟨kk, zz, rfl⟩
      exact hR _ ⟨kk, zz, rfl⟩
  rintro _ ⟨kk, zz, rfl⟩
  refine seq_cut (fun δ => δ = [.val (.frz (ns.map .int)), .val (.lst sh), .val (.int w), .val (.int b), .val (.int f), .val (ils a), .val (ils d), .val (.lst ((figs b a n).map ils)), .val (.lst ((figs 2 a m).map ils)), .val (.lst (fr.map ils)), .val (.lst (fr.map ils)), kk, zz, .no, .no]) ?_ ?_
  · intro R hR
    simp -failIfUnchanged only [dSeqS, dSet, dSetO, dRet, dRetN, dIfS, dDrop, dNext, dBreak, dCont, dNever, dShow, dFor, dApp, dPutIx, dAsg, dOp, dUn, dTst, dTru, dAnd, dOr, dNot, dAndV, dOrV, dNotV, dIfE, dCons, dNil, dTup, dLst, dCB, dCall, dCallN, dC, dVar, dChain, dSeq, dRng1, dRng2, dZip, dComp, dYes, dgName, dgTup, dgCons, dgNil, dwipe, dPeek, dPeekT, dIxO, frzAt, dNoPart, dPart, dSl, dEqV, dNeV, q000, q001, q002, q003, q004, q005, q006, q007, q008, q009, q010, q011, q012, q013, q014, q015, q016, q017, q018, q019, q020, q021, q022, q023, q024, q025, q026, q027, q028, q029, q030, q031, q032, q033, q034, q035, q036, q037, q038, q039, q040, q041, q042, q043, q044, q045, q046, q047, q048, q049, q050, q051, q052, q053, q054, q055, List.getElem?_cons_zero, List.getElem?_cons_succ, List.set_cons_zero, List.set_cons_succ, List.cons_append, List.nil_append, List.append_nil, if_true, if_false, ite_true, ite_false, Bool.false_eq_true, decide_eq_true_eq, Bool.not_true, Bool.not_false, Bool.not_eq_true', decide_eq_false_iff_not, Bool.not_not, isi_int_int, isi_int_bool, isi_int_tuple, isi_int_str, isi_int_lt, isi_bl_int, isi_bl_bool, isi_bl_lt, isi_str_str, isi_str_lt, isi_non_lt, isi_tup_tuple, isi_lst_tuple, isi_tup_lt, isi_lst_lt, okEq_int, okEq_bl, okEq_non, okEq_ils, okEq_vec, deqv_int, deqv_bl, deqv_ils, deqv_vec, true_and, and_true, and_self, reduceCtorEq, not_true_eq_false, not_false_eq_true, false_imp_iff, true_imp_iff, forall_const]
    refine ⟨_, a, 2, rfl, isV_ils a, ane, big40, by omega, by omega, fun k tk => ?_⟩
    rw [same_m k tk]
    refine ⟨figs 2 a m, rfl, by rw [figs_len]; omega, short 2 m, ?_⟩
    simp -failIfUnchanged only [dSeqS, dSet, dSetO, dRet, dRetN, dIfS, dDrop, dNext, dBreak, dCont, dNever, dShow, dFor, dApp, dPutIx, dAsg, dOp, dUn, dTst, dTru, dAnd, dOr, dNot, dAndV, dOrV, dNotV, dIfE, dCons, dNil, dTup, dLst, dCB, dCall, dCallN, dC, dVar, dChain, dSeq, dRng1, dRng2, dZip, dComp, dYes, dgName, dgTup, dgCons, dgNil, dwipe, dPeek, dPeekT, dIxO, frzAt, dNoPart, dPart, dSl, dEqV, dNeV, q000, q001, q002, q003, q004, q005, q006, q007, q008, q009, q010, q011, q012, q013, q014, q015, q016, q017, q018, q019, q020, q021, q022, q023, q024, q025, q026, q027, q028, q029, q030, q031, q032, q033, q034, q035, q036, q037, q038, q039, q040, q041, q042, q043, q044, q045, q046, q047, q048, q049, q050, q051, q052, q053, q054, q055, List.getElem?_cons_zero, List.getElem?_cons_succ, List.set_cons_zero, List.set_cons_succ, List.cons_append, List.nil_append, List.append_nil, if_true, if_false, ite_true, ite_false, Bool.false_eq_true, decide_eq_true_eq, Bool.not_true, Bool.not_false, Bool.not_eq_true', decide_eq_false_iff_not, Bool.not_not, isi_int_int, isi_int_bool, isi_int_tuple, isi_int_str, isi_int_lt, isi_bl_int, isi_bl_bool, isi_bl_lt, isi_str_str, isi_str_lt, isi_non_lt, isi_tup_tuple, isi_lst_tuple, isi_tup_lt, isi_lst_lt, okEq_int, okEq_bl, okEq_non, okEq_ils, okEq_vec, deqv_int, deqv_bl, deqv_ils, deqv_vec, true_and, and_true, and_self, reduceCtorEq, not_true_eq_false, not_false_eq_true, false_imp_iff, true_imp_iff, forall_const]
    refine ⟨a, d, rfl, by omega, by omega, d3', ds', ?_⟩
    simp -failIfUnchanged only [dSeqS, dSet, dSetO, dRet, dRetN, dIfS, dDrop, dNext, dBreak, dCont, dNever, dShow, dFor, dApp, dPutIx, dAsg, dOp, dUn, dTst, dTru, dAnd, dOr, dNot, dAndV, dOrV, dNotV, dIfE, dCons, dNil, dTup, dLst, dCB, dCall, dCallN, dC, dVar, dChain, dSeq, dRng1, dRng2, dZip, dComp, dYes, dgName, dgTup, dgCons, dgNil, dwipe, dPeek, dPeekT, dIxO, frzAt, dNoPart, dPart, dSl, dEqV, dNeV, q000, q001, q002, q003, q004, q005, q006, q007, q008, q009, q010, q011, q012, q013, q014, q015, q016, q017, q018, q019, q020, q021, q022, q023, q024, q025, q026, q027, q028, q029, q030, q031, q032, q033, q034, q035, q036, q037, q038, q039, q040, q041, q042, q043, q044, q045, q046, q047, q048, q049, q050, q051, q052, q053, q054, q055, List.getElem?_cons_zero, List.getElem?_cons_succ, List.set_cons_zero, List.set_cons_succ, List.cons_append, List.nil_append, List.append_nil, if_true, if_false, ite_true, ite_false, Bool.false_eq_true, decide_eq_true_eq, Bool.not_true, Bool.not_false, Bool.not_eq_true', decide_eq_false_iff_not, Bool.not_not, isi_int_int, isi_int_bool, isi_int_tuple, isi_int_str, isi_int_lt, isi_bl_int, isi_bl_bool, isi_bl_lt, isi_str_str, isi_str_lt, isi_non_lt, isi_tup_tuple, isi_lst_tuple, isi_tup_lt, isi_lst_lt, okEq_int, okEq_bl, okEq_non, okEq_ils, okEq_vec, deqv_int, deqv_bl, deqv_ils, deqv_vec, true_and, and_true, and_self, reduceCtorEq, not_true_eq_false, not_false_eq_true, false_imp_iff, true_imp_iff, forall_const]
    exact hR _ rfl
  rintro _ rfl
  simp -failIfUnchanged only [dSeqS, dSet, dSetO, dRet, dRetN, dIfS, dDrop, dNext, dBreak, dCont, dNever, dShow, dFor, dApp, dPutIx, dAsg, dOp, dUn, dTst, dTru, dAnd, dOr, dNot, dAndV, dOrV, dNotV, dIfE, dCons, dNil, dTup, dLst, dCB, dCall, dCallN, dC, dVar, dChain, dSeq, dRng1, dRng2, dZip, dComp, dYes, dgName, dgTup, dgCons, dgNil, dwipe, dPeek, dPeekT, dIxO, frzAt, dNoPart, dPart, dSl, dEqV, dNeV, q000, q001, q002, q003, q004, q005, q006, q007, q008, q009, q010, q011, q012, q013, q014, q015, q016, q017, q018, q019, q020, q021, q022, q023, q024, q025, q026, q027, q028, q029, q030, q031, q032, q033, q034, q035, q036, q037, q038, q039, q040, q041, q042, q043, q044, q045, q046, q047, q048, q049, q050, q051, q052, q053, q054, q055, List.getElem?_cons_zero, List.getElem?_cons_succ, List.set_cons_zero, List.set_cons_succ, List.cons_append, List.nil_append, List.append_nil, if_true, if_false, ite_true, ite_false, Bool.false_eq_true, decide_eq_true_eq, Bool.not_true, Bool.not_false, Bool.not_eq_true', decide_eq_false_iff_not, Bool.not_not, isi_int_int, isi_int_bool, isi_int_tuple, isi_int_str, isi_int_lt, isi_bl_int, isi_bl_bool, isi_bl_lt, isi_str_str, isi_str_lt, isi_non_lt, isi_tup_tuple, isi_lst_tuple, isi_tup_lt, isi_lst_lt, okEq_int, okEq_bl, okEq_non, okEq_ils, okEq_vec, deqv_int, deqv_bl, deqv_ils, deqv_vec, true_and, and_true, and_self, reduceCtorEq, not_true_eq_false, not_false_eq_true, false_imp_iff, true_imp_iff, forall_const]
  refine ⟨rfl, rfl, _, a, b, rfl, isV_ils a, ane, big40, b2, b8, fun k tk => ?_⟩
  rw [same_n k tk]
  exact ⟨figs b a n, rfl, by rw [figs_len]; omega, short b n, hq⟩
end L2.DL

-- K00O
set_option Elab.async false
set_option linter.all false
set_option maxRecDepth 100000
set_option maxHeartbeats 4000000
namespace L2.DL.Law
open PySem PySem.Spec PyProof.Rows L2.DL
def topS (i : Nat) : Stmt := PySem.Challenge.pw_halvedloads_k00_digits_there_and_back.main.body.getD i (.Pass ⟨0, 0, 0, 0⟩)
/-- the built-ins that the text leaves as they are -/
structure Txt (mg : Str → Option Value) : Prop where
  m_abs : mg "abs" = none
  m_all : mg "all" = none
  m_bool : mg "bool" = none
  m_int : mg "int" = none
  m_isinstance : mg "isinstance" = none
  m_len : mg "len" = none
  m_list : mg "list" = none
  m_max : mg "max" = none
  m_min : mg "min" = none
  m_range : mg "range" = none
  m_tuple : mg "tuple" = none
  m_zip : mg "zip" = none
section
variable {P : Program} {w : World} {K : PySem.W.Frag} {mg : Str → Option Value} {base : Heap} {f : Addr} {fd : FuncData}
abbrev s_frozen : Stmt := topS 1
theorem sc_frozen : FnScope ["value", "item"] ["value"] (defScope s_frozen) := ⟨rfl, rfl, rfl, by decide +kernel, rfl, by decide +kernel, by decide +kernel⟩
theorem ok_frozen (T : Txt mg) (Fn : FunD K "frozen" "frozen" (defArgs s_frozen) (defBody s_frozen) (defScope s_frozen) [] [] f fd) (hm : mg "frozen" = some (.ref f)) (hb : Binds K fd ["value"] []) : ∀ n : Nat, FnOk P w K mg base CX0 (n + 1) f fd ["value"] (spD K (F_frozen n)) := by
  have step : ∀ n : Nat, FnOk P w K mg base CX0 n f fd ["value"] (spD K (F_frozenP n)) → FnOk P w K mg base CX0 (n + 1) f fd ["value"] (spD K (F_frozen n)) := fun n c => by
    have c_frozen : Cal1 P w K mg base CX0 n "frozen" [] [] (F_frozenP n) := ⟨⟨f, fd, ["value"], [], c, hm, Fn.kp, hb, .nil⟩, fun _ => .nil⟩
    exact def_ok Fn sc_frozen (g_frozen (F_frozenP n)) (does_frozen n) (fun cdv A outer s H hr => ⟨_, (ss_cons (s_if (t_tru (e_cb b_isi T.m_isinstance bb_isinstance (a_cons (ev 0) (a_cons (e_tup (a_cons (e_ty T.m_list bb_list) (a_cons (e_ty T.m_tuple bb_tuple) a_nil))) a_nil)))) (ss_one (s_ret (e_cty b_tuple T.m_tuple bb_tuple (a_cons (FOk.e (f_lc (own := [("item", 1)]) sc_frozen.nd (i_seq (ev 0)) (blkOk_by (by kernel_rfl)) (fun _ _ _ _ _ => (g_name 1 sc_frozen.nd)) (fun _ _ _ _ _ => ts_nil) (fun _ _ _ _ _ => (e_call c_frozen (hr.mono (Nat.le_refl _)) (a_cons (ev 1) a_nil))))) a_nil)))) ss_nil)
    (ss_one (s_ret (ev 0))))⟩) (fun _ _ _ h => h)
  intro n
  induction n with
  | zero => exact step 0 (fnok_false _)
  | succ n ih => exact step (n + 1) ih
abbrev s_zero_vector : Stmt := topS 2
theorem sc_zero_vector : FnScope ["width"] ["width"] (defScope s_zero_vector) := ⟨rfl, rfl, rfl, by decide +kernel, rfl, by decide +kernel, by decide +kernel⟩
theorem ok_zero_vector (T : Txt mg) (Fn : FunD K "zero_vector" "zero_vector" (defArgs s_zero_vector) (defBody s_zero_vector) (defScope s_zero_vector) [] [] f fd)  : FnOk P w K mg base CX0 1 f fd ["width"] (spD K F_zero_vector) :=
  def_ok Fn sc_zero_vector g_zero_vector does_zero_vector (fun cdv A outer s H hr => ⟨_, (ss_one (s_ret (e_op o_mul (e_tup (a_cons e_int a_nil)) (ev 0))))⟩) (fun _ _ _ h => h)
abbrev s_added : Stmt := topS 3
theorem sc_added : FnScope ["one", "two", "first", "second"] ["one", "two"] (defScope s_added) := ⟨rfl, rfl, rfl, by decide +kernel, rfl, by decide +kernel, by decide +kernel⟩
theorem ok_added (T : Txt mg) (Fn : FunD K "added" "added" (defArgs s_added) (defBody s_added) (defScope s_added) [] [] f fd)  : FnOk P w K mg base CX0 1 f fd ["one", "two"] (spD K F_added) :=
  def_ok Fn sc_added g_added does_added (fun cdv A outer s H hr => ⟨_, (ss_one (s_ret (e_cty b_tuple T.m_tuple bb_tuple (a_cons (FOk.e (f_lc (own := [("first", 2), ("second", 3)]) sc_added.nd (i_zip T.m_zip (a_cons (ev 0) (a_cons (ev 1) a_nil))) (blkOk_by (by kernel_rfl)) (fun _ _ _ _ _ => (g_tup (gs_cons (g_name 2 sc_added.nd) (gs_cons (g_name 3 sc_added.nd) gs_nil)))) (fun _ _ _ _ _ => ts_nil) (fun _ _ _ _ _ => (e_op o_add (ev 2) (ev 3))))) a_nil))))⟩) (fun _ _ _ h => h)
abbrev s_times : Stmt := topS 4
theorem sc_times : FnScope ["number", "vector", "entry"] ["number", "vector"] (defScope s_times) := ⟨rfl, rfl, rfl, by decide +kernel, rfl, by decide +kernel, by decide +kernel⟩
theorem ok_times (T : Txt mg) (Fn : FunD K "times" "times" (defArgs s_times) (defBody s_times) (defScope s_times) [] [] f fd)  : FnOk P w K mg base CX0 1 f fd ["number", "vector"] (spD K F_times) :=
  def_ok Fn sc_times g_times does_times (fun cdv A outer s H hr => ⟨_, (ss_one (s_ret (e_cty b_tuple T.m_tuple bb_tuple (a_cons (FOk.e (f_lc (own := [("entry", 2)]) sc_times.nd (i_seq (ev 1)) (blkOk_by (by kernel_rfl)) (fun _ _ _ _ _ => (g_name 2 sc_times.nd)) (fun _ _ _ _ _ => ts_nil) (fun _ _ _ _ _ => (e_op o_mul (ev 0) (ev 2))))) a_nil))))⟩) (fun _ _ _ h => h)
abbrev s_signs_of : Stmt := topS 6
theorem sc_signs_of : FnScope ["vector", "entry"] ["vector"] (defScope s_signs_of) := ⟨rfl, rfl, rfl, by decide +kernel, rfl, by decide +kernel, by decide +kernel⟩
theorem ok_signs_of (T : Txt mg) (Fn : FunD K "signs_of" "signs_of" (defArgs s_signs_of) (defBody s_signs_of) (defScope s_signs_of) [] [] f fd)  : FnOk P w K mg base CX0 1 f fd ["vector"] (spD K F_signs_of) :=
  def_ok Fn sc_signs_of g_signs_of does_signs_of (fun cdv A outer s H hr => ⟨_, (ss_one (s_ret (e_cty b_tuple T.m_tuple bb_tuple (a_cons (FOk.e (f_lc (own := [("entry", 1)]) sc_signs_of.nd (i_seq (ev 0)) (blkOk_by (by kernel_rfl)) (fun _ _ _ _ _ => (g_name 1 sc_signs_of.nd)) (fun _ _ _ _ _ => ts_nil) (fun _ _ _ _ _ => (e_if (t_cmp o_lt (ev 1) e_int (nomark _)) (e_un o_neg e_int) e_int)))) a_nil))))⟩) (fun _ _ _ h => h)
abbrev s_has_signs : Stmt := topS 7
theorem sc_has_signs : FnScope ["vector", "signs", "entry", "sign"] ["vector", "signs"] (defScope s_has_signs) := ⟨rfl, rfl, rfl, by decide +kernel, rfl, by decide +kernel, by decide +kernel⟩
theorem ok_has_signs (T : Txt mg) (Fn : FunD K "has_signs" "has_signs" (defArgs s_has_signs) (defBody s_has_signs) (defScope s_has_signs) [] [] f fd)  : FnOk P w K mg base CX0 1 f fd ["vector", "signs"] (spD K F_has_signs) :=
  def_ok Fn sc_has_signs g_has_signs does_has_signs (fun cdv A outer s H hr => ⟨_, (ss_cons (s_if (t_cmp (o_ne hr) (e_cb b_len T.m_len bb_len (a_cons (ev 0) a_nil)) (e_cb b_len T.m_len bb_len (a_cons (ev 1) a_nil)) (nomark _)) (ss_one (s_ret e_bl)) ss_nil)
    (ss_one (s_ret (e_cb (b_all rfl) T.m_all bb_all (a_cons (FOk.e (f_lc (own := [("entry", 2), ("sign", 3)]) sc_has_signs.nd (i_zip T.m_zip (a_cons (ev 0) (a_cons (ev 1) a_nil))) (blkOk_by (by kernel_rfl)) (fun _ _ _ _ _ => (g_tup (gs_cons (g_name 2 sc_has_signs.nd) (gs_cons (g_name 3 sc_has_signs.nd) gs_nil)))) (fun _ _ _ _ _ => ts_nil) (fun _ _ _ _ _ => (e_cmp o_ge (e_op o_mul (ev 2) (ev 3)) e_int (nomark _))))) a_nil)))))⟩) (fun _ _ _ h => h)
abbrev s_figures_of : Stmt := topS 8
theorem sc_figures_of : FnScope ["vector", "base", "signs", "left", "rows", "entry", "sign"] ["vector", "base"] (defScope s_figures_of) := ⟨rfl, rfl, rfl, by decide +kernel, rfl, by decide +kernel, by decide +kernel⟩
theorem ok_figures_of (T : Txt mg) (Fn : FunD K "figures_of" "figures_of" (defArgs s_figures_of) (defBody s_figures_of) (defScope s_figures_of) [] [("base", V.int 2)] f fd) (c_signs_of : Cal1 P w K mg base CX0 1 "signs_of" [] [] F_signs_of) : FnOk P w K mg base CX0 2 f fd ["vector", "base"] (spD K F_figures_of) :=
  def_ok Fn sc_figures_of g_figures_of does_figures_of (fun cdv A outer s H hr => ⟨_, (ss_cons (s_set 2 sc_figures_of.nd (e_call c_signs_of (hr.mono (by decide)) (a_cons (ev 0) a_nil)))
    (ss_cons (s_lc 3 (own := [("entry", 5)]) sc_figures_of.nd (i_seq (ev 0)) (blkOk_by (by kernel_rfl)) (fun _ _ _ _ _ => (g_name 5 sc_figures_of.nd)) (fun _ _ _ _ _ => ts_nil) (fun _ _ _ _ _ => (e_cb b_abs T.m_abs bb_abs (a_cons (ev 5) a_nil))))
    (ss_cons (s_setO 4 sc_figures_of.nd (f_lst a_nil))
    (ss_cons (s_while PassesOwn.never (t_cmp o_gt (e_cb (b_max rfl) T.m_max bb_max (a_cons (ev 3) a_nil)) e_int (nomark _)) (ss_cons (s_app 4 (e_cty b_tuple T.m_tuple bb_tuple (a_cons (FOk.e (f_lc (own := [("sign", 6), ("entry", 5)]) sc_figures_of.nd (i_zip T.m_zip (a_cons (ev 2) (a_cons (ev 3) a_nil))) (blkOk_by (by kernel_rfl)) (fun _ _ _ _ _ => (g_tup (gs_cons (g_name 6 sc_figures_of.nd) (gs_cons (g_name 5 sc_figures_of.nd) gs_nil)))) (fun _ _ _ _ _ => ts_nil) (fun _ _ _ _ _ => (e_op o_mul (ev 6) (e_op o_mod (ev 5) (ev 1)))))) a_nil)))
    (ss_one (s_lc 3 (own := [("entry", 5)]) sc_figures_of.nd (i_seq (ev 3)) (blkOk_by (by kernel_rfl)) (fun _ _ _ _ _ => (g_name 5 sc_figures_of.nd)) (fun _ _ _ _ _ => ts_nil) (fun _ _ _ _ _ => (e_op o_fdiv (ev 5) (ev 1)))))))
    (ss_show 4 (ss_one (s_ret (e_cty b_tuple T.m_tuple bb_tuple (a_cons (e_rev (ev 4)) a_nil)))))))))⟩) (fun _ _ _ h => h)
abbrev s_order_of : Stmt := topS 9
theorem sc_order_of : FnScope ["rows", "width", "base", "total", "row"] ["rows", "width", "base"] (defScope s_order_of) := ⟨rfl, rfl, rfl, by decide +kernel, rfl, by decide +kernel, by decide +kernel⟩
theorem ok_order_of (T : Txt mg) (Fn : FunD K "order_of" "order_of" (defArgs s_order_of) (defBody s_order_of) (defScope s_order_of) [] [("base", V.int 2)] f fd) (c_zero_vector : Cal1 P w K mg base CX0 1 "zero_vector" [] [] F_zero_vector) (c_frozen : Cal1 P w K mg base CX0 3 "frozen" [] [] (F_frozen 2)) (c_times : Cal1 P w K mg base CX0 1 "times" [] [] F_times) (c_added : Cal1 P w K mg base CX0 1 "added" [] [] F_added) : FnOk P w K mg base CX0 4 f fd ["rows", "width", "base"] (spD K F_order_of) :=
  def_ok Fn sc_order_of (g_order_of (F_frozen 2)) does_order_of (fun cdv A outer s H hr => ⟨_, (ss_cons (s_set 3 sc_order_of.nd (e_call c_zero_vector (hr.mono (by decide)) (a_cons (ev 1) a_nil)))
    (ss_cons (s_for PassesOwn.never (i_seq (e_call c_frozen (hr.mono (by decide)) (a_cons (ev 0) a_nil))) (g_name (ws := [4]) 4 sc_order_of.nd) (ss_one (s_set 3 sc_order_of.nd (e_call c_added (hr.mono (by decide)) (a_cons (e_call c_times (hr.mono (by decide)) (a_cons (ev 2) (a_cons (ev 3) a_nil))) (a_cons (ev 4) a_nil))))))
    (ss_one (s_ret (ev 3)))))⟩) (fun _ _ _ h => h)
abbrev s__law_whole : Stmt := topS 11
theorem sc__law_whole : FnScope ["value"] ["value"] (defScope s__law_whole) := ⟨rfl, rfl, rfl, by decide +kernel, rfl, by decide +kernel, by decide +kernel⟩
theorem ok__law_whole (T : Txt mg) (Fn : FunD K "_law_whole" "_law_whole" (defArgs s__law_whole) (defBody s__law_whole) (defScope s__law_whole) [] [] f fd)  : FnOk P w K mg base CX0 1 f fd ["value"] (spD K F__law_whole) :=
  def_ok Fn sc__law_whole g__law_whole does__law_whole (fun cdv A outer s H hr => ⟨_, (ss_one (s_ret (e_and (e_cb b_isi T.m_isinstance bb_isinstance (a_cons (ev 0) (a_cons (e_ty T.m_int bb_int) a_nil))) (e_one (e_not (e_cb b_isi T.m_isinstance bb_isinstance (a_cons (ev 0) (a_cons (e_ty T.m_bool bb_bool) a_nil))))))))⟩) (fun _ _ _ h => h)
abbrev s__law_cell : Stmt := topS 12
theorem sc__law_cell : FnScope ["script", "k", "seed", "cell"] ["script", "k"] (defScope s__law_cell) := ⟨rfl, rfl, rfl, by decide +kernel, rfl, by decide +kernel, by decide +kernel⟩
theorem ok__law_cell (T : Txt mg) (Fn : FunD K "_law_cell" "_law_cell" (defArgs s__law_cell) (defBody s__law_cell) (defScope s__law_cell) [] [] f fd)  : FnOk P w K mg base CX0 1 f fd ["script", "k"] (spD K F__law_cell) :=
  def_ok Fn sc__law_cell g__law_cell does__law_cell (fun cdv A outer s H hr => ⟨_, (ss_cons (s_if (t_cmp o_lt (ev 1) (e_cb b_len T.m_len bb_len (a_cons (ev 0) a_nil)) (nomark _)) (ss_one (s_ret (e_ix (ev 0) (ev 1)))) ss_nil)
    (ss_cons (s_set 2 sc__law_cell.nd e_int)
    (ss_cons (s_for PassesOwn.never (i_seq (ev 0)) (g_name (ws := [3]) 3 sc__law_cell.nd) (ss_one (s_set 2 sc__law_cell.nd (e_op o_mod (e_cty b_int T.m_int bb_int (a_cons (e_op o_add (e_op o_mul (ev 2) e_int) (e_op o_mod (e_cty b_int T.m_int bb_int (a_cons (ev 3) a_nil)) e_int)) a_nil)) e_int))))
    (ss_one (s_ret (e_op o_mod (e_cty b_int T.m_int bb_int (a_cons (e_op o_mul (e_op o_mul (e_op o_add (ev 2) e_int) (e_op o_add (ev 1) e_int)) e_int) a_nil)) e_int))))))⟩) (fun _ _ _ h => h)
abbrev s__law_digits : Stmt := topS 13
theorem sc__law_digits : FnScope ["cell", "sizes", "row", "rest", "seed", "k", "size", "twice"] ["cell", "sizes"] (defScope s__law_digits) := ⟨rfl, rfl, rfl, by decide +kernel, rfl, by decide +kernel, by decide +kernel⟩
theorem ok__law_digits (T : Txt mg) (Fn : FunD K "_law_digits" "_law_digits" (defArgs s__law_digits) (defBody s__law_digits) (defScope s__law_digits) [] [] f fd)  : FnOk P w K mg base CX0 1 f fd ["cell", "sizes"] (spD K F__law_digits) :=
  def_ok Fn sc__law_digits g__law_digits does__law_digits (fun cdv A outer s H hr => ⟨_, (ss_cons (s_setO 2 sc__law_digits.nd (f_lst a_nil))
    (ss_cons (s_set 3 sc__law_digits.nd (e_cty b_int T.m_int bb_int (a_cons (ev 0) a_nil)))
    (ss_cons (s_if (t_cmp o_ge (ev 3) (e_op o_pow e_int e_int) (nomark _)) (ss_cons (s_set 3 sc__law_digits.nd (e_op o_sub (ev 3) (e_op o_pow e_int e_int)))
    (ss_cons (s_for PassesOwn.never (i_seq (ev 1)) (g_name (ws := [6]) 6 sc__law_digits.nd) (ss_cons (s_app 2 (e_op o_mod (e_cty b_int T.m_int bb_int (a_cons (ev 3) a_nil)) (ev 6)))
    (ss_one (s_set 3 sc__law_digits.nd (e_op o_fdiv (e_cty b_int T.m_int bb_int (a_cons (ev 3) a_nil)) (ev 6))))))
    (ss_one (s_show 2 (s_ret (ev 2)))))) ss_nil)
    (ss_cons (s_set 4 sc__law_digits.nd (e_op o_mod (e_cty b_int T.m_int bb_int (a_cons (ev 3) a_nil)) e_int))
    (ss_cons (s_for PassesOwn.never (i_rng1 T.m_range (a_cons (e_cb b_len T.m_len bb_len (a_cons (ev 1) a_nil)) a_nil)) (g_name (ws := [5]) 5 sc__law_digits.nd) (ss_cons (s_set 4 sc__law_digits.nd (e_op o_mod (e_cty b_int T.m_int bb_int (a_cons (e_op o_add (e_op o_add (e_op o_mul (ev 4) e_int) (e_op o_mul e_int (ev 5))) e_int) a_nil)) e_int))
    (ss_cons (s_set 7 sc__law_digits.nd (e_op o_mod (e_cty b_int T.m_int bb_int (a_cons (e_op o_mul (ev 4) (e_op o_add (e_op o_fdiv (ev 4) e_int) e_int)) a_nil)) e_int))
    (ss_one (s_app 2 (e_op o_mod (e_op o_fdiv (ev 7) e_int) (e_ix (ev 1) (ev 5))))))))
    (ss_show 2 (ss_one (s_ret (ev 2)))))))))⟩) (fun _ _ _ h => h)
abbrev s__law_number : Stmt := topS 14
theorem sc__law_number : FnScope ["cell", "low", "high", "rest", "total", "seed", "k"] ["cell", "low", "high"] (defScope s__law_number) := ⟨rfl, rfl, rfl, by decide +kernel, rfl, by decide +kernel, by decide +kernel⟩
theorem ok__law_number (T : Txt mg) (Fn : FunD K "_law_number" "_law_number" (defArgs s__law_number) (defBody s__law_number) (defScope s__law_number) [] [] f fd)  : FnOk P w K mg base CX0 1 f fd ["cell", "low", "high"] (spD K F__law_number) :=
  def_ok Fn sc__law_number g__law_number does__law_number (fun cdv A outer s H hr => ⟨_, (ss_cons (s_set 3 sc__law_number.nd (e_cty b_int T.m_int bb_int (a_cons (ev 0) a_nil)))
    (ss_cons (s_if (t_cmp o_ge (ev 3) (e_op o_pow e_int e_int) (nomark _)) (ss_one (s_ret (e_op o_add (ev 1) (e_op o_mod (e_cty b_int T.m_int bb_int (a_cons (e_op o_sub (ev 3) (e_op o_pow e_int e_int)) a_nil)) (e_op o_add (e_op o_sub (ev 2) (ev 1)) e_int))))) ss_nil)
    (ss_cons (s_set 4 sc__law_number.nd e_int)
    (ss_cons (s_set 5 sc__law_number.nd (e_op o_mod (e_cty b_int T.m_int bb_int (a_cons (ev 3) a_nil)) e_int))
    (ss_cons (s_for PassesOwn.never (i_rng1 T.m_range (a_cons e_int a_nil)) (g_name (ws := [6]) 6 sc__law_number.nd) (ss_cons (s_set 5 sc__law_number.nd (e_op o_mod (e_cty b_int T.m_int bb_int (a_cons (e_op o_add (e_op o_add (e_op o_mul (ev 5) e_int) (e_op o_mul e_int (ev 6))) e_int) a_nil)) e_int))
    (ss_one (s_set 4 sc__law_number.nd (e_op o_add (e_op o_mul (ev 4) e_int) (e_op o_fdiv (e_op o_mod (e_cty b_int T.m_int bb_int (a_cons (e_op o_mul (ev 5) (e_op o_add (e_op o_fdiv (ev 5) e_int) e_int)) a_nil)) e_int) e_int))))))
    (ss_one (s_ret (e_op o_add (ev 1) (e_op o_mod (e_cty b_int T.m_int bb_int (a_cons (ev 4) a_nil)) (e_op o_add (e_op o_sub (ev 2) (ev 1)) e_int))))))))))⟩) (fun _ _ _ h => h)
abbrev s__law_power : Stmt := topS 15
theorem sc__law_power : FnScope ["number", "count", "power", "k"] ["number", "count"] (defScope s__law_power) := ⟨rfl, rfl, rfl, by decide +kernel, rfl, by decide +kernel, by decide +kernel⟩
theorem ok__law_power (T : Txt mg) (Fn : FunD K "_law_power" "_law_power" (defArgs s__law_power) (defBody s__law_power) (defScope s__law_power) [] [] f fd)  : FnOk P w K mg base CX0 1 f fd ["number", "count"] (spD K F__law_power) :=
  def_ok Fn sc__law_power g__law_power does__law_power (fun cdv A outer s H hr => ⟨_, (ss_cons (s_set 2 sc__law_power.nd e_int)
    (ss_cons (s_for PassesOwn.never (i_rng1 T.m_range (a_cons (ev 1) a_nil)) (g_name (ws := [3]) 3 sc__law_power.nd) (ss_one (s_set 2 sc__law_power.nd (e_op o_mul (ev 2) (ev 0)))))
    (ss_one (s_ret (ev 2)))))⟩) (fun _ _ _ h => h)
abbrev s__law_entry : Stmt := topS 16
theorem sc__law_entry : FnScope ["pick", "cell", "root", "far", "wide", "digits", "entry"] ["pick", "cell", "root", "far"] (defScope s__law_entry) := ⟨rfl, rfl, rfl, by decide +kernel, rfl, by decide +kernel, by decide +kernel⟩
theorem ok__law_entry (T : Txt mg) (Fn : FunD K "_law_entry" "_law_entry" (defArgs s__law_entry) (defBody s__law_entry) (defScope s__law_entry) [] [] f fd) (c__law_power : Cal1 P w K mg base CX0 1 "_law_power" [] [] F__law_power) (c__law_digits : Cal1 P w K mg base CX0 1 "_law_digits" [] [] F__law_digits) (c__law_number : Cal1 P w K mg base CX0 1 "_law_number" [] [] F__law_number) : FnOk P w K mg base CX0 2 f fd ["pick", "cell", "root", "far"] (spD K F__law_entry) :=
  def_ok Fn sc__law_entry g__law_entry does__law_entry (fun cdv A outer s H hr => ⟨_, (ss_cons (s_set 4 sc__law_entry.nd (e_call c__law_power (hr.mono (by decide)) (a_cons e_int (a_cons (e_op o_mul e_int (ev 3)) a_nil))))
    (ss_cons (s_set 5 sc__law_entry.nd (e_call c__law_digits (hr.mono (by decide)) (a_cons (ev 0) (a_cons (e_lst (a_cons e_int (a_cons e_int (a_cons e_int (a_cons e_int (a_cons e_int a_nil)))))) a_nil))))
    (ss_cons (s_set 6 sc__law_entry.nd e_int)
    (ss_cons (s_if (WOk.tst (w_or (t_cmp (o_eq hr) (e_ix (ev 5) e_int) e_int (nomark _)) (w_or1 (t_cmp (o_eq hr) (e_ix (ev 5) e_int) e_int (nomark _))))) (ss_one (s_set 6 sc__law_entry.nd (e_op o_sub (e_op o_add (e_call c__law_power (hr.mono (by decide)) (a_cons (ev 2) (a_cons (e_op o_mul (ev 3) (e_ix (ev 5) e_int)) a_nil))) (e_ix (ev 5) e_int)) e_int))) ss_nil)
    (ss_cons (s_if (t_cmp (o_eq hr) (e_ix (ev 5) e_int) e_int (nomark _)) (ss_one (s_set 6 sc__law_entry.nd (e_op o_sub (e_op o_add (e_call c__law_power (hr.mono (by decide)) (a_cons e_int (a_cons (e_op o_mul (e_op o_mul e_int (ev 3)) (e_ix (ev 5) e_int)) a_nil))) (e_ix (ev 5) e_int)) e_int))) ss_nil)
    (ss_cons (s_if (t_cmp (o_eq hr) (e_ix (ev 5) e_int) e_int (nomark _)) (ss_one (s_set 6 sc__law_entry.nd (e_ix (ev 5) e_int))) ss_nil)
    (ss_cons (s_if (t_cmp (o_eq hr) (e_ix (ev 5) e_int) e_int (nomark _)) (ss_one (s_set 6 sc__law_entry.nd (e_op o_mod (e_cty b_int T.m_int bb_int (a_cons (e_call c__law_number (hr.mono (by decide)) (a_cons (ev 1) (a_cons e_int (a_cons (e_op o_sub (ev 4) e_int) a_nil)))) a_nil)) (e_call c__law_power (hr.mono (by decide)) (a_cons e_int (a_cons (e_op o_add e_int (e_ix (ev 5) e_int)) a_nil)))))) ss_nil)
    (ss_cons (s_if (WOk.tst (w_or (t_cmp (o_eq hr) (e_ix (ev 5) e_int) e_int (nomark _)) (w_or1 (t_cmp (o_eq hr) (e_ix (ev 5) e_int) e_int (nomark _))))) (ss_cons (s_set 6 sc__law_entry.nd (e_call c__law_number (hr.mono (by decide)) (a_cons (ev 1) (a_cons e_int (a_cons (e_op o_sub (ev 4) e_int) a_nil)))))
    (ss_one (s_if (t_cmp o_gt (ev 3) e_int (nomark _)) (ss_one (s_set 6 sc__law_entry.nd (e_op o_mod (e_cty b_int T.m_int bb_int (a_cons (e_op o_add (ev 6) (e_call c__law_power (hr.mono (by decide)) (a_cons e_int (a_cons (e_op o_mul (ev 3) (e_ix (ev 5) e_int)) a_nil)))) a_nil)) (ev 4)))) ss_nil))) ss_nil)
    (ss_one (s_ret (e_op o_mul (ev 6) (e_op o_sub e_int (e_op o_mul e_int (e_ix (ev 5) e_int))))))))))))))⟩) (fun _ _ _ h => h)
abbrev s__law_rows : Stmt := topS 17
theorem sc__law_rows : FnScope ["cell", "width", "shape", "digits", "rows", "part", "count", "k", "j"] ["cell", "width", "shape"] (defScope s__law_rows) := ⟨rfl, rfl, rfl, by decide +kernel, rfl, by decide +kernel, by decide +kernel⟩
theorem ok__law_rows (T : Txt mg) (Fn : FunD K "_law_rows" "_law_rows" (defArgs s__law_rows) (defBody s__law_rows) (defScope s__law_rows) [] [] f fd) (c__law_digits : Cal1 P w K mg base CX0 1 "_law_digits" [] [] F__law_digits) : FnOk P w K mg base CX0 2 f fd ["cell", "width", "shape"] (spD K F__law_rows) :=
  def_ok Fn sc__law_rows g__law_rows does__law_rows (fun cdv A outer s H hr => ⟨_, (ss_cons (s_set 3 sc__law_rows.nd (e_call c__law_digits (hr.mono (by decide)) (a_cons (ev 0) (a_cons (e_op o_mul (e_lst (a_cons e_int a_nil)) (e_op o_mul (ev 1) e_int)) a_nil))))
    (ss_cons (s_lc 4 (own := [("k", 7)]) sc__law_rows.nd (i_rng1 T.m_range (a_cons (e_ix (ev 2) e_int) a_nil)) (blkOk_by (by kernel_rfl)) (fun _ _ _ _ _ => (g_name 7 sc__law_rows.nd)) (fun _ _ _ _ _ => ts_nil) (fun _ _ _ _ _ => (e_op o_mul (e_lst (a_cons e_int a_nil)) (ev 1))))
    (ss_cons (s_lc 5 (own := [("k", 7)]) sc__law_rows.nd (i_rng1 T.m_range (a_cons (e_ix (ev 2) e_int) a_nil)) (blkOk_by (by kernel_rfl)) (fun _ _ _ _ _ => (g_name 7 sc__law_rows.nd)) (fun _ _ _ _ _ => ts_nil) (fun _ _ _ _ _ => (FOk.e (f_lc (own := [("j", 8)]) sc__law_rows.nd (i_rng1 T.m_range (a_cons (ev 1) a_nil)) (blkOk_by (by kernel_rfl)) (fun _ _ _ _ _ => (g_name 8 sc__law_rows.nd)) (fun _ _ _ _ _ => ts_nil) (fun _ _ _ _ _ => (e_op o_sub (e_ix (ev 3) (e_op o_add (e_op o_mul (ev 7) (ev 1)) (ev 8))) e_int))))))
    (ss_cons (s_set 6 sc__law_rows.nd e_int)
    (ss_cons (s_if (t_cmp (o_eq hr) (e_ix (ev 2) e_int) e_int (nomark _)) (ss_one (s_set 6 sc__law_rows.nd (e_op o_fdiv (e_op o_sub e_int (e_cb b_len T.m_len bb_len (a_cons (ev 4) a_nil))) (e_cb (b_max rfl) T.m_max bb_max (a_cons e_int (a_cons (e_cb b_len T.m_len bb_len (a_cons (ev 5) a_nil)) a_nil)))))) ss_nil)
    (ss_cons (s_for PassesOwn.never (i_rng1 T.m_range (a_cons (e_cb (b_min rfl) T.m_min bb_min (a_cons (ev 6) (a_cons e_int a_nil))) a_nil)) (g_name (ws := [7]) 7 sc__law_rows.nd) (ss_one (s_set 4 sc__law_rows.nd (e_op o_add (ev 4) (ev 5)))))
    (ss_one (s_ret (ev 4)))))))))⟩) (fun _ _ _ h => h)
abbrev s__law_figures : Stmt := topS 18
theorem sc__law_figures : FnScope ["vector", "root", "signs", "left", "rows", "turn", "entry", "j"] ["vector", "root"] (defScope s__law_figures) := ⟨rfl, rfl, rfl, by decide +kernel, rfl, by decide +kernel, by decide +kernel⟩
theorem ok__law_figures (T : Txt mg) (Fn : FunD K "_law_figures" "_law_figures" (defArgs s__law_figures) (defBody s__law_figures) (defScope s__law_figures) [] [] f fd)  : FnOk P w K mg base CX0 1 f fd ["vector", "root"] (spD K F__law_figures) :=
  def_ok Fn sc__law_figures g__law_figures does__law_figures (fun cdv A outer s H hr => ⟨_, (ss_cons (s_set 2 sc__law_figures.nd (FOk.e (f_lc (own := [("entry", 6)]) sc__law_figures.nd (i_seq (ev 0)) (blkOk_by (by kernel_rfl)) (fun _ _ _ _ _ => (g_name 6 sc__law_figures.nd)) (fun _ _ _ _ _ => ts_nil) (fun _ _ _ _ _ => (e_op o_sub e_int (e_op o_mul e_int (e_cty b_int T.m_int bb_int (a_cons (e_cmp o_lt (ev 6) e_int (nomark _)) a_nil))))))))
    (ss_cons (s_set 3 sc__law_figures.nd (FOk.e (f_lc (own := [("entry", 6)]) sc__law_figures.nd (i_seq (ev 0)) (blkOk_by (by kernel_rfl)) (fun _ _ _ _ _ => (g_name 6 sc__law_figures.nd)) (fun _ _ _ _ _ => ts_nil) (fun _ _ _ _ _ => (e_cb b_abs T.m_abs bb_abs (a_cons (ev 6) a_nil))))))
    (ss_cons (s_setO 4 sc__law_figures.nd (f_lst a_nil))
    (ss_cons (s_for PassesOwn.never (i_rng1 T.m_range (a_cons e_int a_nil)) (g_name (ws := [5]) 5 sc__law_figures.nd) (ss_cons (s_if (t_cmp (o_eq hr) (e_cb (b_max rfl) T.m_max bb_max (a_cons (ev 3) a_nil)) e_int (nomark _)) (ss_one s_break) ss_nil)
    (ss_cons (s_app 4 (FOk.e (f_lc (own := [("j", 7)]) sc__law_figures.nd (i_rng1 T.m_range (a_cons (e_cb b_len T.m_len bb_len (a_cons (ev 0) a_nil)) a_nil)) (blkOk_by (by kernel_rfl)) (fun _ _ _ _ _ => (g_name 7 sc__law_figures.nd)) (fun _ _ _ _ _ => ts_nil) (fun _ _ _ _ _ => (e_op o_mul (e_ix (ev 2) (ev 7)) (e_op o_mod (e_cty b_int T.m_int bb_int (a_cons (e_ix (ev 3) (ev 7)) a_nil)) (ev 1)))))))
    (ss_one (s_set 3 sc__law_figures.nd (FOk.e (f_lc (own := [("j", 7)]) sc__law_figures.nd (i_rng1 T.m_range (a_cons (e_cb b_len T.m_len bb_len (a_cons (ev 0) a_nil)) a_nil)) (blkOk_by (by kernel_rfl)) (fun _ _ _ _ _ => (g_name 7 sc__law_figures.nd)) (fun _ _ _ _ _ => ts_nil) (fun _ _ _ _ _ => (e_op o_fdiv (e_ix (ev 3) (ev 7)) (ev 1))))))))))
    (ss_show 4 (ss_one (s_ret (e_rev (ev 4)))))))))⟩) (fun _ _ _ h => h)
abbrev s__law_total : Stmt := topS 19
theorem sc__law_total : FnScope ["rows", "width", "root", "total", "power", "row", "j"] ["rows", "width", "root"] (defScope s__law_total) := ⟨rfl, rfl, rfl, by decide +kernel, rfl, by decide +kernel, by decide +kernel⟩
theorem ok__law_total (T : Txt mg) (Fn : FunD K "_law_total" "_law_total" (defArgs s__law_total) (defBody s__law_total) (defScope s__law_total) [] [] f fd)  : FnOk P w K mg base CX0 1 f fd ["rows", "width", "root"] (spD K F__law_total) :=
  def_ok Fn sc__law_total g__law_total does__law_total (fun cdv A outer s H hr => ⟨_, (ss_cons (s_set 3 sc__law_total.nd (e_op o_mul (e_lst (a_cons e_int a_nil)) (ev 1)))
    (ss_cons (s_set 4 sc__law_total.nd e_int)
    (ss_cons (s_for PassesOwn.never (i_seq (e_rev (ev 0))) (g_name (ws := [5]) 5 sc__law_total.nd) (ss_cons (s_set 3 sc__law_total.nd (FOk.e (f_lc (own := [("j", 6)]) sc__law_total.nd (i_rng1 T.m_range (a_cons (ev 1) a_nil)) (blkOk_by (by kernel_rfl)) (fun _ _ _ _ _ => (g_name 6 sc__law_total.nd)) (fun _ _ _ _ _ => ts_nil) (fun _ _ _ _ _ => (e_op o_add (e_ix (ev 3) (ev 6)) (e_op o_mul (ev 4) (e_ix (ev 5) (ev 6))))))))
    (ss_one (s_set 4 sc__law_total.nd (e_op o_mul (ev 4) (ev 2))))))
    (ss_one (s_ret (ev 3))))))⟩) (fun _ _ _ h => h)
abbrev s__law_same : Stmt := topS 20
theorem sc__law_same : FnScope ["told", "due", "j"] ["told", "due"] (defScope s__law_same) := ⟨rfl, rfl, rfl, by decide +kernel, rfl, by decide +kernel, by decide +kernel⟩
theorem ok__law_same (T : Txt mg) (Fn : FunD K "_law_same" "_law_same" (defArgs s__law_same) (defBody s__law_same) (defScope s__law_same) [] [] f fd) (c__law_whole : Cal1 P w K mg base CX0 1 "_law_whole" [] [] F__law_whole) : FnOk P w K mg base CX0 2 f fd ["told", "due"] (spD K F__law_same) :=
  def_ok Fn sc__law_same g__law_same does__law_same (fun cdv A outer s H hr => ⟨_, (ss_cons (s_if (WOk.tst (w_or (t_not (t_tru (e_cb b_isi T.m_isinstance bb_isinstance (a_cons (ev 0) (a_cons (e_ty T.m_tuple bb_tuple) a_nil))))) (w_or1 (t_cmp (o_ne hr) (e_cb b_len T.m_len bb_len (a_cons (ev 0) a_nil)) (e_cb b_len T.m_len bb_len (a_cons (ev 1) a_nil)) (nomark _))))) (ss_one (s_ret e_bl)) ss_nil)
    (ss_cons (s_for PassesOwn.never (i_rng1 T.m_range (a_cons (e_cb b_len T.m_len bb_len (a_cons (ev 1) a_nil)) a_nil)) (g_name (ws := [2]) 2 sc__law_same.nd) (ss_one (s_if (WOk.tst (w_or (t_not (t_tru (e_call c__law_whole (hr.mono (by decide)) (a_cons (e_ix (ev 0) (ev 2)) a_nil)))) (w_or1 (t_cmp (o_ne hr) (e_ix (ev 0) (ev 2)) (e_ix (ev 1) (ev 2)) (nomark _))))) (ss_one (s_ret e_bl)) ss_nil)))
    (ss_one (s_ret e_bl))))⟩) (fun _ _ _ h => h)
abbrev s__law_same_rows : Stmt := topS 21
theorem sc__law_same_rows : FnScope ["told", "due", "k"] ["told", "due"] (defScope s__law_same_rows) := ⟨rfl, rfl, rfl, by decide +kernel, rfl, by decide +kernel, by decide +kernel⟩
theorem ok__law_same_rows (T : Txt mg) (Fn : FunD K "_law_same_rows" "_law_same_rows" (defArgs s__law_same_rows) (defBody s__law_same_rows) (defScope s__law_same_rows) [] [] f fd) (c__law_same : Cal1 P w K mg base CX0 2 "_law_same" [] [] F__law_same) : FnOk P w K mg base CX0 3 f fd ["told", "due"] (spD K F__law_same_rows) :=
  def_ok Fn sc__law_same_rows g__law_same_rows does__law_same_rows (fun cdv A outer s H hr => ⟨_, (ss_cons (s_if (WOk.tst (w_or (t_not (t_tru (e_cb b_isi T.m_isinstance bb_isinstance (a_cons (ev 0) (a_cons (e_ty T.m_tuple bb_tuple) a_nil))))) (w_or1 (t_cmp (o_ne hr) (e_cb b_len T.m_len bb_len (a_cons (ev 0) a_nil)) (e_cb b_len T.m_len bb_len (a_cons (ev 1) a_nil)) (nomark _))))) (ss_one (s_ret e_bl)) ss_nil)
    (ss_cons (s_for PassesOwn.never (i_rng1 T.m_range (a_cons (e_cb b_len T.m_len bb_len (a_cons (ev 1) a_nil)) a_nil)) (g_name (ws := [2]) 2 sc__law_same_rows.nd) (ss_one (s_if (t_not (t_tru (e_call c__law_same (hr.mono (by decide)) (a_cons (e_ix (ev 0) (ev 2)) (a_cons (e_ix (ev 1) (ev 2)) a_nil))))) (ss_one (s_ret e_bl)) ss_nil)))
    (ss_one (s_ret e_bl))))⟩) (fun _ _ _ h => h)
abbrev s__law_signs_right : Stmt := topS 22
theorem sc__law_signs_right : FnScope ["vector", "drawn", "signs", "handed", "asked", "j", "row", "entry", "due", "told"] ["vector", "drawn"] (defScope s__law_signs_right) := ⟨rfl, rfl, rfl, by decide +kernel, rfl, by decide +kernel, by decide +kernel⟩
theorem ok__law_signs_right (T : Txt mg) (Fn : FunD K "_law_signs_right" "_law_signs_right" (defArgs s__law_signs_right) (defBody s__law_signs_right) (defScope s__law_signs_right) [] [] f fd) (c_signs_of : Cal1 P w K mg base CX0 1 "signs_of" [] [] F_signs_of) (c__law_same : Cal1 P w K mg base CX0 2 "_law_same" [] [] F__law_same) (c_has_signs : Cal1 P w K mg base CX0 1 "has_signs" [] [] F_has_signs) : FnOk P w K mg base CX0 3 f fd ["vector", "drawn"] (spD K F__law_signs_right) :=
  def_ok Fn sc__law_signs_right g__law_signs_right does__law_signs_right (fun cdv A outer s H hr => ⟨_, (ss_cons (s_lc 2 (own := [("entry", 7)]) sc__law_signs_right.nd (i_seq (ev 0)) (blkOk_by (by kernel_rfl)) (fun _ _ _ _ _ => (g_name 7 sc__law_signs_right.nd)) (fun _ _ _ _ _ => ts_nil) (fun _ _ _ _ _ => (e_op o_sub e_int (e_op o_mul e_int (e_cty b_int T.m_int bb_int (a_cons (e_cmp o_lt (ev 7) e_int (nomark _)) a_nil))))))
    (ss_cons (s_set 3 sc__law_signs_right.nd (e_cty b_list T.m_list bb_list (a_cons (ev 0) a_nil)))
    (ss_cons (s_if (WOk.tst (w_or (t_not (t_tru (e_call c__law_same (hr.mono (by decide)) (a_cons (e_call c_signs_of (hr.mono (by decide)) (a_cons (ev 3) a_nil)) (a_cons (ev 2) a_nil))))) (w_or (t_not (t_tru (e_call c__law_same (hr.mono (by decide)) (a_cons (e_call c_signs_of (hr.mono (by decide)) (a_cons (e_cty b_tuple T.m_tuple bb_tuple (a_cons (ev 0) a_nil)) a_nil)) (a_cons (ev 2) a_nil))))) (w_or1 (t_cmp (o_ne hr) (ev 3) (ev 0) (nomark _)))))) (ss_one (s_ret e_bl)) ss_nil)
    (ss_cons (s_setO 4 sc__law_signs_right.nd (f_lst (a_cons (ev 2) (a_cons (ev 1) (a_cons (e_op o_add (ev 2) (e_lst (a_cons e_int a_nil))) (a_cons (e_op o_add (e_lst (a_cons (e_un o_neg e_int) a_nil)) (ev 2)) (a_cons (e_sl (ev 2) (oo_some e_int) oo_none) (a_cons (e_sl (ev 2) oo_none (oo_some (e_op o_sub (e_cb b_len T.m_len bb_len (a_cons (ev 2) a_nil)) e_int))) a_nil))))))))
    (ss_cons (s_for PassesOwn.never (i_rng1 T.m_range (a_cons (e_cb b_len T.m_len bb_len (a_cons (ev 2) a_nil)) a_nil)) (g_name (ws := [5]) 5 sc__law_signs_right.nd) (ss_one (s_app 4 (e_op o_add (e_op o_add (e_sl (ev 2) oo_none (oo_some (ev 5))) (e_lst (a_cons (e_un o_neg (e_ix (ev 2) (ev 5))) a_nil))) (e_sl (ev 2) (oo_some (e_op o_add (ev 5) e_int)) oo_none)))))
    (ss_show 4 (ss_cons (s_for PassesOwn.never (i_seq (ev 4)) (g_name (ws := [6]) 6 sc__law_signs_right.nd) (ss_one (s_if (t_chain o_le o_le e_int (e_cb b_len T.m_len bb_len (a_cons (ev 6) a_nil)) e_int) (ss_cons (s_set 8 sc__law_signs_right.nd (e_cmp (o_eq hr) (e_cb b_len T.m_len bb_len (a_cons (ev 6) a_nil)) (e_cb b_len T.m_len bb_len (a_cons (ev 0) a_nil)) (nomark _)))
    (ss_cons (s_for PassesOwn.never (i_rng1 T.m_range (a_cons (e_cb (b_min rfl) T.m_min bb_min (a_cons (e_cb b_len T.m_len bb_len (a_cons (ev 6) a_nil)) (a_cons (e_cb b_len T.m_len bb_len (a_cons (ev 0) a_nil)) a_nil))) a_nil)) (g_name (ws := [5]) 5 sc__law_signs_right.nd) (ss_one (s_set 8 sc__law_signs_right.nd (e_and (ev 8) (e_one (e_cmp o_ge (e_op o_mul (e_ix (ev 0) (ev 5)) (e_ix (ev 6) (ev 5))) e_int (nomark _)))))))
    (ss_cons (s_set 3 sc__law_signs_right.nd (e_cty b_list T.m_list bb_list (a_cons (ev 6) a_nil)))
    (ss_cons (s_set 9 sc__law_signs_right.nd (e_call c_has_signs (hr.mono (by decide)) (a_cons (e_cty b_tuple T.m_tuple bb_tuple (a_cons (ev 0) a_nil)) (a_cons (ev 3) a_nil))))
    (ss_cons (s_if (WOk.tst (w_or (t_not (t_tru (e_cb b_isi T.m_isinstance bb_isinstance (a_cons (ev 9) (a_cons (e_ty T.m_bool bb_bool) a_nil))))) (w_or (t_cmp (o_ne hr) (ev 9) (ev 8) (nomark _)) (w_or1 (t_cmp (o_ne hr) (ev 3) (ev 6) (nomark _)))))) (ss_one (s_ret e_bl)) ss_nil)
    (ss_cons (s_set 9 sc__law_signs_right.nd (e_call c_has_signs (hr.mono (by decide)) (a_cons (e_cty b_list T.m_list bb_list (a_cons (ev 0) a_nil)) (a_cons (e_cty b_tuple T.m_tuple bb_tuple (a_cons (ev 6) a_nil)) a_nil))))
    (ss_one (s_if (WOk.tst (w_or (t_not (t_tru (e_cb b_isi T.m_isinstance bb_isinstance (a_cons (ev 9) (a_cons (e_ty T.m_bool bb_bool) a_nil))))) (w_or1 (t_cmp (o_ne hr) (ev 9) (ev 8) (nomark _))))) (ss_one (s_ret e_bl)) ss_nil)))))))) ss_nil)))
    (ss_one (s_ret e_bl)))))))))⟩) (fun _ _ _ h => h)
abbrev s__law_back : Stmt := topS 23
theorem sc__law_back : FnScope ["vector", "rows", "root", "zeros", "upto", "width", "rest", "power", "due", "handed", "longer", "entry", "row", "k"] ["vector", "rows", "root", "zeros", "upto"] (defScope s__law_back) := ⟨rfl, rfl, rfl, by decide +kernel, rfl, by decide +kernel, by decide +kernel⟩
theorem ok__law_back (T : Txt mg) (Fn : FunD K "_law_back" "_law_back" (defArgs s__law_back) (defBody s__law_back) (defScope s__law_back) [] [] f fd) (k_order_of : CalN P w K mg base CX0 4 "order_of" 2 ["base"] F_order_of) (c__law_same : Cal1 P w K mg base CX0 2 "_law_same" [] [] F__law_same) (c__law_power : Cal1 P w K mg base CX0 1 "_law_power" [] [] F__law_power) : FnOk P w K mg base CX0 5 f fd ["vector", "rows", "root", "zeros", "upto"] (spD K F__law_back) :=
  def_ok Fn sc__law_back g__law_back does__law_back (fun cdv A outer s H hr => ⟨_, (ss_cons (s_set 5 sc__law_back.nd (e_cb b_len T.m_len bb_len (a_cons (ev 0) a_nil)))
    (ss_cons (s_if (t_cmp o_le (e_op o_add (e_cb b_len T.m_len bb_len (a_cons (ev 1) a_nil)) (ev 3)) e_int (nomark _)) (ss_cons (s_lc 9 (own := [("row", 12)]) sc__law_back.nd (i_seq (ev 1)) (blkOk_by (by kernel_rfl)) (fun _ _ _ _ _ => (g_name 12 sc__law_back.nd)) (fun _ _ _ _ _ => ts_nil) (fun _ _ _ _ _ => (e_cty b_list T.m_list bb_list (a_cons (ev 12) a_nil))))
    (ss_cons (s_if (WOk.tst (w_or (t_not (t_tru (e_call c__law_same (hr.mono (by decide)) (a_cons (e_callN (n := 2) (ks := ["base"]) k_order_of (hr.mono (by decide)) (a_cons (ev 9) (a_cons (ev 5) a_nil)) (k_cons (ev 2) k_nil)) (a_cons (ev 0) a_nil))))) (w_or1 (t_cmp (o_ne hr) (ev 9) (ev 1) (nomark _))))) (ss_one (s_ret e_bl)) ss_nil)
    (ss_cons (s_set 10 sc__law_back.nd (e_cty b_tuple T.m_tuple bb_tuple (a_cons (e_op o_add (FOk.e (f_lc (own := [("k", 13)]) sc__law_back.nd (i_rng1 T.m_range (a_cons (ev 3) a_nil)) (blkOk_by (by kernel_rfl)) (fun _ _ _ _ _ => (g_name 13 sc__law_back.nd)) (fun _ _ _ _ _ => ts_nil) (fun _ _ _ _ _ => (e_cty b_tuple T.m_tuple bb_tuple (a_cons (e_op o_mul (e_lst (a_cons e_int a_nil)) (ev 5)) a_nil))))) (FOk.e (f_lc (own := [("row", 12)]) sc__law_back.nd (i_seq (ev 1)) (blkOk_by (by kernel_rfl)) (fun _ _ _ _ _ => (g_name 12 sc__law_back.nd)) (fun _ _ _ _ _ => ts_nil) (fun _ _ _ _ _ => (e_cty b_list T.m_list bb_list (a_cons (ev 12) a_nil)))))) a_nil)))
    (ss_one (s_if (t_not (t_tru (e_call c__law_same (hr.mono (by decide)) (a_cons (e_callN (n := 2) (ks := ["base"]) k_order_of (hr.mono (by decide)) (a_cons (ev 10) (a_cons (ev 5) a_nil)) (k_cons (ev 2) k_nil)) (a_cons (ev 0) a_nil))))) (ss_one (s_ret e_bl)) ss_nil))))) ss_nil)
    (ss_cons (s_set 6 sc__law_back.nd (e_op o_mod (e_cty b_int T.m_int bb_int (a_cons (ev 4) a_nil)) (e_op o_add (e_cb (b_min rfl) T.m_min bb_min (a_cons (e_cb b_len T.m_len bb_len (a_cons (ev 1) a_nil)) (a_cons e_int a_nil))) e_int)))
    (ss_cons (s_set 7 sc__law_back.nd (e_call c__law_power (hr.mono (by decide)) (a_cons (ev 2) (a_cons (e_op o_sub (e_cb b_len T.m_len bb_len (a_cons (ev 1) a_nil)) (ev 6)) a_nil))))
    (ss_cons (s_lc 8 (own := [("entry", 11)]) sc__law_back.nd (i_seq (ev 0)) (blkOk_by (by kernel_rfl)) (fun _ _ _ _ _ => (g_name 11 sc__law_back.nd)) (fun _ _ _ _ _ => ts_nil) (fun _ _ _ _ _ => (e_op o_mul (e_op o_sub e_int (e_op o_mul e_int (e_cty b_int T.m_int bb_int (a_cons (e_cmp o_lt (ev 11) e_int (nomark _)) a_nil)))) (e_op o_fdiv (e_cb b_abs T.m_abs bb_abs (a_cons (ev 11) a_nil)) (ev 7)))))
    (ss_one (s_ret (e_call c__law_same (hr.mono (by decide)) (a_cons (e_callN (n := 2) (ks := ["base"]) k_order_of (hr.mono (by decide)) (a_cons (e_sl (ev 1) oo_none (oo_some (ev 6))) (a_cons (ev 5) a_nil)) (k_cons (ev 2) k_nil)) (a_cons (ev 8) a_nil))))))))))⟩) (fun _ _ _ h => h)
abbrev s_law : Stmt := topS 24
theorem sc_law : FnScope ["script", "shape", "width", "root", "far", "vector", "drawn", "rows", "plain", "handed", "free", "k", "zero", "j", "row"] ["script"] (defScope s_law) := ⟨rfl, rfl, rfl, by decide +kernel, rfl, by decide +kernel, by decide +kernel⟩
theorem ok_law (T : Txt mg) (Fn : FunD K "law" "law" (defArgs s_law) (defBody s_law) (defScope s_law) [] [] f fd) (c__law_cell : Cal1 P w K mg base CX0 1 "_law_cell" [] [] F__law_cell) (c__law_digits : Cal1 P w K mg base CX0 1 "_law_digits" [] [] F__law_digits) (c__law_entry : Cal1 P w K mg base CX0 2 "_law_entry" [] [] F__law_entry) (c__law_signs_right : Cal1 P w K mg base CX0 3 "_law_signs_right" [] [] F__law_signs_right) (c__law_figures : Cal1 P w K mg base CX0 1 "_law_figures" [] [] F__law_figures) (c_figures_of : Cal1 P w K mg base CX0 2 "figures_of" [V.int 2] [D.int 2] F_figures_of) (k_figures_of : CalN P w K mg base CX0 2 "figures_of" 1 ["base"] F_figures_of) (c__law_same_rows : Cal1 P w K mg base CX0 3 "_law_same_rows" [] [] F__law_same_rows) (c__law_back : Cal1 P w K mg base CX0 5 "_law_back" [] [] F__law_back) (c_order_of : Cal1 P w K mg base CX0 4 "order_of" [V.int 2] [D.int 2] F_order_of) (k_order_of : CalN P w K mg base CX0 4 "order_of" 2 ["base"] F_order_of) (c__law_same : Cal1 P w K mg base CX0 2 "_law_same" [] [] F__law_same) (c__law_rows : Cal1 P w K mg base CX0 2 "_law_rows" [] [] F__law_rows) (c__law_total : Cal1 P w K mg base CX0 1 "_law_total" [] [] F__law_total) : FnOk P w K mg base CX0 6 f fd ["script"] (spD K F_law) :=
  def_ok Fn sc_law g_law does_law (fun cdv A outer s H hr => ⟨_, (ss_cons (s_set 1 sc_law.nd (e_call c__law_digits (hr.mono (by decide)) (a_cons (e_call c__law_cell (hr.mono (by decide)) (a_cons (ev 0) (a_cons e_int a_nil))) (a_cons (e_lst (a_cons e_int (a_cons e_int (a_cons e_int (a_cons e_int (a_cons e_int (a_cons e_int (a_cons e_int (a_cons e_int (a_cons e_int (a_cons e_int (a_cons e_int a_nil)))))))))))) a_nil))))
    (ss_cons (s_set 2 sc_law.nd (e_op o_add e_int (e_ix (ev 1) e_int)))
    (ss_cons (s_set 3 sc_law.nd (e_op o_add e_int (e_ix (ev 1) e_int)))
    (ss_cons (s_set 4 sc_law.nd (e_op o_add e_int (e_op o_mul e_int (e_cty b_int T.m_int bb_int (a_cons (e_cmp (o_eq hr) (e_ix (ev 1) e_int) e_int (nomark _)) a_nil)))))
    (ss_cons (s_lc 5 (own := [("j", 13)]) sc_law.nd (i_rng1 T.m_range (a_cons (ev 2) a_nil)) (blkOk_by (by kernel_rfl)) (fun _ _ _ _ _ => (g_name 13 sc_law.nd)) (fun _ _ _ _ _ => ts_nil) (fun _ _ _ _ _ => (e_call c__law_entry (hr.mono (by decide)) (a_cons (e_call c__law_cell (hr.mono (by decide)) (a_cons (ev 0) (a_cons (e_op o_add e_int (e_op o_mul e_int (ev 13))) a_nil))) (a_cons (e_call c__law_cell (hr.mono (by decide)) (a_cons (ev 0) (a_cons (e_op o_add e_int (e_op o_mul e_int (ev 13))) a_nil))) (a_cons (ev 3) (a_cons (ev 4) a_nil)))))))
    (ss_cons (s_lc 6 (own := [("k", 11)]) sc_law.nd (i_rng1 T.m_range (a_cons (e_op o_add e_int (e_ix (ev 1) e_int)) a_nil)) (blkOk_by (by kernel_rfl)) (fun _ _ _ _ _ => (g_name 11 sc_law.nd)) (fun _ _ _ _ _ => ts_nil) (fun _ _ _ _ _ => (e_op o_sub e_int (e_op o_mul e_int (e_ix (ev 1) (e_op o_add e_int (ev 11)))))))
    (ss_cons (s_if (t_not (t_tru (e_call c__law_signs_right (hr.mono (by decide)) (a_cons (ev 5) (a_cons (ev 6) a_nil))))) (ss_one (s_ret e_bl)) ss_nil)
    (ss_cons (s_set 7 sc_law.nd (e_call c__law_figures (hr.mono (by decide)) (a_cons (ev 5) (a_cons (ev 3) a_nil))))
    (ss_cons (s_set 8 sc_law.nd (e_call c__law_figures (hr.mono (by decide)) (a_cons (ev 5) (a_cons e_int a_nil))))
    (ss_cons (s_set 9 sc_law.nd (e_cty b_list T.m_list bb_list (a_cons (ev 5) a_nil)))
    (ss_cons (s_if (WOk.tst (w_or (t_not (t_tru (e_call c__law_same_rows (hr.mono (by decide)) (a_cons (e_callN (n := 1) (ks := ["base"]) k_figures_of (hr.mono (by decide)) (a_cons (ev 9) a_nil) (k_cons (ev 3) k_nil)) (a_cons (ev 7) a_nil))))) (w_or1 (t_cmp (o_ne hr) (ev 9) (ev 5) (nomark _))))) (ss_one (s_ret e_bl)) ss_nil)
    (ss_cons (s_if (t_not (t_tru (e_call c__law_same_rows (hr.mono (by decide)) (a_cons (e_call c_figures_of (hr.mono (by decide)) (a_cons (e_cty b_tuple T.m_tuple bb_tuple (a_cons (ev 5) a_nil)) a_nil)) (a_cons (ev 8) a_nil))))) (ss_one (s_ret e_bl)) ss_nil)
    (ss_cons (s_if (t_not (t_tru (e_call c__law_back (hr.mono (by decide)) (a_cons (ev 5) (a_cons (ev 7) (a_cons (ev 3) (a_cons (e_ix (ev 1) e_int) (a_cons (e_ix (ev 1) e_int) a_nil)))))))) (ss_one (s_ret e_bl)) ss_nil)
    (ss_cons (s_if (WOk.tst (w_and (t_cmp o_le (e_cb b_len T.m_len bb_len (a_cons (ev 8) a_nil)) e_int (nomark _)) (w_and1 (t_not (t_tru (e_call c__law_same (hr.mono (by decide)) (a_cons (e_call c_order_of (hr.mono (by decide)) (a_cons (FOk.e (f_lc (own := [("row", 14)]) sc_law.nd (i_seq (ev 8)) (blkOk_by (by kernel_rfl)) (fun _ _ _ _ _ => (g_name 14 sc_law.nd)) (fun _ _ _ _ _ => ts_nil) (fun _ _ _ _ _ => (e_cty b_tuple T.m_tuple bb_tuple (a_cons (ev 14) a_nil))))) (a_cons (ev 2) a_nil))) (a_cons (ev 5) a_nil)))))))) (ss_one (s_ret e_bl)) ss_nil)
    (ss_cons (s_set 10 sc_law.nd (e_call c__law_rows (hr.mono (by decide)) (a_cons (e_call c__law_cell (hr.mono (by decide)) (a_cons (ev 0) (a_cons e_int a_nil))) (a_cons (ev 2) (a_cons (ev 1) a_nil)))))
    (ss_cons (s_lc 9 (own := [("row", 14)]) sc_law.nd (i_seq (ev 10)) (blkOk_by (by kernel_rfl)) (fun _ _ _ _ _ => (g_name 14 sc_law.nd)) (fun _ _ _ _ _ => ts_nil) (fun _ _ _ _ _ => (e_cty b_list T.m_list bb_list (a_cons (ev 14) a_nil))))
    (ss_cons (s_if (WOk.tst (w_or (t_not (t_tru (e_call c__law_same (hr.mono (by decide)) (a_cons (e_callN (n := 2) (ks := ["base"]) k_order_of (hr.mono (by decide)) (a_cons (ev 9) (a_cons (ev 2) a_nil)) (k_cons (ev 3) k_nil)) (a_cons (e_call c__law_total (hr.mono (by decide)) (a_cons (ev 10) (a_cons (ev 2) (a_cons (ev 3) a_nil)))) a_nil))))) (w_or1 (t_cmp (o_ne hr) (ev 9) (ev 10) (nomark _))))) (ss_one (s_ret e_bl)) ss_nil)
    (ss_cons (s_if (t_not (t_tru (e_call c__law_same (hr.mono (by decide)) (a_cons (e_call c_order_of (hr.mono (by decide)) (a_cons (e_cty b_tuple T.m_tuple bb_tuple (a_cons (FOk.e (f_lc (own := [("row", 14)]) sc_law.nd (i_seq (ev 10)) (blkOk_by (by kernel_rfl)) (fun _ _ _ _ _ => (g_name 14 sc_law.nd)) (fun _ _ _ _ _ => ts_nil) (fun _ _ _ _ _ => (e_cty b_tuple T.m_tuple bb_tuple (a_cons (ev 14) a_nil))))) a_nil)) (a_cons (ev 2) a_nil))) (a_cons (e_call c__law_total (hr.mono (by decide)) (a_cons (ev 10) (a_cons (ev 2) (a_cons e_int a_nil)))) a_nil))))) (ss_one (s_ret e_bl)) ss_nil)
    (ss_cons (s_for PassesOwn.never (i_rng1 T.m_range (a_cons e_int a_nil)) (g_name (ws := [11]) 11 sc_law.nd) (ss_cons (s_set 12 sc_law.nd (e_op o_mul (e_lst (a_cons e_int a_nil)) (e_op o_add (ev 11) e_int)))
    (ss_one (s_if (WOk.tst (w_or (t_not (t_tru (e_call c__law_same_rows (hr.mono (by decide)) (a_cons (e_callN (n := 1) (ks := ["base"]) k_figures_of (hr.mono (by decide)) (a_cons (ev 12) a_nil) (k_cons (ev 3) k_nil)) (a_cons (e_lst a_nil) a_nil))))) (w_or1 (t_not (t_tru (e_call c__law_same (hr.mono (by decide)) (a_cons (e_callN (n := 2) (ks := ["base"]) k_order_of (hr.mono (by decide)) (a_cons (e_lst a_nil) (a_cons (e_op o_add (ev 11) e_int) a_nil)) (k_cons (ev 3) k_nil)) (a_cons (ev 12) a_nil)))))))) (ss_one (s_ret e_bl)) ss_nil))))
    (ss_cons (s_if (WOk.tst (w_or (t_not (t_tru (e_call c__law_same_rows (hr.mono (by decide)) (a_cons (e_call c_figures_of (hr.mono (by decide)) (a_cons (ev 5) a_nil)) (a_cons (ev 8) a_nil))))) (w_or1 (t_not (t_tru (e_call c__law_signs_right (hr.mono (by decide)) (a_cons (ev 5) (a_cons (ev 6) a_nil)))))))) (ss_one (s_ret e_bl)) ss_nil)
    (ss_one (s_ret (e_call c__law_same_rows (hr.mono (by decide)) (a_cons (e_callN (n := 1) (ks := ["base"]) k_figures_of (hr.mono (by decide)) (a_cons (e_cty b_list T.m_list bb_list (a_cons (ev 5) a_nil)) a_nil) (k_cons (ev 3) k_nil)) (a_cons (ev 7) a_nil)))))))))))))))))))))))))⟩) (fun _ _ _ h => h)
end
/-! ### the end -/
theorem all_mk {l : PySem.W.OpenLaw} {w : World} {K : PySem.W.Frag} {h : Heap} {mg : Str → Option Value} {fa : Addr} (X : K.In h) (G : h.Ns mainGlobals mg) (hfa : mg "law" = some (.ref fa))
    {od0 an0 : Option Addr} {sl0 : Array (Option Value)} {oc0 dc0 pm0 cd0 ct0 : Value} {f0 : Addr}
    {kV0 : Value}
    (a0 : PySem.W.nsIn K mainGlobals "frozen" = some (some (.ref f0)))
    (l0 : K.lookup f0 = some ⟨oc0, od0, .func (PySem.W.fnOf "frozen" "frozen" (defArgs s_frozen) (defBody s_frozen) (defScope s_frozen) .none kV0 dc0 pm0 an0 cd0 ct0), sl0⟩)
    (c0 : PySem.W.codeIn K cd0 "frozen" = true) (k0 : PySem.W.keepIn K (.ref f0) = true)
    {od1 an1 : Option Addr} {sl1 : Array (Option Value)} {oc1 dc1 pm1 cd1 ct1 : Value} {f1 : Addr}
    {kV1 : Value}
    (a1 : PySem.W.nsIn K mainGlobals "zero_vector" = some (some (.ref f1)))
    (l1 : K.lookup f1 = some ⟨oc1, od1, .func (PySem.W.fnOf "zero_vector" "zero_vector" (defArgs s_zero_vector) (defBody s_zero_vector) (defScope s_zero_vector) .none kV1 dc1 pm1 an1 cd1 ct1), sl1⟩)
    (c1 : PySem.W.codeIn K cd1 "zero_vector" = true) (k1 : PySem.W.keepIn K (.ref f1) = true)
    {od2 an2 : Option Addr} {sl2 : Array (Option Value)} {oc2 dc2 pm2 cd2 ct2 : Value} {f2 : Addr}
    {kV2 : Value}
    (a2 : PySem.W.nsIn K mainGlobals "added" = some (some (.ref f2)))
    (l2 : K.lookup f2 = some ⟨oc2, od2, .func (PySem.W.fnOf "added" "added" (defArgs s_added) (defBody s_added) (defScope s_added) .none kV2 dc2 pm2 an2 cd2 ct2), sl2⟩)
    (c2 : PySem.W.codeIn K cd2 "added" = true) (k2 : PySem.W.keepIn K (.ref f2) = true)
    {od3 an3 : Option Addr} {sl3 : Array (Option Value)} {oc3 dc3 pm3 cd3 ct3 : Value} {f3 : Addr}
    {kV3 : Value}
    (a3 : PySem.W.nsIn K mainGlobals "times" = some (some (.ref f3)))
    (l3 : K.lookup f3 = some ⟨oc3, od3, .func (PySem.W.fnOf "times" "times" (defArgs s_times) (defBody s_times) (defScope s_times) .none kV3 dc3 pm3 an3 cd3 ct3), sl3⟩)
    (c3 : PySem.W.codeIn K cd3 "times" = true) (k3 : PySem.W.keepIn K (.ref f3) = true)
    {od4 an4 : Option Addr} {sl4 : Array (Option Value)} {oc4 dc4 pm4 cd4 ct4 : Value} {f4 : Addr}
    {kV4 : Value}
    (a4 : PySem.W.nsIn K mainGlobals "signs_of" = some (some (.ref f4)))
    (l4 : K.lookup f4 = some ⟨oc4, od4, .func (PySem.W.fnOf "signs_of" "signs_of" (defArgs s_signs_of) (defBody s_signs_of) (defScope s_signs_of) .none kV4 dc4 pm4 an4 cd4 ct4), sl4⟩)
    (c4 : PySem.W.codeIn K cd4 "signs_of" = true) (k4 : PySem.W.keepIn K (.ref f4) = true)
    {od5 an5 : Option Addr} {sl5 : Array (Option Value)} {oc5 dc5 pm5 cd5 ct5 : Value} {f5 : Addr}
    {kV5 : Value}
    (a5 : PySem.W.nsIn K mainGlobals "has_signs" = some (some (.ref f5)))
    (l5 : K.lookup f5 = some ⟨oc5, od5, .func (PySem.W.fnOf "has_signs" "has_signs" (defArgs s_has_signs) (defBody s_has_signs) (defScope s_has_signs) .none kV5 dc5 pm5 an5 cd5 ct5), sl5⟩)
    (c5 : PySem.W.codeIn K cd5 "has_signs" = true) (k5 : PySem.W.keepIn K (.ref f5) = true)
    {od6 an6 : Option Addr} {sl6 : Array (Option Value)} {oc6 dc6 pm6 cd6 ct6 : Value} {f6 : Addr}
    {D6 : Addr} {t6 : Tok}
    (a6 : PySem.W.nsIn K mainGlobals "figures_of" = some (some (.ref f6)))
    (l6 : K.lookup f6 = some ⟨oc6, od6, .func (PySem.W.fnOf "figures_of" "figures_of" (defArgs s_figures_of) (defBody s_figures_of) (defScope s_figures_of) .none (.ref D6) dc6 pm6 an6 cd6 ct6), sl6⟩)
    (c6 : PySem.W.codeIn K cd6 "figures_of" = true) (k6 : PySem.W.keepIn K (.ref f6) = true)
    (d6 : PySem.W.nsIn K D6 "base" = some (some (.int 2 t6)))
    {od7 an7 : Option Addr} {sl7 : Array (Option Value)} {oc7 dc7 pm7 cd7 ct7 : Value} {f7 : Addr}
    {D7 : Addr} {t7 : Tok}
    (a7 : PySem.W.nsIn K mainGlobals "order_of" = some (some (.ref f7)))
    (l7 : K.lookup f7 = some ⟨oc7, od7, .func (PySem.W.fnOf "order_of" "order_of" (defArgs s_order_of) (defBody s_order_of) (defScope s_order_of) .none (.ref D7) dc7 pm7 an7 cd7 ct7), sl7⟩)
    (c7 : PySem.W.codeIn K cd7 "order_of" = true) (k7 : PySem.W.keepIn K (.ref f7) = true)
    (d7 : PySem.W.nsIn K D7 "base" = some (some (.int 2 t7)))
    {od8 an8 : Option Addr} {sl8 : Array (Option Value)} {oc8 dc8 pm8 cd8 ct8 : Value} {f8 : Addr}
    {kV8 : Value}
    (a8 : PySem.W.nsIn K mainGlobals "_law_whole" = some (some (.ref f8)))
    (l8 : K.lookup f8 = some ⟨oc8, od8, .func (PySem.W.fnOf "_law_whole" "_law_whole" (defArgs s__law_whole) (defBody s__law_whole) (defScope s__law_whole) .none kV8 dc8 pm8 an8 cd8 ct8), sl8⟩)
    (c8 : PySem.W.codeIn K cd8 "_law_whole" = true) (k8 : PySem.W.keepIn K (.ref f8) = true)
    {od9 an9 : Option Addr} {sl9 : Array (Option Value)} {oc9 dc9 pm9 cd9 ct9 : Value} {f9 : Addr}
    {kV9 : Value}
    (a9 : PySem.W.nsIn K mainGlobals "_law_cell" = some (some (.ref f9)))
    (l9 : K.lookup f9 = some ⟨oc9, od9, .func (PySem.W.fnOf "_law_cell" "_law_cell" (defArgs s__law_cell) (defBody s__law_cell) (defScope s__law_cell) .none kV9 dc9 pm9 an9 cd9 ct9), sl9⟩)
    (c9 : PySem.W.codeIn K cd9 "_law_cell" = true) (k9 : PySem.W.keepIn K (.ref f9) = true)
    {od10 an10 : Option Addr} {sl10 : Array (Option Value)} {oc10 dc10 pm10 cd10 ct10 : Value} {f10 : Addr}
    {kV10 : Value}
    (a10 : PySem.W.nsIn K mainGlobals "_law_digits" = some (some (.ref f10)))
    (l10 : K.lookup f10 = some ⟨oc10, od10, .func (PySem.W.fnOf "_law_digits" "_law_digits" (defArgs s__law_digits) (defBody s__law_digits) (defScope s__law_digits) .none kV10 dc10 pm10 an10 cd10 ct10), sl10⟩)
    (c10 : PySem.W.codeIn K cd10 "_law_digits" = true) (k10 : PySem.W.keepIn K (.ref f10) = true)
    {od11 an11 : Option Addr} {sl11 : Array (Option Value)} {oc11 dc11 pm11 cd11 ct11 : Value} {f11 : Addr}
    {kV11 : Value}
    (a11 : PySem.W.nsIn K mainGlobals "_law_number" = some (some (.ref f11)))
    (l11 : K.lookup f11 = some ⟨oc11, od11, .func (PySem.W.fnOf "_law_number" "_law_number" (defArgs s__law_number) (defBody s__law_number) (defScope s__law_number) .none kV11 dc11 pm11 an11 cd11 ct11), sl11⟩)
    (c11 : PySem.W.codeIn K cd11 "_law_number" = true) (k11 : PySem.W.keepIn K (.ref f11) = true)
    {od12 an12 : Option Addr} {sl12 : Array (Option Value)} {oc12 dc12 pm12 cd12 ct12 : Value} {f12 : Addr}
    {kV12 : Value}
    (a12 : PySem.W.nsIn K mainGlobals "_law_power" = some (some (.ref f12)))
    (l12 : K.lookup f12 = some ⟨oc12, od12, .func (PySem.W.fnOf "_law_power" "_law_power" (defArgs s__law_power) (defBody s__law_power) (defScope s__law_power) .none kV12 dc12 pm12 an12 cd12 ct12), sl12⟩)
    (c12 : PySem.W.codeIn K cd12 "_law_power" = true) (k12 : PySem.W.keepIn K (.ref f12) = true)
    {od13 an13 : Option Addr} {sl13 : Array (Option Value)} {oc13 dc13 pm13 cd13 ct13 : Value} {f13 : Addr}
    {kV13 : Value}
    (a13 : PySem.W.nsIn K mainGlobals "_law_entry" = some (some (.ref f13)))
    (l13 : K.lookup f13 = some ⟨oc13, od13, .func (PySem.W.fnOf "_law_entry" "_law_entry" (defArgs s__law_entry) (defBody s__law_entry) (defScope s__law_entry) .none kV13 dc13 pm13 an13 cd13 ct13), sl13⟩)
    (c13 : PySem.W.codeIn K cd13 "_law_entry" = true) (k13 : PySem.W.keepIn K (.ref f13) = true)
    {od14 an14 : Option Addr} {sl14 : Array (Option Value)} {oc14 dc14 pm14 cd14 ct14 : Value} {f14 : Addr}
    {kV14 : Value}
    (a14 : PySem.W.nsIn K mainGlobals "_law_rows" = some (some (.ref f14)))
    (l14 : K.lookup f14 = some ⟨oc14, od14, .func (PySem.W.fnOf "_law_rows" "_law_rows" (defArgs s__law_rows) (defBody s__law_rows) (defScope s__law_rows) .none kV14 dc14 pm14 an14 cd14 ct14), sl14⟩)
    (c14 : PySem.W.codeIn K cd14 "_law_rows" = true) (k14 : PySem.W.keepIn K (.ref f14) = true)
    {od15 an15 : Option Addr} {sl15 : Array (Option Value)} {oc15 dc15 pm15 cd15 ct15 : Value} {f15 : Addr}
    {kV15 : Value}
    (a15 : PySem.W.nsIn K mainGlobals "_law_figures" = some (some (.ref f15)))
    (l15 : K.lookup f15 = some ⟨oc15, od15, .func (PySem.W.fnOf "_law_figures" "_law_figures" (defArgs s__law_figures) (defBody s__law_figures) (defScope s__law_figures) .none kV15 dc15 pm15 an15 cd15 ct15), sl15⟩)
    (c15 : PySem.W.codeIn K cd15 "_law_figures" = true) (k15 : PySem.W.keepIn K (.ref f15) = true)
    {od16 an16 : Option Addr} {sl16 : Array (Option Value)} {oc16 dc16 pm16 cd16 ct16 : Value} {f16 : Addr}
    {kV16 : Value}
    (a16 : PySem.W.nsIn K mainGlobals "_law_total" = some (some (.ref f16)))
    (l16 : K.lookup f16 = some ⟨oc16, od16, .func (PySem.W.fnOf "_law_total" "_law_total" (defArgs s__law_total) (defBody s__law_total) (defScope s__law_total) .none kV16 dc16 pm16 an16 cd16 ct16), sl16⟩)
    (c16 : PySem.W.codeIn K cd16 "_law_total" = true) (k16 : PySem.W.keepIn K (.ref f16) = true)
    {od17 an17 : Option Addr} {sl17 : Array (Option Value)} {oc17 dc17 pm17 cd17 ct17 : Value} {f17 : Addr}
    {kV17 : Value}
    (a17 : PySem.W.nsIn K mainGlobals "_law_same" = some (some (.ref f17)))
    (l17 : K.lookup f17 = some ⟨oc17, od17, .func (PySem.W.fnOf "_law_same" "_law_same" (defArgs s__law_same) (defBody s__law_same) (defScope s__law_same) .none kV17 dc17 pm17 an17 cd17 ct17), sl17⟩)
    (c17 : PySem.W.codeIn K cd17 "_law_same" = true) (k17 : PySem.W.keepIn K (.ref f17) = true)
    {od18 an18 : Option Addr} {sl18 : Array (Option Value)} {oc18 dc18 pm18 cd18 ct18 : Value} {f18 : Addr}
    {kV18 : Value}
    (a18 : PySem.W.nsIn K mainGlobals "_law_same_rows" = some (some (.ref f18)))
    (l18 : K.lookup f18 = some ⟨oc18, od18, .func (PySem.W.fnOf "_law_same_rows" "_law_same_rows" (defArgs s__law_same_rows) (defBody s__law_same_rows) (defScope s__law_same_rows) .none kV18 dc18 pm18 an18 cd18 ct18), sl18⟩)
    (c18 : PySem.W.codeIn K cd18 "_law_same_rows" = true) (k18 : PySem.W.keepIn K (.ref f18) = true)
    {od19 an19 : Option Addr} {sl19 : Array (Option Value)} {oc19 dc19 pm19 cd19 ct19 : Value} {f19 : Addr}
    {kV19 : Value}
    (a19 : PySem.W.nsIn K mainGlobals "_law_signs_right" = some (some (.ref f19)))
    (l19 : K.lookup f19 = some ⟨oc19, od19, .func (PySem.W.fnOf "_law_signs_right" "_law_signs_right" (defArgs s__law_signs_right) (defBody s__law_signs_right) (defScope s__law_signs_right) .none kV19 dc19 pm19 an19 cd19 ct19), sl19⟩)
    (c19 : PySem.W.codeIn K cd19 "_law_signs_right" = true) (k19 : PySem.W.keepIn K (.ref f19) = true)
    {od20 an20 : Option Addr} {sl20 : Array (Option Value)} {oc20 dc20 pm20 cd20 ct20 : Value} {f20 : Addr}
    {kV20 : Value}
    (a20 : PySem.W.nsIn K mainGlobals "_law_back" = some (some (.ref f20)))
    (l20 : K.lookup f20 = some ⟨oc20, od20, .func (PySem.W.fnOf "_law_back" "_law_back" (defArgs s__law_back) (defBody s__law_back) (defScope s__law_back) .none kV20 dc20 pm20 an20 cd20 ct20), sl20⟩)
    (c20 : PySem.W.codeIn K cd20 "_law_back" = true) (k20 : PySem.W.keepIn K (.ref f20) = true)
    {od21 an21 : Option Addr} {sl21 : Array (Option Value)} {oc21 dc21 pm21 cd21 ct21 : Value} {f21 : Addr}
    {kV21 : Value}
    (a21 : PySem.W.nsIn K mainGlobals "law" = some (some (.ref f21)))
    (l21 : K.lookup f21 = some ⟨oc21, od21, .func (PySem.W.fnOf "law" "law" (defArgs s_law) (defBody s_law) (defScope s_law) .none kV21 dc21 pm21 an21 cd21 ct21), sl21⟩)
    (c21 : PySem.W.codeIn K cd21 "law" = true) (k21 : PySem.W.keepIn K (.ref f21) = true)
    (z_abs : PySem.W.nsIn K mainGlobals "abs" = some none)
    (z_all : PySem.W.nsIn K mainGlobals "all" = some none)
    (z_bool : PySem.W.nsIn K mainGlobals "bool" = some none)
    (z_int : PySem.W.nsIn K mainGlobals "int" = some none)
    (z_isinstance : PySem.W.nsIn K mainGlobals "isinstance" = some none)
    (z_len : PySem.W.nsIn K mainGlobals "len" = some none)
    (z_list : PySem.W.nsIn K mainGlobals "list" = some none)
    (z_max : PySem.W.nsIn K mainGlobals "max" = some none)
    (z_min : PySem.W.nsIn K mainGlobals "min" = some none)
    (z_range : PySem.W.nsIn K mainGlobals "range" = some none)
    (z_tuple : PySem.W.nsIn K mainGlobals "tuple" = some none)
    (z_zip : PySem.W.nsIn K mainGlobals "zip" = some none)
    : ∃ fd : FuncData, (∀ (s : Shared) (v : Value), BindsTo s fd ⟨[v], []⟩ [("script", v)]) ∧ ∀ base : Heap, K.In base → base.Ns mainGlobals mg → FnOk l.prog w K mg base CX0 6 fa fd ["script"] (spD K F_law) := by
  have e := hfa.symm.trans (PySem.W.mg_of X G a21)
  cases e
  have T : Txt mg := ⟨PySem.W.mg_none_of X G z_abs, PySem.W.mg_none_of X G z_all, PySem.W.mg_none_of X G z_bool, PySem.W.mg_none_of X G z_int, PySem.W.mg_none_of X G z_isinstance, PySem.W.mg_none_of X G z_len, PySem.W.mg_none_of X G z_list, PySem.W.mg_none_of X G z_max, PySem.W.mg_none_of X G z_min, PySem.W.mg_none_of X G z_range, PySem.W.mg_none_of X G z_tuple, PySem.W.mg_none_of X G z_zip⟩
  have Fn0 := fund_mk l0 c0 k0
  have Fn1 := fund_mk l1 c1 k1
  have Fn2 := fund_mk l2 c2 k2
  have Fn3 := fund_mk l3 c3 k3
  have Fn4 := fund_mk l4 c4 k4
  have Fn5 := fund_mk l5 c5 k5
  have Fn6 := fund_mkK (kws := [("base", V.int 2)]) l6 c6 k6 (by intro q hq; simp only [List.mem_cons, List.not_mem_nil, or_false] at hq; subst hq; exact ⟨_, d6, ⟨_, rfl⟩⟩)
  have Fn7 := fund_mkK (kws := [("base", V.int 2)]) l7 c7 k7 (by intro q hq; simp only [List.mem_cons, List.not_mem_nil, or_false] at hq; subst hq; exact ⟨_, d7, ⟨_, rfl⟩⟩)
  have Fn8 := fund_mk l8 c8 k8
  have Fn9 := fund_mk l9 c9 k9
  have Fn10 := fund_mk l10 c10 k10
  have Fn11 := fund_mk l11 c11 k11
  have Fn12 := fund_mk l12 c12 k12
  have Fn13 := fund_mk l13 c13 k13
  have Fn14 := fund_mk l14 c14 k14
  have Fn15 := fund_mk l15 c15 k15
  have Fn16 := fund_mk l16 c16 k16
  have Fn17 := fund_mk l17 c17 k17
  have Fn18 := fund_mk l18 c18 k18
  have Fn19 := fund_mk l19 c19 k19
  have Fn20 := fund_mk l20 c20 k20
  have Fn21 := fund_mk l21 c21 k21
  refine ⟨PySem.W.fnOf "law" "law" (defArgs s_law) (defBody s_law) (defScope s_law) .none kV21 dc21 pm21 an21 cd21 ct21, fun s v => ?_, fun base _ _ => ?_⟩
  rotate_left
  have b0 : Binds K _ ["value"] [] := Fn0.bindsN (ps := ["value"]) fun _ _ _ _ _ _ us hl => match us, hl with | [_], _ => rfl
  have G0 := fun n => ok_frozen (P := l.prog) (w := w) (base := base) T Fn0 (PySem.W.mg_of X G a0) b0 n
  have c_frozen : Cal1 l.prog w K mg base CX0 3 "frozen" [] [] (F_frozen 2) := ⟨⟨_, _, _, _, G0 2, PySem.W.mg_of X G a0, k0, b0, .nil⟩, fun _ => .nil⟩
  have b1 : Binds K _ ["width"] [] := Fn1.bindsN (ps := ["width"]) fun _ _ _ _ _ _ us hl => match us, hl with | [_], _ => rfl
  have G1 := ok_zero_vector (P := l.prog) (w := w) (base := base) T Fn1 
  have c_zero_vector : Cal1 l.prog w K mg base CX0 1 "zero_vector" [] [] F_zero_vector := ⟨⟨_, _, _, _, G1, PySem.W.mg_of X G a1, k1, b1, .nil⟩, fun _ => .nil⟩
  have b2 : Binds K _ ["one", "two"] [] := Fn2.bindsN (ps := ["one", "two"]) fun _ _ _ _ _ _ us hl => match us, hl with | [_, _], _ => rfl
  have G2 := ok_added (P := l.prog) (w := w) (base := base) T Fn2 
  have c_added : Cal1 l.prog w K mg base CX0 1 "added" [] [] F_added := ⟨⟨_, _, _, _, G2, PySem.W.mg_of X G a2, k2, b2, .nil⟩, fun _ => .nil⟩
  have b3 : Binds K _ ["number", "vector"] [] := Fn3.bindsN (ps := ["number", "vector"]) fun _ _ _ _ _ _ us hl => match us, hl with | [_, _], _ => rfl
  have G3 := ok_times (P := l.prog) (w := w) (base := base) T Fn3 
  have c_times : Cal1 l.prog w K mg base CX0 1 "times" [] [] F_times := ⟨⟨_, _, _, _, G3, PySem.W.mg_of X G a3, k3, b3, .nil⟩, fun _ => .nil⟩
  have b4 : Binds K _ ["vector"] [] := Fn4.bindsN (ps := ["vector"]) fun _ _ _ _ _ _ us hl => match us, hl with | [_], _ => rfl
  have G4 := ok_signs_of (P := l.prog) (w := w) (base := base) T Fn4 
  have c_signs_of : Cal1 l.prog w K mg base CX0 1 "signs_of" [] [] F_signs_of := ⟨⟨_, _, _, _, G4, PySem.W.mg_of X G a4, k4, b4, .nil⟩, fun _ => .nil⟩
  have b5 : Binds K _ ["vector", "signs"] [] := Fn5.bindsN (ps := ["vector", "signs"]) fun _ _ _ _ _ _ us hl => match us, hl with | [_, _], _ => rfl
  have G5 := ok_has_signs (P := l.prog) (w := w) (base := base) T Fn5 
  have c_has_signs : Cal1 l.prog w K mg base CX0 1 "has_signs" [] [] F_has_signs := ⟨⟨_, _, _, _, G5, PySem.W.mg_of X G a5, k5, b5, .nil⟩, fun _ => .nil⟩
  have G6 := ok_figures_of (P := l.prog) (w := w) (base := base) T Fn6 c_signs_of
  obtain ⟨ds6, vd6, bd6⟩ := Fn6.binds0 (ps := ["vector", "base"]) 1 (by decide) rfl fun _ _ _ _ _ _ us ks hl hk => match us, ks, hl, hk with | [_], [_], _, _ => ⟨_, _, _, _, _, _, rfl, rfl, rfl⟩
  have c_figures_of : Cal1 l.prog w K mg base CX0 2 "figures_of" [V.int 2] [D.int 2] F_figures_of := ⟨⟨_, _, _, _, G6, PySem.W.mg_of X G a6, k6, bd6, vd6⟩, fun _ => .cons (.int _) .nil⟩
  have k_figures_of : CalN l.prog w K mg base CX0 2 "figures_of" 1 ["base"] F_figures_of := ⟨_, _, _, G6, PySem.W.mg_of X G a6, k6, KBn.tail fun us ws h1 h2 => match us, ws, h1, h2 with | [_], [_], _, _ => rfl⟩
  have G7 := ok_order_of (P := l.prog) (w := w) (base := base) T Fn7 c_zero_vector c_frozen c_times c_added
  obtain ⟨ds7, vd7, bd7⟩ := Fn7.binds0 (ps := ["rows", "width", "base"]) 2 (by decide) rfl fun _ _ _ _ _ _ us ks hl hk => match us, ks, hl, hk with | [_, _], [_], _, _ => ⟨_, _, _, _, _, _, rfl, rfl, rfl⟩
  have c_order_of : Cal1 l.prog w K mg base CX0 4 "order_of" [V.int 2] [D.int 2] F_order_of := ⟨⟨_, _, _, _, G7, PySem.W.mg_of X G a7, k7, bd7, vd7⟩, fun _ => .cons (.int _) .nil⟩
  have k_order_of : CalN l.prog w K mg base CX0 4 "order_of" 2 ["base"] F_order_of := ⟨_, _, _, G7, PySem.W.mg_of X G a7, k7, KBn.tail fun us ws h1 h2 => match us, ws, h1, h2 with | [_, _], [_], _, _ => rfl⟩
  have b8 : Binds K _ ["value"] [] := Fn8.bindsN (ps := ["value"]) fun _ _ _ _ _ _ us hl => match us, hl with | [_], _ => rfl
  have G8 := ok__law_whole (P := l.prog) (w := w) (base := base) T Fn8 
  have c__law_whole : Cal1 l.prog w K mg base CX0 1 "_law_whole" [] [] F__law_whole := ⟨⟨_, _, _, _, G8, PySem.W.mg_of X G a8, k8, b8, .nil⟩, fun _ => .nil⟩
  have b9 : Binds K _ ["script", "k"] [] := Fn9.bindsN (ps := ["script", "k"]) fun _ _ _ _ _ _ us hl => match us, hl with | [_, _], _ => rfl
  have G9 := ok__law_cell (P := l.prog) (w := w) (base := base) T Fn9 
  have c__law_cell : Cal1 l.prog w K mg base CX0 1 "_law_cell" [] [] F__law_cell := ⟨⟨_, _, _, _, G9, PySem.W.mg_of X G a9, k9, b9, .nil⟩, fun _ => .nil⟩
  have b10 : Binds K _ ["cell", "sizes"] [] := Fn10.bindsN (ps := ["cell", "sizes"]) fun _ _ _ _ _ _ us hl => match us, hl with | [_, _], _ => rfl
  have G10 := ok__law_digits (P := l.prog) (w := w) (base := base) T Fn10 
  have c__law_digits : Cal1 l.prog w K mg base CX0 1 "_law_digits" [] [] F__law_digits := ⟨⟨_, _, _, _, G10, PySem.W.mg_of X G a10, k10, b10, .nil⟩, fun _ => .nil⟩
  have b11 : Binds K _ ["cell", "low", "high"] [] := Fn11.bindsN (ps := ["cell", "low", "high"]) fun _ _ _ _ _ _ us hl => match us, hl with | [_, _, _], _ => rfl
  have G11 := ok__law_number (P := l.prog) (w := w) (base := base) T Fn11 
  have c__law_number : Cal1 l.prog w K mg base CX0 1 "_law_number" [] [] F__law_number := ⟨⟨_, _, _, _, G11, PySem.W.mg_of X G a11, k11, b11, .nil⟩, fun _ => .nil⟩
  have b12 : Binds K _ ["number", "count"] [] := Fn12.bindsN (ps := ["number", "count"]) fun _ _ _ _ _ _ us hl => match us, hl with | [_, _], _ => rfl
  have G12 := ok__law_power (P := l.prog) (w := w) (base := base) T Fn12 
  have c__law_power : Cal1 l.prog w K mg base CX0 1 "_law_power" [] [] F__law_power := ⟨⟨_, _, _, _, G12, PySem.W.mg_of X G a12, k12, b12, .nil⟩, fun _ => .nil⟩
  have b13 : Binds K _ ["pick", "cell", "root", "far"] [] := Fn13.bindsN (ps := ["pick", "cell", "root", "far"]) fun _ _ _ _ _ _ us hl => match us, hl with | [_, _, _, _], _ => rfl
  have G13 := ok__law_entry (P := l.prog) (w := w) (base := base) T Fn13 c__law_power c__law_digits c__law_number
  have c__law_entry : Cal1 l.prog w K mg base CX0 2 "_law_entry" [] [] F__law_entry := ⟨⟨_, _, _, _, G13, PySem.W.mg_of X G a13, k13, b13, .nil⟩, fun _ => .nil⟩
  have b14 : Binds K _ ["cell", "width", "shape"] [] := Fn14.bindsN (ps := ["cell", "width", "shape"]) fun _ _ _ _ _ _ us hl => match us, hl with | [_, _, _], _ => rfl
  have G14 := ok__law_rows (P := l.prog) (w := w) (base := base) T Fn14 c__law_digits
  have c__law_rows : Cal1 l.prog w K mg base CX0 2 "_law_rows" [] [] F__law_rows := ⟨⟨_, _, _, _, G14, PySem.W.mg_of X G a14, k14, b14, .nil⟩, fun _ => .nil⟩
  have b15 : Binds K _ ["vector", "root"] [] := Fn15.bindsN (ps := ["vector", "root"]) fun _ _ _ _ _ _ us hl => match us, hl with | [_, _], _ => rfl
  have G15 := ok__law_figures (P := l.prog) (w := w) (base := base) T Fn15 
  have c__law_figures : Cal1 l.prog w K mg base CX0 1 "_law_figures" [] [] F__law_figures := ⟨⟨_, _, _, _, G15, PySem.W.mg_of X G a15, k15, b15, .nil⟩, fun _ => .nil⟩
  have b16 : Binds K _ ["rows", "width", "root"] [] := Fn16.bindsN (ps := ["rows", "width", "root"]) fun _ _ _ _ _ _ us hl => match us, hl with | [_, _, _], _ => rfl
  have G16 := ok__law_total (P := l.prog) (w := w) (base := base) T Fn16 
  have c__law_total : Cal1 l.prog w K mg base CX0 1 "_law_total" [] [] F__law_total := ⟨⟨_, _, _, _, G16, PySem.W.mg_of X G a16, k16, b16, .nil⟩, fun _ => .nil⟩
  have b17 : Binds K _ ["told", "due"] [] := Fn17.bindsN (ps := ["told", "due"]) fun _ _ _ _ _ _ us hl => match us, hl with | [_, _], _ => rfl
  have G17 := ok__law_same (P := l.prog) (w := w) (base := base) T Fn17 c__law_whole
  have c__law_same : Cal1 l.prog w K mg base CX0 2 "_law_same" [] [] F__law_same := ⟨⟨_, _, _, _, G17, PySem.W.mg_of X G a17, k17, b17, .nil⟩, fun _ => .nil⟩
  have b18 : Binds K _ ["told", "due"] [] := Fn18.bindsN (ps := ["told", "due"]) fun _ _ _ _ _ _ us hl => match us, hl with | [_, _], _ => rfl
  have G18 := ok__law_same_rows (P := l.prog) (w := w) (base := base) T Fn18 c__law_same
  have c__law_same_rows : Cal1 l.prog w K mg base CX0 3 "_law_same_rows" [] [] F__law_same_rows := ⟨⟨_, _, _, _, G18, PySem.W.mg_of X G a18, k18, b18, .nil⟩, fun _ => .nil⟩
  have b19 : Binds K _ ["vector", "drawn"] [] := Fn19.bindsN (ps := ["vector", "drawn"]) fun _ _ _ _ _ _ us hl => match us, hl with | [_, _], _ => rfl
  have G19 := ok__law_signs_right (P := l.prog) (w := w) (base := base) T Fn19 c_signs_of c__law_same c_has_signs
  have c__law_signs_right : Cal1 l.prog w K mg base CX0 3 "_law_signs_right" [] [] F__law_signs_right := ⟨⟨_, _, _, _, G19, PySem.W.mg_of X G a19, k19, b19, .nil⟩, fun _ => .nil⟩
  have b20 : Binds K _ ["vector", "rows", "root", "zeros", "upto"] [] := Fn20.bindsN (ps := ["vector", "rows", "root", "zeros", "upto"]) fun _ _ _ _ _ _ us hl => match us, hl with | [_, _, _, _, _], _ => rfl
  have G20 := ok__law_back (P := l.prog) (w := w) (base := base) T Fn20 k_order_of c__law_same c__law_power
  have c__law_back : Cal1 l.prog w K mg base CX0 5 "_law_back" [] [] F__law_back := ⟨⟨_, _, _, _, G20, PySem.W.mg_of X G a20, k20, b20, .nil⟩, fun _ => .nil⟩
  · exact ok_law T Fn21 c__law_cell c__law_digits c__law_entry c__law_signs_right c__law_figures c_figures_of k_figures_of c__law_same_rows c__law_back c_order_of k_order_of c__law_same c__law_rows c__law_total
  · exact .of_eq rfl
theorem sp_law {K : PySem.W.Frag} {H : Hp} {a : Addr} {ns : List Int} (hl : ns.length ≤ 63) (hS : SqL K H a (ns.map V.int)) : spD K F_law [.ref a] H (fun v _ => v = .bl true) fun _ _ _ => False :=
  ⟨H, [.frz (ns.map .int)], fun d => d = .bl true, fun _ => False, Same.refl _, .cons (.frz hS (by rw [List.length_map]; exact line1000 (by omega)) (DRs.ofInts ns)) .nil, ⟨ns, rfl, rfl⟩,
    fun d v _ _ e _ r => by subst e; cases r; rfl, fun _ _ _ _ _ z _ _ => z.elim⟩
end L2.DL.Law
open PySem PySem.W PyProof.Rows
set_option maxRecDepth 100000 in
set_option maxHeartbeats 0 in
theorem PySem.Challenge.cw_halvedloads_k00_digits_there_and_back_holds : PySem.Challenge.rw_halvedloads_k00_digits_there_and_back.Holds := by
  w_on; o_law; k_head; (case hw => w_witness2)
  k_fill
  refine L2.walk_of (l := PySem.Challenge.rw_halvedloads_k00_digits_there_and_back) (n := 63) (k := 6) (x := "script") (CX := fun _ => L2.CX0) (sp := fun w => L2.DL.spD _ L2.DL.F_law) rfl (by decide) rfl ⟨rfl, by decide, by decide⟩ (fun w h Y => PySem.W.kIn_of Y) ?F (fun _ _ a ns hl _ hS => L2.DL.Law.sp_law hl hS) (fun _ _ _ _ _ z => z)
  case F =>
    intro w mg fa h KX G hmg
    refine' L2.DL.Law.all_mk KX G hmg ?a0 ?l0 ?c0 ?k0 ?a1 ?l1 ?c1 ?k1 ?a2 ?l2 ?c2 ?k2 ?a3 ?l3 ?c3 ?k3 ?a4 ?l4 ?c4 ?k4 ?a5 ?l5 ?c5 ?k5 ?a6 ?l6 ?c6 ?k6 ?d6 ?a7 ?l7 ?c7 ?k7 ?d7 ?a8 ?l8 ?c8 ?k8 ?a9 ?l9 ?c9 ?k9 ?a10 ?l10 ?c10 ?k10 ?a11 ?l11 ?c11 ?k11 ?a12 ?l12 ?c12 ?k12 ?a13 ?l13 ?c13 ?k13 ?a14 ?l14 ?c14 ?k14 ?a15 ?l15 ?c15 ?k15 ?a16 ?l16 ?c16 ?k16 ?a17 ?l17 ?c17 ?k17 ?a18 ?l18 ?c18 ?k18 ?a19 ?l19 ?c19 ?k19 ?a20 ?l20 ?c20 ?k20 ?a21 ?l21 ?c21 ?k21 ?z_abs ?z_all ?z_bool ?z_int ?z_isinstance ?z_len ?z_list ?z_max ?z_min ?z_range ?z_tuple ?z_zip
    (case a0 => k_is)
    (case l0 => k_is)
    (case c0 => k_is)
    (case k0 => k_is)
    (case a1 => k_is)
    (case l1 => k_is)
    (case c1 => k_is)
    (case k1 => k_is)
    (case a2 => k_is)
    (case l2 => k_is)
    (case c2 => k_is)
    (case k2 => k_is)
    (case a3 => k_is)
    (case l3 => k_is)
    (case c3 => k_is)
    (case k3 => k_is)
    (case a4 => k_is)
    (case l4 => k_is)
    (case c4 => k_is)
    (case k4 => k_is)
    (case a5 => k_is)
    (case l5 => k_is)
    (case c5 => k_is)
    (case k5 => k_is)
    (case a6 => k_is)
    (case l6 => k_is)
    (case c6 => k_is)
    (case k6 => k_is)
    (case d6 => k_is)
    (case a7 => k_is)
    (case l7 => k_is)
    (case c7 => k_is)
    (case k7 => k_is)
    (case d7 => k_is)
    (case a8 => k_is)
    (case l8 => k_is)
    (case c8 => k_is)
    (case k8 => k_is)
    (case a9 => k_is)
    (case l9 => k_is)
    (case c9 => k_is)
    (case k9 => k_is)
    (case a10 => k_is)
    (case l10 => k_is)
    (case c10 => k_is)
    (case k10 => k_is)
    (case a11 => k_is)
    (case l11 => k_is)
    (case c11 => k_is)
    (case k11 => k_is)
    (case a12 => k_is)
    (case l12 => k_is)
    (case c12 => k_is)
    (case k12 => k_is)
    (case a13 => k_is)
    (case l13 => k_is)
    (case c13 => k_is)
    (case k13 => k_is)
    (case a14 => k_is)
    (case l14 => k_is)
    (case c14 => k_is)
    (case k14 => k_is)
    (case a15 => k_is)
    (case l15 => k_is)
    (case c15 => k_is)
    (case k15 => k_is)
    (case a16 => k_is)
    (case l16 => k_is)
    (case c16 => k_is)
    (case k16 => k_is)
    (case a17 => k_is)
    (case l17 => k_is)
    (case c17 => k_is)
    (case k17 => k_is)
    (case a18 => k_is)
    (case l18 => k_is)
    (case c18 => k_is)
    (case k18 => k_is)
    (case a19 => k_is)
    (case l19 => k_is)
    (case c19 => k_is)
    (case k19 => k_is)
    (case a20 => k_is)
    (case l20 => k_is)
    (case c20 => k_is)
    (case k20 => k_is)
    (case a21 => k_is)
    (case l21 => k_is)
    (case c21 => k_is)
    (case k21 => k_is)
    (case z_abs => k_is)
    (case z_all => k_is)
    (case z_bool => k_is)
    (case z_int => k_is)
    (case z_isinstance => k_is)
    (case z_len => k_is)
    (case z_list => k_is)
    (case z_max => k_is)
    (case z_min => k_is)
    (case z_range => k_is)
    (case z_tuple => k_is)
    (case z_zip => k_is)

