import PyProof.Rows.All
import Wide.All
import OpenK.AllK
import Wide.FinOn
import HandS.ForMost
import HandS.ForExc
import HandS.IsInst
import HandS.Evl
import HandS.Wide
import HandS.Defaults
import HandS.Text
import HandS.SetFor
import HandS.SortInts
import HandS.TupSets
import HandS.WideBits
import HandS.Strs
import HandS.Style
import HandS.More
import HandS.ClsMeth
import PyProof.Rows.SetFrom
import HandS.Zip
import HandS.MakeKw
import HandS.HeadHook1
import HandS.Deep
import KE.GoesEnum
import HandS.ExcOwn
import HandS.ExcIs
import HandS.Exc
import HandS.DictTup
import HandS.Conv
import HandS.Finally
import HandS.Nested
import HandS.HeadWalk
import HandS.HeadHook4
import KE.SortKeyHeap
import PySem.Challenge.RW_howfar_k06_hands
import KE.KStateDown
import Lean
import HandS.Head0
import HandS.Head1
import HandS.Head2
import HandS.HeadEnd
import HandS.HeadHook2
import HandS.HeadHook3
set_option Elab.async false
set_option linter.all false
set_option maxRecDepth 100000
/-! Hf: typed data over the abstract heap: what a value stands for, in a part of the heap that never changes; wp rules for expressions and statements over typed slots. -/
namespace Hf
open PySem PySem.Spec PyProof.Rows L2

abbrev Ex := Evl.Ex

/-- what a value stands for, by the frozen part of the heap -/
structure Rp (α : Type) where
  rel : Hp → V → α → Prop
  mono : ∀ {G G' : Hp} {v : V} {a : α}, Ex G G' → rel G v a → rel G' v a

def rInt : Rp Int := ⟨fun _ v i => v = .int i, fun _ h => h⟩
def rBool : Rp Bool := ⟨fun _ v i => v = .bl i, fun _ h => h⟩
def rStr : Rp Str := ⟨fun _ v i => v = .str i, fun _ h => h⟩
def rNon : Rp Unit := ⟨fun _ v _ => v = .non, fun _ h => h⟩
/-- any value, told as it is -/
def rV : Rp V := ⟨fun _ v w => v = w, fun _ h => h⟩
def rOpt {α : Type} (r : Rp α) : Rp (Option α) := ⟨fun G v o => match o with
  | none => v = .non
  | some a => r.rel G v a, fun {G G' v a} e h => by
    cases a with
    | none => exact h
    | some a => exact r.mono e h⟩
/-- items one by one -/
inductive All2 {α : Type} (r : Rp α) (G : Hp) : List V → List α → Prop
  | nil : All2 r G [] []
  | cons {v : V} {vs : List V} {a : α} {as : List α} : r.rel G v a → All2 r G vs as → All2 r G (v :: vs) (a :: as)
section
variable {α : Type} {r : Rp α} {G G' : Hp}
theorem All2.mono (e : Ex G G') : ∀ {vs : List V} {as : List α}, All2 r G vs as → All2 r G' vs as
  | _, _, .nil => .nil
  | _, _, .cons h t => .cons (r.mono e h) (All2.mono e t)
theorem All2.length : ∀ {vs : List V} {as : List α}, All2 r G vs as → vs.length = as.length
  | _, _, .nil => rfl
  | _, _, .cons _ t => congrArg (· + 1) (All2.length t)
theorem All2.get : ∀ {vs : List V} {as : List α} {i : Nat} {a : α}, All2 r G vs as → as[i]? = some a → ∃ v, vs[i]? = some v ∧ r.rel G v a
  | _, _, i, a, .nil, e => by cases e
  | _, _, 0, a, .cons h _, e => ⟨_, rfl, by cases e; exact h⟩
  | _, _, i + 1, a, .cons _ t, e => All2.get (i := i) t e
theorem All2.getV : ∀ {vs : List V} {as : List α} {i : Nat} {v : V}, All2 r G vs as → vs[i]? = some v → ∃ a, as[i]? = some a ∧ r.rel G v a
  | _, _, i, a, .nil, e => by cases e
  | _, _, 0, a, .cons h _, e => ⟨_, rfl, by cases e; exact h⟩
  | _, _, i + 1, a, .cons _ t, e => All2.getV (i := i) t e
theorem All2.append : ∀ {vs ws : List V} {as bs : List α}, All2 r G vs as → All2 r G ws bs → All2 r G (vs ++ ws) (as ++ bs)
  | _, _, _, _, .nil, h => h
  | _, _, _, _, .cons h t, k => .cons h (All2.append t k)
theorem All2.one {v : V} {a : α} (h : r.rel G v a) : All2 r G [v] [a] := .cons h .nil
theorem All2.drop : ∀ {vs : List V} {as : List α} (n : Nat), All2 r G vs as → All2 r G (vs.drop n) (as.drop n)
  | _, _, 0, h => h
  | _, _, _ + 1, .nil => .nil
  | _, _, n + 1, .cons _ t => All2.drop n t
theorem All2.take : ∀ {vs : List V} {as : List α} (n : Nat), All2 r G vs as → All2 r G (vs.take n) (as.take n)
  | _, _, 0, _ => .nil
  | _, _, _ + 1, .nil => .nil
  | _, _, n + 1, .cons h t => .cons h (All2.take n t)
theorem All2.set {v : V} {a : α} (h : r.rel G v a) : ∀ {vs : List V} {as : List α} (n : Nat), All2 r G vs as → All2 r G (vs.set n v) (as.set n a)
  | _, _, _, .nil => .nil
  | _, _, 0, .cons _ t => .cons h t
  | _, _, n + 1, .cons k t => .cons k (All2.set h n t)
theorem All2.reverse : ∀ {vs : List V} {as : List α}, All2 r G vs as → All2 r G vs.reverse as.reverse
  | _, _, .nil => .nil
  | _, _, .cons h t => by
    rw [List.reverse_cons, List.reverse_cons]
    exact (All2.reverse t).append (.one h)
theorem all2_int : ∀ {vs : List V} {as : List Int}, All2 rInt G vs as → vs = as.map V.int
  | _, _, .nil => rfl
  | _, _, .cons h t => by rw [h, all2_int t]; rfl
theorem all2_bool : ∀ {vs : List V} {as : List Bool}, All2 rBool G vs as → vs = as.map V.bl
  | _, _, .nil => rfl
  | _, _, .cons h t => by rw [h, all2_bool t]; rfl
theorem all2_str : ∀ {vs : List V} {as : List Str}, All2 rStr G vs as → vs = as.map V.str
  | _, _, .nil => rfl
  | _, _, .cons h t => by rw [h, all2_str t]; rfl
theorem all2_ofInt : ∀ (as : List Int), All2 rInt G (as.map V.int) as
  | [] => .nil
  | _ :: r => .cons rfl (all2_ofInt r)
theorem all2_ofStr : ∀ (as : List Str), All2 rStr G (as.map V.str) as
  | [] => .nil
  | _ :: r => .cons rfl (all2_ofStr r)
end
/-- a list of the frozen part -/
def rLst {α : Type} (r : Rp α) : Rp (List α) := ⟨fun G v as => ∃ p vs, v = .ref p ∧ G p = some (.lst vs) ∧ All2 r G vs as, fun {G G' v a} e ⟨p, vs, h1, h2, h3⟩ => ⟨p, vs, h1, e _ _ h2, h3.mono e⟩⟩
/-- a list that may be the script or of the written part: read only -/
def rSeq (K : PySem.W.Frag) {α : Type} (r : Rp α) : Rp (List α) := ⟨fun G v as => ∃ p vs, v = .ref p ∧ SqL K G p vs ∧ All2 r G vs as, fun {G G' v a} e ⟨p, vs, h1, h2, h3⟩ => ⟨p, vs, h1, Evl.ex_l e h2, h3.mono e⟩⟩
/-- tuples -/
def rT2 (K : PySem.W.Frag) {α β : Type} (r : Rp α) (s : Rp β) : Rp (α × β) := ⟨fun G v a => ∃ p x y, v = .ref p ∧ SqT K G p [x, y] ∧ r.rel G x a.1 ∧ s.rel G y a.2, fun {G G' v a} e ⟨p, x, y, h1, h2, h3, h4⟩ => ⟨p, x, y, h1, Evl.ex_t e h2, r.mono e h3, s.mono e h4⟩⟩
def rT3 (K : PySem.W.Frag) {α β γ : Type} (r : Rp α) (s : Rp β) (t : Rp γ) : Rp (α × β × γ) := ⟨fun G v a => ∃ p x y z, v = .ref p ∧ SqT K G p [x, y, z] ∧ r.rel G x a.1 ∧ s.rel G y a.2.1 ∧ t.rel G z a.2.2, fun {G G' v a} e ⟨p, x, y, z, h1, h2, h3, h4, h5⟩ => ⟨p, x, y, z, h1, Evl.ex_t e h2, r.mono e h3, s.mono e h4, t.mono e h5⟩⟩

/-! ### steps of the two heaps -/
/-- from (G, H) to (G', H'): what is frozen stays, all that was tracked stays; what is frozen anew is new -/
structure Le (G H G' H' : Hp) : Prop where
  g : Ex G G'
  h : Ex H H'
  gh : Ex G' H'
  new : ∀ a o, G' a = some o → G a = none → H a = none
theorem Le.refl {G H : Hp} (e : Ex G H) : Le G H G H := ⟨Evl.Ex.refl _, Evl.Ex.refl _, e, fun a o h1 h2 => by rw [h1] at h2; cases h2⟩
theorem Le.trans {G H G1 H1 G2 H2 : Hp} (a : Le G H G1 H1) (b : Le G1 H1 G2 H2) : Le G H G2 H2 :=
  ⟨a.g.trans b.g, a.h.trans b.h, b.gh, fun x o h1 h2 => by
    cases q : G1 x with
    | some u => exact a.new x u q h2
    | none => exact Evl.fresh_back a.h (b.new x o h1 q)⟩
/-- a new frozen object -/
theorem Le.add {G H G1 H1 : Hp} (a : Le G H G1 H1) {p : Addr} {o : HO} (n : H1 p = none) : Le G H (upd G1 p o) (upd H1 p o) :=
  have n1 : G1 p = none := Evl.fresh_back a.gh n
  ⟨a.g.trans (Evl.Ex.new n1), a.h.trans (Evl.Ex.new n), fun x u h => by
    by_cases e : x = p
    · subst e; rw [upd_same] at h ⊢; exact h
    · rw [upd_ne e] at h ⊢; exact a.gh x u h, fun x u h1 h2 => by
    by_cases e : x = p
    · subst e; exact Evl.fresh_back a.h n
    · rw [upd_ne e] at h1; exact a.new x u h1 h2⟩
/-- a new object that may change -/
theorem Le.addO {G H G1 H1 : Hp} (a : Le G H G1 H1) {p : Addr} {o : HO} (n : H1 p = none) : Le G H G1 (upd H1 p o) :=
  ⟨a.g, a.h.trans (Evl.Ex.new n), a.gh.trans (Evl.Ex.new n), a.new⟩
/-- an object that may change is frozen -/
theorem Le.frz {G H G1 H1 : Hp} (a : Le G H G1 H1) {p : Addr} {o : HO} (hp : H1 p = some o) (n : H p = none) (g1 : G1 p = none) : Le G H (upd G1 p o) H1 :=
  ⟨a.g.trans (Evl.Ex.new g1), a.h, fun x u h => by
    by_cases e : x = p
    · subst e; rw [upd_same] at h; cases h; exact hp
    · rw [upd_ne e] at h; exact a.gh x u h, fun x u h1 h2 => by
    by_cases e : x = p
    · subst e; exact n
    · rw [upd_ne e] at h1; exact a.new x u h1 h2⟩

/-! ### slots -/
/-- what an object that may change holds, by the frozen part -/
structure Oc where
  rel : Hp → HO → Prop
  mono : ∀ {G G' : Hp} {o : HO}, Ex G G' → rel G o → rel G' o
def oLst {α : Type} (r : Rp α) (as : List α) : Oc := ⟨fun G o => ∃ vs, o = .lst vs ∧ All2 r G vs as, fun e ⟨vs, h1, h2⟩ => ⟨vs, h1, h2.mono e⟩⟩
inductive Slot : Type 1 where
  | no
  | sh {α : Type} (r : Rp α) (a : α)
  | ow (c : Oc) (q : Option Addr := none)
/-- the entry: frozen part, heap, what may be changed of it; F: a frozen part that still stands -/
structure Ent where
  G : Hp
  H : Hp
  M : Addr → Prop := fun _ => False
  F : Hp := fun _ => none
structure LeE (G0 H0 : Hp) (M : Addr → Prop) (G H : Hp) : Prop where
  g : Ex G0 G
  h : ∀ a o, H0 a = some o → (¬ M a ∧ H a = some o) ∨ (M a ∧ ∃ u, H a = some u)
  gh : Ex G H
  new : ∀ a o, G a = some o → G0 a = none → H0 a = none
  m : ∀ a, M a → G0 a = none ∧ ∃ o, H0 a = some o
theorem LeE.step {G0 H0 : Hp} {M : Addr → Prop} {G H G' H' : Hp} (a : LeE G0 H0 M G H) (b : Le G H G' H') : LeE G0 H0 M G' H' := by
  refine ⟨a.g.trans b.g, fun x o e => ?_, b.gh, fun x o h1 h2 => ?_, a.m⟩
  · rcases a.h x o e with ⟨n, h⟩ | ⟨n, u, h⟩
    · exact .inl ⟨n, b.h _ _ h⟩
    · exact .inr ⟨n, u, b.h _ _ h⟩
  · cases q : G x with
    | some u => exact a.new x u q h2
    | none =>
      have z := b.new x o h1 q
      cases w : H0 x with
      | none => rfl
      | some u =>
        rcases a.h x u w with ⟨_, h⟩ | ⟨_, u, h⟩ <;> (rw [z] at h; cases h)
/-- nothing of the entry may change: a plain step -/
theorem LeE.le {G0 H0 : Hp} {M : Addr → Prop} {G H : Hp} (a : LeE G0 H0 M G H) (n : ∀ x, ¬ M x) : Le G0 H0 G H :=
  ⟨a.g, fun x o e => by
    rcases a.h x o e with ⟨_, h⟩ | ⟨m, _⟩
    · exact h
    · exact absurd m (n x), a.gh, a.new⟩
theorem LeE.fresh {G0 H0 : Hp} {M : Addr → Prop} {G H : Hp} (a : LeE G0 H0 M G H) {p : Addr} (n : H p = none) : H0 p = none := by
  cases w : H0 p with
  | none => rfl
  | some u =>
    rcases a.h p u w with ⟨_, h⟩ | ⟨_, u, h⟩ <;> (rw [n] at h; cases h)
theorem LeE.start {G H : Hp} (e : Ex G H) : LeE G H (fun _ => False) G H := ⟨.refl _, fun a o h => .inl ⟨fun q => q, h⟩, e, fun a o h1 h2 => (by rw [h1] at h2; cases h2), fun a q => False.elim q⟩
/-- where an object of one's own comes from: it is new, or it is the one that was handed in at z -/
def Pin (E : Ent) (p : Addr) : Option Addr → Prop
  | none => E.H p = none
  | some z => p = z ∧ E.M p
theorem Pin.or {E : Ent} {p : Addr} : ∀ {q : Option Addr}, Pin E p q → E.M p ∨ E.H p = none
  | none, h => .inr h
  | some _, h => .inl h.2
def Slot.ok (E : Ent) (G H : Hp) (x : Option (Option V)) : Slot → Prop
  | .no => True
  | .sh r a => ∃ v, x = some (some v) ∧ r.rel G v a
  | .ow c q => ∃ p o, x = some (some (.ref p)) ∧ G p = none ∧ Pin E p q ∧ H p = some o ∧ c.rel G o
def Slot.isOw : Slot → Bool
  | .ow _ _ => true
  | _ => false
structure Holds (E : Ent) (G H : Hp) (σ : L2.St) (Γ : List Slot) : Prop where
  le : LeE E.G E.H E.M G H
  fl : Ex E.F G
  len : σ.length = Γ.length
  ok : ∀ (i : Nat) (s : Slot), Γ[i]? = some s → s.ok E G H σ[i]?
  sep : ∀ (i j : Nat) (s t : Slot), Γ[i]? = some s → Γ[j]? = some t → s.isOw = true → t.isOw = true → σ[i]? = σ[j]? → i = j
section
variable {E : Ent} {G H G' H' : Hp} {σ : L2.St} {Γ : List Slot}
theorem Holds.step (h : Holds E G H σ Γ) (b : Le G H G' H') : Holds E G' H' σ Γ := by
  refine ⟨h.le.step b, h.fl.trans b.g, h.len, fun i s e => ?_, h.sep⟩
  · have k := h.ok i s e
    cases s with
    | no => trivial
    | sh r a =>
      obtain ⟨v, h1, h2⟩ := k
      exact ⟨v, h1, r.mono b.g h2⟩
    | ow c q =>
      obtain ⟨p, o, h1, h2, h3, h4, h5⟩ := k
      refine ⟨p, o, h1, ?_, h3, b.h _ _ h4, c.mono b.g h5⟩
      cases q : G' p with
      | none => rfl
      | some u =>
        have z := b.new p u q h2
        rw [z] at h4
        cases h4
theorem Holds.sh {α : Type} {r : Rp α} {a : α} {i : Nat} (h : Holds E G H σ Γ) (e : Γ[i]? = some (.sh r a)) : ∃ v, σ[i]? = some (some v) ∧ r.rel G v a := h.ok i _ e
theorem Holds.ow {c : Oc} {q : Option Addr} {i : Nat} (h : Holds E G H σ Γ) (e : Γ[i]? = some (.ow c q)) : ∃ p o, σ[i]? = some (some (.ref p)) ∧ G p = none ∧ Pin E p q ∧ H p = some o ∧ c.rel G o := h.ok i _ e
theorem get_set.{u} {α : Type u} {l : List α} {i j : Nat} {x y : α} (h : (l.set i x)[j]? = some y) : (i = j ∧ y = x) ∨ (i ≠ j ∧ l[j]? = some y) := by
  rw [List.getElem?_set] at h
  split at h
  · rename_i e
    split at h
    · exact .inl ⟨e, by cases h; rfl⟩
    · cases h
  · rename_i e
    exact .inr ⟨e, h⟩
theorem Holds.set_no {x : Option V} {i : Nat} (h : Holds E G H σ Γ) : Holds E G H (σ.set i x) (Γ.set i .no) :=
  ⟨h.le, h.fl, by rw [List.length_set, List.length_set]; exact h.len, fun j s e => by
    rcases get_set e with ⟨rfl, rfl⟩ | ⟨n, e⟩
    · trivial
    · rw [List.getElem?_set_ne n]
      exact h.ok j s e, fun j k s t e1 e2 o1 o2 q => by
    rcases get_set e1 with ⟨rfl, rfl⟩ | ⟨n1, e1⟩
    · cases o1
    · rcases get_set e2 with ⟨rfl, rfl⟩ | ⟨n2, e2⟩
      · cases o2
      · rw [List.getElem?_set_ne n1, List.getElem?_set_ne n2] at q
        exact h.sep j k s t e1 e2 o1 o2 q⟩
theorem Holds.set_sh {α : Type} {r : Rp α} {a : α} {v : V} {i : Nat} (h : Holds E G H σ Γ) (hv : r.rel G v a) : Holds E G H (σ.set i (some v)) (Γ.set i (.sh r a)) :=
  ⟨h.le, h.fl, by rw [List.length_set, List.length_set]; exact h.len, fun j s e => by
    rcases get_set e with ⟨rfl, rfl⟩ | ⟨n, e⟩
    · refine ⟨v, ?_, hv⟩
      have lt : i < σ.length := by
        rw [h.len]
        have z := (List.getElem?_eq_some_iff.mp e).1
        rw [List.length_set] at z
        exact z
      rw [List.getElem?_set_self lt]
    · rw [List.getElem?_set_ne n]
      exact h.ok j s e, fun j k s t e1 e2 o1 o2 q => by
    rcases get_set e1 with ⟨rfl, rfl⟩ | ⟨n1, e1⟩
    · cases o1
    · rcases get_set e2 with ⟨rfl, rfl⟩ | ⟨n2, e2⟩
      · cases o2
      · rw [List.getElem?_set_ne n1, List.getElem?_set_ne n2] at q
        exact h.sep j k s t e1 e2 o1 o2 q⟩
/-- a new object that may change, in a slot -/
theorem Holds.set_ow {c : Oc} {p : Addr} {o : HO} {i : Nat} (h : Holds E G H σ Γ) (b : Le G H G' H') (n : H p = none) (g : G' p = none) (hp : H' p = some o) (hc : c.rel G' o) : Holds E G' H' (σ.set i (some (.ref p))) (Γ.set i (.ow c)) := by
  have h1 := h.step b
  have other : ∀ (j : Nat) (s : Slot), Γ[j]? = some s → s.isOw = true → σ[j]? ≠ some (some (V.ref p)) := fun j s e w q => by
    cases s with
    | no => cases w
    | sh r a => cases w
    | ow c2 q2 =>
      obtain ⟨p2, o2, k1, _, _, k4, _⟩ := h.ow e
      rw [k1] at q
      cases q
      rw [n] at k4
      cases k4
  have lt : ∀ s : Slot, (Γ.set i (.ow c))[i]? = some s → i < σ.length := fun s e => by
    rw [h.len]
    have z := (List.getElem?_eq_some_iff.mp e).1
    rw [List.length_set] at z
    exact z
  refine ⟨h1.le, h1.fl, by rw [List.length_set, List.length_set]; exact h.len, fun j s e => ?_, fun j k s t e1 e2 o1 o2 q => ?_⟩
  · rcases get_set e with ⟨rfl, rfl⟩ | ⟨nj, e'⟩
    · exact ⟨p, o, by rw [List.getElem?_set_self (lt _ e)], g, h.le.fresh n, hp, hc⟩
    · rw [List.getElem?_set_ne nj]
      exact h1.ok j s e'
  · rcases get_set e1 with ⟨rfl, rfl⟩ | ⟨n1, e1'⟩
    · rcases get_set e2 with ⟨rfl, rfl⟩ | ⟨n2, e2'⟩
      · rfl
      · rw [List.getElem?_set_self (lt _ e1), List.getElem?_set_ne n2] at q
        exact absurd q.symm (other k t e2' o2)
    · rcases get_set e2 with ⟨rfl, rfl⟩ | ⟨n2, e2'⟩
      · rw [List.getElem?_set_self (lt _ e2), List.getElem?_set_ne n1] at q
        exact absurd q (other j s e1' o1)
      · rw [List.getElem?_set_ne n1, List.getElem?_set_ne n2] at q
        exact h.sep j k s t e1' e2' o1 o2 q
/-- the object in a slot is changed -/
theorem Holds.mut {c c' : Oc} {pq : Option Addr} {p : Addr} {o' : HO} {i : Nat} (h : Holds E G H σ Γ) (e : Γ[i]? = some (.ow c pq)) (hp : σ[i]? = some (some (.ref p))) (hc : c'.rel G o') : Holds E G (upd H p o') σ (Γ.set i (.ow c' pq)) := by
  obtain ⟨p1, o1, k1, k2, k3, k4, k5⟩ := h.ow e
  have ep : p1 = p := by
    rw [hp] at k1
    cases k1
    rfl
  subst ep
  refine ⟨⟨h.le.g, fun a u q => ?_, fun a u q => ?_, h.le.new, h.le.m⟩, h.fl, by rw [List.length_set]; exact h.len, fun j s q => ?_, fun j k s t e1 e2 w1 w2 q => ?_⟩
  · by_cases z : a = p1
    · subst z
      rcases k3.or with m | m
      · exact .inr ⟨m, _, upd_same⟩
      · rw [m] at q
        cases q
    · rw [upd_ne z]
      exact h.le.h a u q
  · have z : a ≠ p1 := fun z => by
      subst z
      rw [k2] at q
      cases q
    rw [upd_ne z]
    exact h.le.gh a u q
  · rcases get_set q with ⟨rfl, rfl⟩ | ⟨n, q⟩
    · exact ⟨p1, o', hp, k2, k3, upd_same, hc⟩
    · have w := h.ok j s q
      cases s with
      | no => trivial
      | sh r a => exact w
      | ow c2 q2 =>
        obtain ⟨p2, o2, w1, w2, w3, w4, w5⟩ := w
        have np : p2 ≠ p1 := fun z => by
          subst z
          exact n (h.sep i j _ _ e q rfl rfl (by rw [hp, w1]))
        exact ⟨p2, o2, w1, w2, w3, by rw [upd_ne np]; exact w4, w5⟩
  · have back : ∀ (j : Nat) (s : Slot), (Γ.set i (.ow c' pq))[j]? = some s → s.isOw = true → ∃ s', Γ[j]? = some s' ∧ s'.isOw = true := fun j s q w => by
      rcases get_set q with ⟨rfl, rfl⟩ | ⟨n, q⟩
      · exact ⟨_, e, rfl⟩
      · exact ⟨_, q, w⟩
    obtain ⟨s', q1, q2⟩ := back j s e1 w1
    obtain ⟨t', q3, q4⟩ := back k t e2 w2
    exact h.sep j k s' t' q1 q3 q2 q4 q
/-- another floor -/
theorem Holds.floor (h : Holds E G H σ Γ) {F : Hp} (e : Ex F G) : Holds { E with F := F } G H σ Γ := by
  refine ⟨h.le, e, h.len, fun i s q => ?_, h.sep⟩
  have k := h.ok i s q
  cases s with
  | no => trivial
  | sh r a => exact k
  | ow c q => exact k
theorem Holds.unfloor {F : Hp} (h : Holds { E with F := F } G H σ Γ) (e : Ex E.F G) : Holds E G H σ Γ := by
  refine ⟨h.le, e, h.len, fun i s q => ?_, h.sep⟩
  have k := h.ok i s q
  cases s with
  | no => trivial
  | sh r a => exact k
  | ow c q => exact k
/-- less is known of a slot -/
theorem Holds.weak {Γ' : List Slot} (h : Holds E G H σ Γ) (l : Γ'.length = Γ.length) (w : ∀ (i : Nat) (s : Slot), Γ'[i]? = some s → s = .no ∨ Γ[i]? = some s) : Holds E G H σ Γ' :=
  ⟨h.le, h.fl, by rw [l]; exact h.len, fun i s e => by
    rcases w i s e with rfl | q
    · trivial
    · exact h.ok i s q, fun i j s t e1 e2 w1 w2 q => by
    rcases w i s e1 with rfl | q1
    · cases w1
    · rcases w j t e2 with rfl | q2
      · cases w2
      · exact h.sep i j s t q1 q2 w1 w2 q⟩
end

/-! ### weakest preconditions -/
section
variable (X : Cx)
structure WE (e : Expr) (σ : L2.St) (H : Hp) (Q : VK) : Prop where
  run : ∀ (pins : List (Addr × Obj)) (s : Shared), Inv X pins σ H s → wpAny (model X.prog X.w) X.A (eval e X.env) (EP X pins σ Q) X.xe s
structure WT (e : Expr) (σ : L2.St) (H : Hp) (Q : Bool → Hp → Prop) : Prop where
  run : ∀ (pins : List (Addr × Obj)) (s : Shared), Inv X pins σ H s → wpAny (model X.prog X.w) X.A (isTrue e X.env (eval e X.env)) (TP X pins σ Q) X.xe s
structure WW (e : Expr) (σ : L2.St) (H : Hp) (Q : Bool → Hp → Prop) : Prop where
  run : ∀ (whole : Sem Value) (pins : List (Addr × Obj)) (s : Shared), Inv X pins σ H s → wpAny (model X.prog X.w) X.A (isTrue e X.env whole) (TP X pins σ Q) X.xe s
structure WA (es : List Expr) (σ : L2.St) (H : Hp) (Q : List V → Hp → Prop) : Prop where
  run : ∀ (pos : Pos) (pins : List (Addr × Obj)) (s : Shared), Inv X pins σ H s → wpAny (model X.prog X.w) X.A (spliced (backTo pos (starEach es X.env))) (AP X pins σ Q) X.xe s
structure WS (st : Stmt) (σ : L2.St) (H : Hp) (D : Ends) : Prop where
  run : ∀ (pins : List (Addr × Obj)) (s : Shared), Inv X pins σ H s → wpAny (model X.prog X.w) X.A (exec st X.env) (SP X pins D) X.xe s
structure WB (st : List Stmt) (σ : L2.St) (H : Hp) (D : Ends) : Prop where
  run : ∀ (pins : List (Addr × Obj)) (s : Shared), Inv X pins σ H s → wpAny (model X.prog X.w) X.A (execs st X.env) (SP X pins D) X.xe s
end
section
variable {X : Cx} {e : Expr} {es : List Expr} {st : Stmt} {sts : List Stmt} {σ : L2.St} {H : Hp}
theorem WE.pe : PE X e (WE X e) := ⟨fun pins s σ H Q I h => h.run pins s I⟩
theorem WT.pt : PT X e (WT X e) := ⟨fun pins s σ H Q I h => h.run pins s I⟩
theorem WW.pw : PW X e (WW X e) := ⟨fun w pins s σ H Q I h => h.run w pins s I⟩
theorem WA.pa : PA X es (WA X es) := ⟨fun pos pins s σ H Q I h => h.run pos pins s I⟩
theorem WS.ps : PS X st (fun D σ H => WS X st σ H D) := ⟨fun pins s σ H D I h => h.run pins s I⟩
theorem WB.pss : PSs X sts (fun D σ H => WB X sts σ H D) := ⟨fun pins s σ H D I h => h.run pins s I⟩
theorem WE.of {t : TE} {Q : VK} (p : PE X e t) (h : t σ H Q) : WE X e σ H Q := ⟨fun pins s I => p.run pins s σ H Q I h⟩
theorem WT.of {t : TT} {Q : Bool → Hp → Prop} (p : PT X e t) (h : t σ H Q) : WT X e σ H Q := ⟨fun pins s I => p.run pins s σ H Q I h⟩
theorem WW.of {t : TT} {Q : Bool → Hp → Prop} (p : PW X e t) (h : t σ H Q) : WW X e σ H Q := ⟨fun w pins s I => p.run w pins s σ H Q I h⟩
theorem WA.of {t : TA} {Q : List V → Hp → Prop} (p : PA X es t) (h : t σ H Q) : WA X es σ H Q := ⟨fun pos pins s I => p.run pos pins s σ H Q I h⟩
theorem WS.of {t : TS} {D : Ends} (p : PS X st t) (h : t D σ H) : WS X st σ H D := ⟨fun pins s I => p.run pins s σ H D I h⟩
theorem WB.of {t : TS} {D : Ends} (p : PSs X sts t) (h : t D σ H) : WB X sts σ H D := ⟨fun pins s I => p.run pins s σ H D I h⟩
theorem WE.mono {Q Q' : VK} (h : WE X e σ H Q) (k : ∀ v H', Q v H' → Q' v H') : WE X e σ H Q' := ⟨fun pins s I => thn (h.run pins s I) fun _ _ ⟨v, H', I', r, q⟩ => ⟨v, H', I', r, k v H' q⟩⟩
theorem WT.mono {Q Q' : Bool → Hp → Prop} (h : WT X e σ H Q) (k : ∀ v H', Q v H' → Q' v H') : WT X e σ H Q' := ⟨fun pins s I => thn (h.run pins s I) fun _ _ ⟨H', I', q⟩ => ⟨H', I', k _ H' q⟩⟩
end

/-! ### what an expression is worth -/
section
variable (X : Cx) (Γ : List Slot)
/-- worth a, told by r; nothing else changes -/
def Ev (e : Expr) {α : Type} (r : Rp α) (a : α) : Prop := ∀ (E : Ent) (G H : Hp) (σ : L2.St), Holds E G H σ Γ → ∀ Q : VK, (∀ v G' H', Le G H G' H' → r.rel G' v a → Q v H') → WE X e σ H Q
/-- a new object that may change -/
def EvO (e : Expr) (c : Oc) : Prop := ∀ (E : Ent) (G H : Hp) (σ : L2.St), Holds E G H σ Γ → ∀ Q : VK, (∀ p o G' H', H p = none → Le G H G' H' → G' p = none → H' p = some o → c.rel G' o → Q (.ref p) H') → WE X e σ H Q
/-- an object that may change, to be looked at -/
def EvB (e : Expr) (c : Oc) : Prop := ∀ (E : Ent) (G H : Hp) (σ : L2.St), Holds E G H σ Γ → ∀ Q : VK, (∀ p o G' H', Le G H G' H' → H' p = some o → c.rel G' o → Q (.ref p) H') → WE X e σ H Q
def EvT (e : Expr) (b : Bool) : Prop := ∀ (E : Ent) (G H : Hp) (σ : L2.St), Holds E G H σ Γ → ∀ Q : Bool → Hp → Prop, (∀ G' H', Le G H G' H' → Q b H') → WT X e σ H Q
def EvW (e : Expr) (b : Bool) : Prop := ∀ (E : Ent) (G H : Hp) (σ : L2.St), Holds E G H σ Γ → ∀ Q : Bool → Hp → Prop, (∀ G' H', Le G H G' H' → Q b H') → WW X e σ H Q
end
/-- a typed value -/
structure Ty : Type 1 where
  {α : Type}
  r : Rp α
  a : α
def Args (G : Hp) : List V → List Ty → Prop
  | [], [] => True
  | v :: vs, t :: ts => t.r.rel G v t.a ∧ Args G vs ts
  | _, _ => False
theorem Args.mono {G G' : Hp} (e : Ex G G') : ∀ {vs : List V} {ts : List Ty}, Args G vs ts → Args G' vs ts
  | [], [], h => h
  | _ :: _, t :: _, h => ⟨t.r.mono e h.1, Args.mono e h.2⟩
def EvA (X : Cx) (Γ : List Slot) (es : List Expr) (ts : List Ty) : Prop := ∀ (E : Ent) (G H : Hp) (σ : L2.St), Holds E G H σ Γ → ∀ Q : List V → Hp → Prop, (∀ vs G' H', Le G H G' H' → Args G' vs ts → Q vs H') → WA X es σ H Q
section
variable {X : Cx} {Γ : List Slot} {e a b c : Expr} {es : List Expr} {pos : Pos} {α β γ : Type} {r : Rp α} {x : α}
theorem Ev.eq {y : α} (h : Ev X Γ e r x) (q : x = y) : Ev X Γ e r y := q ▸ h
theorem EvT.eq {y z : Bool} (h : EvT X Γ e y) (q : y = z) : EvT X Γ e z := q ▸ h
theorem ea_nil : EvA X Γ [] [] := fun E G H σ h Q q => WA.of pa_nil (q [] G H (.refl h.le.gh) trivial)
theorem ea_cons {t : Ty} {ts : List Ty} (ha : Ev X Γ e t.r t.a) (hr : EvA X Γ es ts) (hs : starEach (e :: es) X.env = (false, eval e X.env) :: starEach es X.env := by rfl) : EvA X Γ (e :: es) (t :: ts) := fun E G H σ h Q q =>
  WA.of (pa_cons WE.pe WA.pa hs) (ha E G H σ h _ fun v G1 H1 l1 r1 => hr E G1 H1 σ (h.step l1) _ fun vs G2 H2 l2 r2 => q _ G2 H2 (l1.trans l2) ⟨t.r.mono l2.g r1, r2⟩)
theorem EvO.bor {c : Oc} (h : EvO X Γ e c) : EvB X Γ e c := fun E G H σ hh Q q => h E G H σ hh Q fun p o G' H' _ l _ h2 h3 => q p o G' H' l h2 h3
/-- a new list is frozen -/
theorem EvO.ev {as : List α} (h : EvO X Γ e (oLst r as)) : Ev X Γ e (rLst r) as := fun E G H σ hh Q q => h E G H σ hh Q fun p o G' H' n l g h2 ⟨vs, e1, h3⟩ => by
  subst e1
  exact q _ (upd G' p (.lst vs)) H' (l.frz h2 n g) ⟨p, vs, rfl, upd_same, h3.mono (Evl.Ex.new g)⟩
/-- a frozen list, looked at -/
theorem Ev.bor {as : List α} (h : Ev X Γ e (rLst r) as) : EvB X Γ e (oLst r as) := fun E G H σ hh Q q => h E G H σ hh Q fun v G' H' l ⟨p, vs, e1, h2, h3⟩ => by
  subst e1
  exact q p _ G' H' l (l.gh _ _ h2) ⟨vs, rfl, h3⟩
theorem ev_v (i : Nat) {y : Str} (hg : Γ[i]? = some (.sh r x) := by rfl) (hN : X.N[i]? = some y := by rfl) (hv : Vis X.env.scope y := by first | exact Or.inl rfl | exact Or.inr (Or.inl rfl) | exact Or.inr (Or.inr rfl)) (hd : (y == ("__debug__" : Str)) = false := by decide)
    (hcd : (y == ("__classdict__" : Str)) = false := by decide) : Ev X Γ (.Name y pos) r x := fun E G H σ h Q q => by
  obtain ⟨v, h1, h2⟩ := h.sh hg
  exact WE.of (pe_var hN hv hd hcd) ⟨v, h1, q v G H (.refl h.le.gh) h2⟩
theorem eb_v (i : Nat) {y : Str} {c : Oc} {pq : Option Addr} (hg : Γ[i]? = some (.ow c pq) := by rfl) (hN : X.N[i]? = some y := by rfl) (hv : Vis X.env.scope y := by first | exact Or.inl rfl | exact Or.inr (Or.inl rfl) | exact Or.inr (Or.inr rfl)) (hd : (y == ("__debug__" : Str)) = false := by decide)
    (hcd : (y == ("__classdict__" : Str)) = false := by decide) : EvB X Γ (.Name y pos) c := fun E G H σ h Q q => by
  obtain ⟨p, o, h1, h2, h3, h4, h5⟩ := h.ow hg
  exact WE.of (pe_var hN hv hd hcd) ⟨_, h1, q p o G H (.refl h.le.gh) h4 h5⟩
theorem ev_int {i : Int} {j : Nat} : Ev X Γ (.Constant (.int i) j pos) rInt i := fun E G H σ h Q q => WE.of pe_int (q _ G H (.refl h.le.gh) rfl)
theorem ev_bool {i : Bool} {j : Nat} : Ev X Γ (.Constant (.bool i) j pos) rBool i := fun E G H σ h Q q => WE.of pe_bl (q _ G H (.refl h.le.gh) rfl)
theorem ev_str {i : Str} {j : Nat} : Ev X Γ (.Constant (.str i) j pos) rStr i := fun E G H σ h Q q => WE.of pe_str (q _ G H (.refl h.le.gh) rfl)
theorem ev_none {j : Nat} : Ev X Γ (.Constant .none j pos) (rOpt r) none := fun E G H σ h Q q => WE.of pe_non (q _ G H (.refl h.le.gh) rfl)
theorem ev_unit {j : Nat} : Ev X Γ (.Constant .none j pos) rNon () := fun E G H σ h Q q => WE.of pe_non (q _ G H (.refl h.le.gh) rfl)
theorem ev_some (h : Ev X Γ e r x) : Ev X Γ e (rOpt r) (some x) := fun E G H σ hh Q q => h E G H σ hh Q fun v G' H' l k => q v G' H' l k
end
end Hf

namespace Hf
open PySem PySem.Spec PyProof.Rows L2

/-! ### operators -/
section
variable {X : Cx} {Γ : List Slot} {e f g : Expr} {es : List Expr} {pos : Pos} {α β γ δ : Type} {r : Rp α} {x : α} {s : Rp β} {y : β} {t : Rp γ} {z : γ} {i j : Int} {p q : Bool} {u v : Str}
/-- what an operator by values gives -/
def Gives (ρ : R2) (r : Rp α) (x : α) (s : Rp β) (y : β) (t : Rp γ) (z : γ) : Prop := ∀ (G H : Hp) (a b : V), Ex G H → r.rel G a x → s.rel G b y → ∀ Q : VK, (∀ c G' H', Le G H G' H' → t.rel G' c z → Q c H') → ρ a b H Q
theorem ev_bin {op : Operator} {ρ : R2} (ho : OpR X (binaryOp op) ρ) (ha : Ev X Γ e r x) (hb : Ev X Γ f s y) (hs : Gives ρ r x s y t z) : Ev X Γ (.BinOp e op f pos) t z := fun E G H σ h Q k =>
  WE.of (pe_op ho WE.pe WE.pe) (ha E G H σ h _ fun a G1 H1 l1 r1 => hb E G1 H1 σ (h.step l1) _ fun b G2 H2 l2 r2 => hs G2 H2 a b l2.gh (r.mono l2.g r1) r2 Q fun c G3 H3 l3 r3 => k c G3 H3 ((l1.trans l2).trans l3) r3)
theorem ev_cmpR {op : CmpOp} {ρ : R2} (ho : OpR X (compareOp op) ρ) (ha : Ev X Γ e r x) (hb : Ev X Γ f s y) (hs : Gives ρ r x s y t z) (hm : behindInMarks op f = false := by first | exact nobehind _ (by decide) (by decide) | rfl) : Ev X Γ (.Compare e [op] [f] pos) t z := fun E G H σ h Q k =>
  WE.of (pe_cmpR ho WE.pe WE.pe hm) (ha E G H σ h _ fun a G1 H1 l1 r1 => hb E G1 H1 σ (h.step l1) _ fun b G2 H2 l2 r2 => hs G2 H2 a b l2.gh (r.mono l2.g r1) r2 Q fun c G3 H3 l3 r3 => k c G3 H3 ((l1.trans l2).trans l3) r3)
theorem et_cmpR {op : CmpOp} {ρ : R2} (ho : OpR X (compareOp op) ρ) (ha : Ev X Γ e r x) (hb : Ev X Γ f s y) (hs : Gives ρ r x s y rBool p) (hm : behindInMarks op f = false := by first | exact nobehind _ (by decide) (by decide) | rfl) : EvT X Γ (.Compare e [op] [f] pos) p := fun E G H σ h Q k =>
  WT.of (pt_cmpR ho WE.pe WE.pe hm) (ha E G H σ h _ fun a G1 H1 l1 r1 => hb E G1 H1 σ (h.step l1) _ fun b G2 H2 l2 r2 => hs G2 H2 a b l2.gh (r.mono l2.g r1) r2 _ fun c G3 H3 l3 r3 => ⟨p, r3, k G3 H3 ((l1.trans l2).trans l3)⟩)
theorem gv_I0 {F : Int → Int → V} {k : Rp γ} (h : ∀ G, k.rel G (F i j) z) : Gives (rI0 F) rInt i rInt j k z := fun G H a b e h1 h2 Q q => ⟨i, j, h1, h2, q _ G H (.refl e) (h G)⟩
theorem gv_I {C : Int → Int → Prop} {F : Int → Int → V} {k : Rp γ} (c : C i j) (h : ∀ G, k.rel G (F i j) z) : Gives (rI C F) rInt i rInt j k z := fun G H a b e h1 h2 Q q => ⟨i, j, h1, h2, c, q _ G H (.refl e) (h G)⟩
theorem ev_add (ha : Ev X Γ e rInt i) (hb : Ev X Γ f rInt j) : Ev X Γ (.BinOp e .Add f pos) rInt (i + j) := ev_bin op_add ha hb (gv_I0 fun _ => rfl)
theorem ev_sub (ha : Ev X Γ e rInt i) (hb : Ev X Γ f rInt j) : Ev X Γ (.BinOp e .Sub f pos) rInt (i - j) := ev_bin op_sub ha hb (gv_I0 fun _ => rfl)
/-- a product: the left | the right one is small -/
theorem ev_mulL (hc : -(2 ^ 64) < i ∧ i < 2 ^ 64) (ha : Ev X Γ e rInt i) (hb : Ev X Γ f rInt j) : Ev X Γ (.BinOp e .Mult f pos) rInt (i * j) := ev_bin op_mul ha hb (gv_I (.inl hc) fun _ => rfl)
theorem ev_mulR (hc : -(2 ^ 64) < j ∧ j < 2 ^ 64) (ha : Ev X Γ e rInt i) (hb : Ev X Γ f rInt j) : Ev X Γ (.BinOp e .Mult f pos) rInt (i * j) := ev_bin op_mul ha hb (gv_I (.inr hc) fun _ => rfl)
theorem ev_mulW (hc : CMulW i j) (ha : Ev X Γ e rInt i) (hb : Ev X Γ f rInt j) : Ev X Γ (.BinOp e .Mult f pos) rInt (i * j) := ev_bin op_mulW ha hb (gv_I hc fun _ => rfl)
theorem ev_div (hc : 0 < j ∧ j < 1073741824) (ha : Ev X Γ e rInt i) (hb : Ev X Γ f rInt j) : Ev X Γ (.BinOp e .FloorDiv f pos) rInt (i / j) := ev_bin op_fdiv ha hb (gv_I hc fun _ => rfl)
theorem ev_divW (hc : CDivW i j) (ha : Ev X Γ e rInt i) (hb : Ev X Γ f rInt j) : Ev X Γ (.BinOp e .FloorDiv f pos) rInt (i / j) := ev_bin op_fdivW ha hb (gv_I hc fun _ => rfl)
theorem ev_mod (hc : 0 < j) (ha : Ev X Γ e rInt i) (hb : Ev X Γ f rInt j) : Ev X Γ (.BinOp e .Mod f pos) rInt (i % j) := ev_bin op_mod ha hb (gv_I hc fun _ => rfl)
theorem ev_pow (hc : CPow i j) (ha : Ev X Γ e rInt i) (hb : Ev X Γ f rInt j) : Ev X Γ (.BinOp e .Pow f pos) rInt (i ^ j.toNat) := ev_bin op_pow ha hb (gv_I hc fun _ => rfl)
theorem ev_neg (ha : Ev X Γ e rInt i) : Ev X Γ (.UnaryOp .USub e pos) rInt (-i) := fun E G H σ h Q k =>
  WE.of (pe_un un_neg WE.pe) (ha E G H σ h _ fun a G1 H1 l1 r1 => ⟨i, r1, k _ G1 H1 l1 rfl⟩)
theorem ev_cat (hl : u.length + v.length ≤ sizeLine) (ha : Ev X Γ e rStr u) (hb : Ev X Γ f rStr v) : Ev X Γ (.BinOp e .Add f pos) rStr (u ++ v) := ev_bin op_add_str ha hb fun G H a b e h1 h2 Q q => ⟨u, v, h1, h2, hl, q _ G H (.refl e) rfl⟩
/-- comparisons of ints -/
theorem ev_lt (ha : Ev X Γ e rInt i) (hb : Ev X Γ f rInt j) : Ev X Γ (.Compare e [.Lt] [f] pos) rBool (decide (i < j)) := ev_cmpR op_lt ha hb (gv_I0 fun _ => rfl)
theorem ev_le (ha : Ev X Γ e rInt i) (hb : Ev X Γ f rInt j) : Ev X Γ (.Compare e [.LtE] [f] pos) rBool (decide (i ≤ j)) := ev_cmpR op_le ha hb (gv_I0 fun _ => rfl)
theorem ev_gt (ha : Ev X Γ e rInt i) (hb : Ev X Γ f rInt j) : Ev X Γ (.Compare e [.Gt] [f] pos) rBool (decide (j < i)) := ev_cmpR op_gt ha hb (gv_I0 fun _ => rfl)
theorem ev_ge (ha : Ev X Γ e rInt i) (hb : Ev X Γ f rInt j) : Ev X Γ (.Compare e [.GtE] [f] pos) rBool (decide (j ≤ i)) := ev_cmpR op_ge ha hb (gv_I0 fun _ => rfl)
theorem et_lt (ha : Ev X Γ e rInt i) (hb : Ev X Γ f rInt j) : EvT X Γ (.Compare e [.Lt] [f] pos) (decide (i < j)) := et_cmpR op_lt ha hb (gv_I0 fun _ => rfl)
theorem et_le (ha : Ev X Γ e rInt i) (hb : Ev X Γ f rInt j) : EvT X Γ (.Compare e [.LtE] [f] pos) (decide (i ≤ j)) := et_cmpR op_le ha hb (gv_I0 fun _ => rfl)
theorem et_gt (ha : Ev X Γ e rInt i) (hb : Ev X Γ f rInt j) : EvT X Γ (.Compare e [.Gt] [f] pos) (decide (j < i)) := et_cmpR op_gt ha hb (gv_I0 fun _ => rfl)
theorem et_ge (ha : Ev X Γ e rInt i) (hb : Ev X Γ f rInt j) : EvT X Γ (.Compare e [.GtE] [f] pos) (decide (j ≤ i)) := et_cmpR op_ge ha hb (gv_I0 fun _ => rfl)
/-- == of flat things -/
theorem gv_eqI : Gives rEq rInt i rInt j rBool (decide (i = j)) := fun G H a b e h1 h2 Q q => by
  cases h1; cases h2
  refine ⟨rfl, q _ G H (.refl e) ?_⟩
  show V.bl _ = V.bl _
  congr 1
  exact decide_eq_decide.mpr (by constructor <;> (intro h; first | (cases h; rfl) | (rw [h])))
theorem gv_neI : Gives rNe rInt i rInt j rBool (!decide (i = j)) := fun G H a b e h1 h2 Q q => by
  cases h1; cases h2
  refine ⟨rfl, q _ G H (.refl e) ?_⟩
  show V.bl _ = V.bl _
  congr 2
  exact decide_eq_decide.mpr (by constructor <;> (intro h; first | (cases h; rfl) | (rw [h])))
theorem gv_eqS : Gives rEq rStr u rStr v rBool (decide (u = v)) := fun G H a b e h1 h2 Q q => by
  cases h1; cases h2
  refine ⟨rfl, q _ G H (.refl e) ?_⟩
  show V.bl _ = V.bl _
  congr 1
  exact decide_eq_decide.mpr (by constructor <;> (intro h; first | (cases h; rfl) | (rw [h])))
theorem gv_neS : Gives rNe rStr u rStr v rBool (!decide (u = v)) := fun G H a b e h1 h2 Q q => by
  cases h1; cases h2
  refine ⟨rfl, q _ G H (.refl e) ?_⟩
  show V.bl _ = V.bl _
  congr 2
  exact decide_eq_decide.mpr (by constructor <;> (intro h; first | (cases h; rfl) | (rw [h])))
theorem gv_eqB : Gives rEq rBool p rBool q rBool (p == q) := fun G H a b e h1 h2 Q k => by
  cases h1; cases h2
  refine ⟨rfl, k _ G H (.refl e) ?_⟩
  cases p <;> cases q <;> rfl
theorem gv_neB : Gives rNe rBool p rBool q rBool (p != q) := fun G H a b e h1 h2 Q k => by
  cases h1; cases h2
  refine ⟨rfl, k _ G H (.refl e) ?_⟩
  cases p <;> cases q <;> rfl
theorem ev_eqI (ha : Ev X Γ e rInt i) (hb : Ev X Γ f rInt j) : Ev X Γ (.Compare e [.Eq] [f] pos) rBool (decide (i = j)) := ev_cmpR op_eq ha hb gv_eqI
theorem ev_neI (ha : Ev X Γ e rInt i) (hb : Ev X Γ f rInt j) : Ev X Γ (.Compare e [.NotEq] [f] pos) rBool (!decide (i = j)) := ev_cmpR op_ne ha hb gv_neI
theorem et_eqI (ha : Ev X Γ e rInt i) (hb : Ev X Γ f rInt j) : EvT X Γ (.Compare e [.Eq] [f] pos) (decide (i = j)) := et_cmpR op_eq ha hb gv_eqI
theorem et_neI (ha : Ev X Γ e rInt i) (hb : Ev X Γ f rInt j) : EvT X Γ (.Compare e [.NotEq] [f] pos) (!decide (i = j)) := et_cmpR op_ne ha hb gv_neI
theorem ev_eqS (ha : Ev X Γ e rStr u) (hb : Ev X Γ f rStr v) : Ev X Γ (.Compare e [.Eq] [f] pos) rBool (decide (u = v)) := ev_cmpR op_eq ha hb gv_eqS
theorem ev_neS (ha : Ev X Γ e rStr u) (hb : Ev X Γ f rStr v) : Ev X Γ (.Compare e [.NotEq] [f] pos) rBool (!decide (u = v)) := ev_cmpR op_ne ha hb gv_neS
theorem et_eqS (ha : Ev X Γ e rStr u) (hb : Ev X Γ f rStr v) : EvT X Γ (.Compare e [.Eq] [f] pos) (decide (u = v)) := et_cmpR op_eq ha hb gv_eqS
theorem et_neS (ha : Ev X Γ e rStr u) (hb : Ev X Γ f rStr v) : EvT X Γ (.Compare e [.NotEq] [f] pos) (!decide (u = v)) := et_cmpR op_ne ha hb gv_neS
theorem ev_eqB (ha : Ev X Γ e rBool p) (hb : Ev X Γ f rBool q) : Ev X Γ (.Compare e [.Eq] [f] pos) rBool (p == q) := ev_cmpR op_eq ha hb gv_eqB
theorem ev_neB (ha : Ev X Γ e rBool p) (hb : Ev X Γ f rBool q) : Ev X Γ (.Compare e [.NotEq] [f] pos) rBool (p != q) := ev_cmpR op_ne ha hb gv_neB
theorem et_eqB (ha : Ev X Γ e rBool p) (hb : Ev X Γ f rBool q) : EvT X Γ (.Compare e [.Eq] [f] pos) (p == q) := et_cmpR op_eq ha hb gv_eqB
theorem et_neB (ha : Ev X Γ e rBool p) (hb : Ev X Γ f rBool q) : EvT X Γ (.Compare e [.NotEq] [f] pos) (p != q) := et_cmpR op_ne ha hb gv_neB
/-- two comparisons in a chain -/
theorem ev_chain {op op' : CmpOp} {ρ ρ' : R2} (ho : OpR X (compareOp op) ρ) (ho' : OpR X (compareOp op') ρ') (ha : Ev X Γ e r x) (hb : Ev X Γ f s y) (hc : p = true → Ev X Γ g t z) (h1 : Gives ρ r x s y rBool p) (h2 : p = true → Gives ρ' s y t z rBool q)
    (hm : lastMarks [op, op'] [f, g] = false := by with_unfolding_all rfl) : Ev X Γ (.Compare e [op, op'] [f, g] pos) rBool (p && q) := fun E G H σ h Q k =>
  WE.of (pe_chain ho ho' WE.pe WE.pe WE.pe hm) (ha E G H σ h _ fun a G1 H1 l1 r1 => hb E G1 H1 σ (h.step l1) _ fun b G2 H2 l2 r2 => h1 G2 H2 a b l2.gh (r.mono l2.g r1) r2 _ fun c G3 H3 l3 r3 => ⟨p, r3, by
    have l := (l1.trans l2).trans l3
    cases p with
    | false =>
      rw [if_neg Bool.false_ne_true]
      exact k _ G3 H3 l rfl
    | true =>
      rw [if_pos rfl]
      exact hc rfl E G3 H3 σ (h.step l) _ fun d G4 H4 l4 r4 => h2 rfl G4 H4 b d l4.gh (s.mono (l3.trans l4).g r2) r4 Q fun c G5 H5 l5 r5 => k c G5 H5 ((l.trans l4).trans l5) r5⟩)
theorem et_chain {op op' : CmpOp} {ρ ρ' : R2} (ho : OpR X (compareOp op) ρ) (ho' : OpR X (compareOp op') ρ') (ha : Ev X Γ e r x) (hb : Ev X Γ f s y) (hc : p = true → Ev X Γ g t z) (h1 : Gives ρ r x s y rBool p) (h2 : p = true → Gives ρ' s y t z rBool q)
    (hm : lastMarks [op, op'] [f, g] = false := by with_unfolding_all rfl) : EvT X Γ (.Compare e [op, op'] [f, g] pos) (p && q) := fun E G H σ h Q k =>
  WT.of (pt_chain ho ho' WE.pe WE.pe WE.pe hm) (ha E G H σ h _ fun a G1 H1 l1 r1 => hb E G1 H1 σ (h.step l1) _ fun b G2 H2 l2 r2 => h1 G2 H2 a b l2.gh (r.mono l2.g r1) r2 _ fun c G3 H3 l3 r3 => ⟨p, r3, by
    have l := (l1.trans l2).trans l3
    cases p with
    | false =>
      rw [if_neg Bool.false_ne_true]
      exact ⟨false, rfl, k G3 H3 l⟩
    | true =>
      rw [if_pos rfl]
      exact hc rfl E G3 H3 σ (h.step l) _ fun d G4 H4 l4 r4 => h2 rfl G4 H4 b d l4.gh (s.mono (l3.trans l4).g r2) r4 _ fun c G5 H5 l5 r5 => ⟨q, r5, k G5 H5 ((l.trans l4).trans l5)⟩⟩)
theorem gv_lt : Gives (rI0 fun i j => .bl (decide (i < j))) rInt i rInt j rBool (decide (i < j)) := gv_I0 fun _ => rfl
theorem gv_le : Gives (rI0 fun i j => .bl (decide (i ≤ j))) rInt i rInt j rBool (decide (i ≤ j)) := gv_I0 fun _ => rfl
theorem gv_gt : Gives (rI0 fun i j => .bl (decide (j < i))) rInt i rInt j rBool (decide (j < i)) := gv_I0 fun _ => rfl
theorem gv_ge : Gives (rI0 fun i j => .bl (decide (j ≤ i))) rInt i rInt j rBool (decide (j ≤ i)) := gv_I0 fun _ => rfl

/-! ### tests, and, or, not -/
theorem et_val (h : Ev X Γ e rBool p) (he : ∀ whole, isTrue e X.env whole = (do let v ← whole; standAt e.pos; holding [v] (truthy v)) := by intro _; rfl) : EvT X Γ e p := fun E G H σ hh Q k =>
  WT.of (pt_val WE.pe he) (h E G H σ hh _ fun a G1 H1 l1 r1 => ⟨p, r1, k G1 H1 l1⟩)
theorem et_not (h : EvT X Γ e p) : EvT X Γ (.UnaryOp .Not e pos) (!p) := fun E G H σ hh Q k => WT.of (pt_not WT.pt) (h E G H σ hh _ fun G1 H1 l1 => k G1 H1 l1)
theorem ev_not (h : Ev X Γ e rBool p) : Ev X Γ (.UnaryOp .Not e pos) rBool (!p) := fun E G H σ hh Q k => WE.of (pe_not WE.pe) (h E G H σ hh _ fun a G1 H1 l1 r1 => ⟨p, r1, k _ G1 H1 l1 rfl⟩)
theorem et_bool (h : EvW X Γ e p) : EvT X Γ e p := fun E G H σ hh Q k => WT.of WW.pw.pt (h E G H σ hh Q k)
theorem ew_and1 (h : EvT X Γ e p) : EvW X Γ (.BoolOp .And [e] pos) p := fun E G H σ hh Q k => WW.of (pw_and1 WT.pt) (h E G H σ hh Q k)
theorem ew_or1 (h : EvT X Γ e p) : EvW X Γ (.BoolOp .Or [e] pos) p := fun E G H σ hh Q k => WW.of (pw_or1 WT.pt) (h E G H σ hh Q k)
theorem ew_and (h : EvT X Γ e p) (h2 : p = true → EvW X Γ (.BoolOp .And (f :: es) pos) q) : EvW X Γ (.BoolOp .And (e :: f :: es) pos) (p && q) := fun E G H σ hh Q k => WW.of (pw_and WT.pt WW.pw) (h E G H σ hh _ fun G1 H1 l1 => by
  cases p with
  | false =>
    rw [if_neg Bool.false_ne_true]
    exact k G1 H1 l1
  | true =>
    rw [if_pos rfl]
    exact h2 rfl E G1 H1 σ (hh.step l1) Q fun G2 H2 l2 => k G2 H2 (l1.trans l2))
theorem ew_or (h : EvT X Γ e p) (h2 : p = false → EvW X Γ (.BoolOp .Or (f :: es) pos) q) : EvW X Γ (.BoolOp .Or (e :: f :: es) pos) (p || q) := fun E G H σ hh Q k => WW.of (pw_or WT.pt WW.pw) (h E G H σ hh _ fun G1 H1 l1 => by
  cases p with
  | true =>
    rw [if_pos rfl]
    exact k G1 H1 l1
  | false =>
    rw [if_neg Bool.false_ne_true]
    exact h2 rfl E G1 H1 σ (hh.step l1) Q fun G2 H2 l2 => k G2 H2 (l1.trans l2))
theorem ev_one {op : BoolOp} (h : Ev X Γ e r x) : Ev X Γ (.BoolOp op [e] pos) r x := fun E G H σ hh Q k => WE.of (pe_one WE.pe) (h E G H σ hh Q k)
theorem ev_and (h : Ev X Γ e rBool p) (h2 : p = true → Ev X Γ (.BoolOp .And (f :: es) pos) rBool q) : Ev X Γ (.BoolOp .And (e :: f :: es) pos) rBool (p && q) := fun E G H σ hh Q k => WE.of (pe_and WE.pe WE.pe) (h E G H σ hh _ fun a G1 H1 l1 r1 => ⟨p, r1, by
  cases p with
  | false =>
    rw [if_neg Bool.false_ne_true]
    exact k _ G1 H1 l1 rfl
  | true =>
    rw [if_pos rfl]
    exact h2 rfl E G1 H1 σ (hh.step l1) Q fun a G2 H2 l2 r2 => k a G2 H2 (l1.trans l2) r2⟩)
theorem ev_or (h : Ev X Γ e rBool p) (h2 : p = false → Ev X Γ (.BoolOp .Or (f :: es) pos) rBool q) : Ev X Γ (.BoolOp .Or (e :: f :: es) pos) rBool (p || q) := fun E G H σ hh Q k => WE.of (pe_or WE.pe WE.pe) (h E G H σ hh _ fun a G1 H1 l1 r1 => ⟨p, r1, by
  cases p with
  | true =>
    rw [if_pos rfl]
    exact k _ G1 H1 l1 rfl
  | false =>
    rw [if_neg Bool.false_ne_true]
    exact h2 rfl E G1 H1 σ (hh.step l1) Q fun a G2 H2 l2 r2 => k a G2 H2 (l1.trans l2) r2⟩)
theorem ev_ifE {x' : α} (h : EvT X Γ e p) (h1 : p = true → Ev X Γ f r x) (h2 : p = false → Ev X Γ g r x') : Ev X Γ (.IfExp e f g pos) r (if p = true then x else x') := fun E G H σ hh Q k => WE.of (pe_ifExp WT.pt WE.pe WE.pe) (h E G H σ hh _ fun G1 H1 l1 => by
  cases p with
  | true =>
    rw [if_pos rfl] at k ⊢
    exact h1 rfl E G1 H1 σ (hh.step l1) Q fun a G2 H2 l2 r2 => k a G2 H2 (l1.trans l2) r2
  | false =>
    rw [if_neg Bool.false_ne_true] at k ⊢
    exact h2 rfl E G1 H1 σ (hh.step l1) Q fun a G2 H2 l2 r2 => k a G2 H2 (l1.trans l2) r2)
/-- an arm that is taken for sure -/
theorem ev_ifT (h : EvT X Γ e true) (h1 : Ev X Γ f r x) : Ev X Γ (.IfExp e f g pos) r x := (ev_ifE (x' := x) (g := g) h (fun _ => h1) (fun q => by cases q)).eq (if_pos rfl)
theorem ev_ifF (h : EvT X Γ e false) (h1 : Ev X Γ g r x) : Ev X Γ (.IfExp e f g pos) r x := (ev_ifE (x := x) (f := f) h (fun q => by cases q) (fun _ => h1)).eq (if_neg Bool.false_ne_true)
end
end Hf

namespace Hf
open PySem PySem.Spec PyProof.Rows L2

/-! ### blocks of statements -/
/-- from any state that these slots tell, the block leads where D wants -/
def Bk (X : Cx) (E : Ent) (Γ : List Slot) (sts : List Stmt) (D : Ends) : Prop := ∀ (G H : Hp) (σ : L2.St), Holds E G H σ Γ → WB X sts σ H D
/-- some state that these slots tell -/
def At (E : Ent) (Γ : List Slot) (σ : L2.St) (H : Hp) : Prop := ∃ G, Holds E G H σ Γ
/-- what comes behind a block -/
abbrev thenD (X : Cx) (rest : List Stmt) (D : Ends) : Ends := { D with nx := fun σ H => WB X rest σ H D }
/-- an answer is told -/
def RetOk (E : Ent) (D : Ends) {α : Type} (r : Rp α) (a : α) : Prop := ∀ v G H, LeE E.G E.H E.M G H → r.rel G v a → D.rt v H
/-- an answer that is a new object -/
def RetO (E : Ent) (D : Ends) (c : Oc) : Prop := ∀ p o G H, LeE E.G E.H E.M G H → G p = none → E.H p = none → H p = some o → c.rel G o → D.rt (.ref p) H
section
variable {X : Cx} {E : Ent} {Γ Γ' : List Slot} {D : Ends} {e f g : Expr} {es : List Expr} {st : Stmt} {rest body : List Stmt} {pos : Pos} {α β γ : Type} {r : Rp α} {x : α} {s : Rp β} {y : β} {t : Rp γ} {z : γ}
theorem RetOk.eq {x' : α} (h : RetOk E D r x) (q : x = x') : RetOk E D r x' := q ▸ h
theorem bk_end (h : ∀ G H σ, Holds E G H σ Γ → D.nx σ H) : Bk X E Γ [] D := fun G H σ hh => WB.of pss_nil (h G H σ hh)
/-- the end of an inner block: on with what follows -/
theorem bk_then (h : Bk X E Γ rest D) : Bk X E Γ [] (thenD X rest D) := bk_end h
theorem bk_at (h : ∀ σ H, At E Γ σ H → D.nx σ H) : Bk X E Γ [] D := bk_end fun G H σ hh => h σ H ⟨G, hh⟩
theorem bk_of {t : TS} (p : PS X st t) (h : ∀ G H σ, Holds E G H σ Γ → t (thenD X rest D) σ H) : Bk X E Γ (st :: rest) D := fun G H σ hh => WB.of (pss_cons p WB.pss) (h G H σ hh)
theorem bk_weak (h : Bk X E Γ' rest D) (l : Γ'.length = Γ.length) (w : ∀ (i : Nat) (s : Slot), Γ'[i]? = some s → s = .no ∨ Γ[i]? = some s) : Bk X E Γ rest D := fun G H σ hh => h G H σ (hh.weak l w)
/-- x = e -/
theorem bk_set (i : Nat) {a : Str} {p : Pos} (nd : X.N.Nodup) (he : Ev X Γ e r x) (k : Bk X E (Γ.set i (.sh r x)) rest D) (hi : X.N[i]? = some a := by rfl) (hx : Loc X.env.scope a := by first | exact Or.inl rfl | exact Or.inr rfl)
    (hs : swapsWith e (some (.Name a p)) pos.line X.env = pure false := by rfl) (hf : X.fn a = true ∨ X.env.scope.names.lookup a = some .local := by first | exact .inl rfl | exact .inr rfl) : Bk X E Γ (.Assign [.Name a p] e pos :: rest) D :=
  bk_of (ps_set nd hi hx WE.pe hs hf) fun G H σ hh => he E G H σ hh _ fun v G1 H1 l1 r1 => k G1 H1 _ ((hh.step l1).set_sh r1)
/-- x = e, e a new object that will change -/
theorem bk_setO (i : Nat) {a : Str} {p : Pos} {c : Oc} (nd : X.N.Nodup) (he : EvO X Γ e c) (k : Bk X E (Γ.set i (.ow c)) rest D) (hi : X.N[i]? = some a := by rfl) (hx : Loc X.env.scope a := by first | exact Or.inl rfl | exact Or.inr rfl)
    (hs : swapsWith e (some (.Name a p)) pos.line X.env = pure false := by rfl) (hf : X.fn a = true ∨ X.env.scope.names.lookup a = some .local := by first | exact .inl rfl | exact .inr rfl) : Bk X E Γ (.Assign [.Name a p] e pos :: rest) D :=
  bk_of (ps_set nd hi hx WE.pe hs hf) fun G H σ hh => he E G H σ hh _ fun q o G1 H1 n l1 g1 h1 c1 => k G1 H1 _ (hh.set_ow l1 n g1 h1 c1)
theorem bk_ret (he : Ev X Γ e r x) (k : RetOk E D r x) : Bk X E Γ (.Return (some e) pos :: rest) D :=
  bk_of (ps_ret WE.pe) fun G H σ hh => he E G H σ hh _ fun v G1 H1 l1 r1 => k v G1 H1 (hh.step l1).le r1
theorem bk_retO {c : Oc} (he : EvO X Γ e c) (k : RetO E D c) : Bk X E Γ (.Return (some e) pos :: rest) D :=
  bk_of (ps_ret WE.pe) fun G H σ hh => he E G H σ hh _ fun q o G1 H1 n l1 g1 h1 c1 => k q o G1 H1 (hh.step l1).le g1 (hh.le.fresh n) h1 c1
/-- a list of one's own is handed back -/
theorem bk_retv (i : Nat) {a : Str} {c : Oc} {p : Pos} (k : RetO E D c) (hg : Γ[i]? = some (.ow c) := by rfl) (hN : X.N[i]? = some a := by rfl) (hv : Vis X.env.scope a := by first | exact Or.inl rfl | exact Or.inr (Or.inl rfl) | exact Or.inr (Or.inr rfl))
    (hd : (a == ("__debug__" : Str)) = false := by decide) (hcd : (a == ("__classdict__" : Str)) = false := by decide) : Bk X E Γ (.Return (some (.Name a p)) pos :: rest) D :=
  bk_of (ps_ret (pe_var hN hv hd hcd)) fun G H σ hh => by
    obtain ⟨q, o, h1, h2, h3, h4, h5⟩ := hh.ow hg
    exact ⟨_, h1, k q o G H hh.le h2 h3 h4 h5⟩
theorem bk_if {c : Expr} {A B : List Stmt} {p : Bool} (hc : EvT X Γ c p) (ha : p = true → Bk X E Γ A (thenD X rest D)) (hb : p = false → Bk X E Γ B (thenD X rest D)) : Bk X E Γ (.If c A B pos :: rest) D :=
  bk_of (ps_if WT.pt WB.pss WB.pss) fun G H σ hh => hc E G H σ hh _ fun G1 H1 l1 => by
    cases p with
    | true =>
      rw [if_pos rfl]
      exact ha rfl G1 H1 σ (hh.step l1)
    | false =>
      rw [if_neg Bool.false_ne_true]
      exact hb rfl G1 H1 σ (hh.step l1)
theorem bk_expr (he : Ev X Γ e r x) (k : Bk X E Γ rest D) (hs : swapsWith e none pos.line X.env = pure false := by rfl) : Bk X E Γ (.Expr e pos :: rest) D :=
  bk_of (ps_expr WE.pe hs) fun G H σ hh => he E G H σ hh _ fun v G1 H1 l1 r1 => k G1 H1 _ (hh.step l1)
/-- x, y = a, b -/
theorem bk_par (i j : Nat) {a b : Str} {e1 e2 : Expr} {px py pt : Pos} {kt k2 : Nat} {pt2 : Pos} (nd : X.N.Nodup) (h1 : Ev X Γ e1 r x) (h2 : Ev X Γ e2 s y) (k : Bk X E ((Γ.set i (.sh r x)).set j (.sh s y)) rest D) (hc : X.calm = true := by rfl) (hi : X.N[i]? = some a := by rfl) (hj : X.N[j]? = some b := by rfl) (hij : i ≠ j := by decide)
    (hx : X.env.scope.names.lookup a = some .local := by rfl) (hy : X.env.scope.names.lookup b = some .local := by rfl) (hs1 : starEach (e1 :: [e2]) X.env = (false, eval e1 X.env) :: starEach [e2] X.env := by rfl) (hs2 : starEach (e2 :: []) X.env = (false, eval e2 X.env) :: starEach [] X.env := by rfl)
    (hw : swappedStores [.Tuple [.Name a px, .Name b py] kt pt] (.Tuple [e1, e2] k2 pt2) X.env = pure (some [a, b]) := by rfl)
    (hs : swapsWithSole [.Tuple [.Name a px, .Name b py] kt pt] (.Tuple [e1, e2] k2 pt2) pos.line X.env = pure false := by rfl) : Bk X E Γ (.Assign [.Tuple [.Name a px, .Name b py] kt pt] (.Tuple [e1, e2] k2 pt2) pos :: rest) D :=
  bk_of (ps_par hc nd hi hj hij hx hy (pa_cons WE.pe (pa_cons WE.pe pa_nil hs2) hs1) hw hs) fun G H σ hh => h1 E G H σ hh _ fun v G1 H1 l1 r1 => h2 E G1 H1 σ (hh.step l1) _ fun w G2 H2 l2 r2 =>
    ⟨v, w, rfl, k G2 H2 _ ((((hh.step l1).step l2).set_sh (r.mono l2.g r1)).set_sh r2)⟩

/-! ### where a value is stored -/
/-- alike but at these places -/
def SameBut (vs : List Nat) (σ σ' : L2.St) : Prop := σ'.length = σ.length ∧ ∀ i, i ∉ vs → σ'[i]? = σ[i]?
theorem SameBut.set {i : Nat} {x : Option V} {σ : L2.St} : SameBut [i] σ (σ.set i x) := ⟨by rw [List.length_set], fun j hj => by
  rw [List.getElem?_set_ne]
  intro e
  exact hj (by simp [e])⟩
theorem SameBut.trans {vs ws : List Nat} {σ σ' σ'' : L2.St} (a : SameBut vs σ σ') (b : SameBut ws σ' σ'') : SameBut (vs ++ ws) σ σ'' := ⟨b.1.trans a.1, fun i hi => by
  rw [List.mem_append, not_or] at hi
  rw [b.2 i hi.2, a.2 i hi.1]⟩
/-- a store by a rule -/
structure WG (X : Cx) (tg : Expr) (v : V) (σ : L2.St) (H : Hp) (Q : L2.St → Hp → Prop) : Prop where
  run : ∀ (pins : List (Addr × Obj)) (s : Shared) (u : Value), Inv X pins σ H s → RelV v u → wpAny (model X.prog X.w) X.A (assign tg X.env u) (fun _ s' => ∃ σ' H', Inv X pins σ' H' s' ∧ Q σ' H') X.xe s
theorem WG.pg {X : Cx} {tg : Expr} : PG X tg (WG X tg) := ⟨fun pins s σ H v u Q I r h => h.run pins s u I r⟩
theorem WG.of {X : Cx} {tg : Expr} {t : TG} {v : V} {σ : L2.St} {H : Hp} {Q : L2.St → Hp → Prop} (p : PG X tg t) (h : t v σ H Q) : WG X tg v σ H Q := ⟨fun pins s u I r => p.run pins s σ H v u Q I r h⟩
def TgOk (X : Cx) (tg : Expr) (r : Rp α) (U : α → List Slot → List Slot) (vs : List Nat) : Prop := ∀ (E : Ent) (G H : Hp) (σ : L2.St) (Γ : List Slot) (v : V) (a : α), Holds E G H σ Γ → r.rel G v a → ∀ Q : L2.St → Hp → Prop, (∀ σ', SameBut vs σ σ' → Holds E G H σ' (U a Γ) → Q σ' H) → WG X tg v σ H Q
theorem tg_name (i : Nat) {a : Str} (nd : X.N.Nodup) (hi : X.N[i]? = some a := by rfl) (hx : Loc X.env.scope a := by first | exact Or.inl rfl | exact Or.inr rfl) (hf : X.fn a = true ∨ X.env.scope.names.lookup a = some .local := by first | exact .inl rfl | exact .inr rfl) :
    TgOk X (.Name a pos) r (fun a Γ => Γ.set i (.sh r a)) [i] := fun E G H σ Γ v a hh hv Q q => WG.of (pg_name nd hi hx hf) (q _ .set (hh.set_sh hv))
theorem tg_tup2 {t1 t2 : Expr} {n : Nat} {U : α → List Slot → List Slot} {W : β → List Slot → List Slot} {vs ws : List Nat} (h1 : TgOk X t1 r U vs) (h2 : TgOk X t2 s W ws) (hc : X.calm = true := by rfl) (hs1 : (assignEach (t1 :: [t2]) X.env).map (·.2) = assign t1 X.env :: (assignEach [t2] X.env).map (·.2) := by rfl)
    (hs2 : (assignEach (t2 :: []) X.env).map (·.2) = assign t2 X.env :: (assignEach [] X.env).map (·.2) := by rfl) (hn : (assignEach [t1, t2] X.env).length = 2 := by rfl) (hst : (assignEach [t1, t2] X.env).findIdx? (·.1) = none := by rfl) :
    TgOk X (.Tuple [t1, t2] n pos) (rT2 X.K r s) (fun a Γ => W a.2 (U a.1 Γ)) (vs ++ ws) := fun E G H σ Γ v a hh hv Q q => by
  obtain ⟨p, v1, v2, e, hp, q1, q2⟩ := hv
  subst e
  refine WG.of (pg_tup hc (pgs_cons (t := WG X t1) WG.pg (pgs_cons (t := WG X t2) WG.pg pgs_nil hs2) hs1) hn hst) ⟨p, [v1, v2], rfl, Evl.ex_t hh.le.gh hp, rfl, v1, [v2], rfl, ?_⟩
  exact h1 E G H σ Γ v1 a.1 hh q1 _ fun σ1 b1 hh1 => ⟨v2, [], rfl, h2 E G H σ1 _ v2 a.2 hh1 q2 _ fun σ2 b2 hh2 => ⟨rfl, q σ2 (b1.trans b2) hh2⟩⟩

/-! ### what is walked -/
/-- the items that an iterator gives, one behind another, whatever else is done meanwhile -/
def ItOk (J : It) (G0 : Hp) (r : Rp α) (xs : List α) : Prop := ∀ (i : Nat) (G H : Hp), Ex G0 G → Ex G H →
  (∀ a, xs[i]? = some a → J.go i H ∧ ∀ x H', J.yld i H x H' → ∃ G', Le G H G' H' ∧ r.rel G' x a) ∧ (xs.length ≤ i → J.stop i H)
def EvI (X : Cx) (Γ : List Slot) (tg iter : Expr) (r : Rp α) (xs : List α) : Prop := ∃ wi : TI, PI X tg iter wi ∧ ∀ (E : Ent) (G H : Hp) (σ : L2.St), Holds E G H σ Γ → ∀ R : It → Hp → Prop, (∀ J G' H', Le G H G' H' → ItOk J G' r xs → R J H') → wi σ H R
theorem ei_seq {tg : Expr} {xs : List α} (h : Ev X Γ e (rSeq X.K r) xs) : EvI X Γ tg e r xs := ⟨_, pi_list WE.pe, fun E G H σ hh R q => h E G H σ hh _ fun v G1 H1 l1 ⟨p, vs, e1, hp, ha⟩ =>
  ⟨p, e1, ⟨vs, Evl.ex_l l1.gh hp⟩, q _ G1 H1 l1 fun i G2 H2 g1 g2 => ⟨fun a ea => by
    obtain ⟨v, ev, rv⟩ := ha.get ea
    have hp2 := Evl.ex_l (g1.trans g2) hp
    exact ⟨⟨vs, v, hp2, ev⟩, fun x H' y => by
      obtain ⟨e3, y2⟩ := y
      have e4 := y2 vs hp2
      rw [ev] at e4
      cases e4
      rw [e3]
      exact ⟨G2, .refl g2, r.mono g1 rv⟩⟩, fun le => ⟨vs, Evl.ex_l (g1.trans g2) hp, by rw [ha.length]; exact le⟩⟩⟩⟩
theorem Ev.seq {xs : List α} (h : Ev X Γ e (rLst r) xs) : Ev X Γ e (rSeq X.K r) xs := fun E G H σ hh Q q => h E G H σ hh Q fun v G1 H1 l1 ⟨p, vs, e1, hp, ha⟩ => q v G1 H1 l1 ⟨p, vs, e1, .inl (.inl hp), ha⟩
theorem ei_lst {tg : Expr} {xs : List α} (h : Ev X Γ e (rLst r) xs) : EvI X Γ tg e r xs := ei_seq h.seq
/-- range(n) -/
def rangeL (lo : Int) (n : Nat) : List Int := (List.range n).map fun i : Nat => lo + (i : Int)
theorem ei_range1 {tg : Expr} {p : Pos} {n : Int} (h : Ev X Γ e rInt n) (hn : -(2 ^ 62) ≤ n ∧ n < 2 ^ 62) (hm : X.mg "range" = none) (hg : Gl X "range" := by rfl) (hs : starEach [e] X.env = [(false, eval e X.env)] := by rfl) (hs2 : starEach (e :: []) X.env = (false, eval e X.env) :: starEach [] X.env := by rfl) :
    EvI X Γ tg (.Call (.Name "range" p) [e] [] pos) rInt (rangeL 0 n.toNat) := ⟨_, pi_range1 hg hm (pa_cons WE.pe pa_nil hs2) hs, fun E G H σ hh R q => h E G H σ hh _ fun v G1 H1 l1 r1 => by
  refine ⟨n, by rw [show v = _ from r1], hn.1, hn.2, q _ G1 H1 l1 fun i G2 H2 g1 g2 => ⟨fun a ea => ?_, fun le => ?_⟩⟩
  · have lt : i < n.toNat := by
      have z := (List.getElem?_eq_some_iff.mp ea).1
      simpa [rangeL] using z
    refine ⟨lt, fun x H' y => ?_⟩
    obtain ⟨e1, e2⟩ := y
    subst e1
    refine ⟨G2, .refl g2, ?_⟩
    have : a = 0 + (i : Int) := by
      rw [rangeL, List.getElem?_map, List.getElem?_range lt] at ea
      exact (Option.some.inj ea).symm
    rw [e2, this]
    rfl
  · have z : (rangeL 0 n.toNat).length = n.toNat := by simp [rangeL]
    rw [z] at le
    exact le⟩

/-! ### for -/
/-- for: I tells what holds of the data that the turns change, mk the slots -/
theorem bk_for {S : Type} {tg : Expr} {U : α → List Slot → List Slot} {vs : List Nat} {xs : List α} (mk : S → List Slot) (I : Nat → S → Prop) (s0 : S) (hp : PassesOwn (model X.prog X.w) X.A X.env X.xe) (hi : EvI X Γ tg e r xs) (ht : TgOk X tg r U vs)
    (h0 : I 0 s0) (hΓ : ∀ G H σ, Holds E G H σ Γ → Holds E G H σ (mk s0))
    (step : ∀ F i s a, xs[i]? = some a → I i s → Bk X { E with F := F } (U a (mk s)) body { D with nx := fun σ H => ∃ s', I (i + 1) s' ∧ At { E with F := F } (mk s') σ H, ct := fun σ H => ∃ s', I (i + 1) s' ∧ At { E with F := F } (mk s') σ H, bk := fun σ H => WB X rest σ H D })
    (done : ∀ s, I xs.length s → Bk X E (mk s) rest D) (hc : X.calm = true := by rfl) (hs : ∀ x, foldedSetIterable e X.env x = pure x := by intro _; rfl) : Bk X E Γ (.For tg e body [] pos :: rest) D := by
  obtain ⟨wi, pi, hwi⟩ := hi
  refine bk_of (ps_for hp hc pi (WG.pg (tg := tg)) WB.pss hs) fun G H σ hh => hwi E G H σ hh _ fun J G1 H1 l1 it => ?_
  refine ⟨fun i m σ H => m = xs.length - i ∧ i ≤ xs.length ∧ ∃ s G, I i s ∧ Holds { E with F := G1 } G H σ (mk s), ⟨xs.length, by simp, Nat.zero_le _, s0, G1, h0, (hΓ _ _ _ (hh.step l1)).floor (.refl _)⟩, ?_⟩
  rintro i m σ H ⟨rfl, hi, s, G2, hs, hh2⟩
  obtain ⟨go, stop⟩ := it i G2 H hh2.fl hh2.le.gh
  by_cases lt : i < xs.length
  · obtain ⟨g, y⟩ := go xs[i] (by simp [lt])
    refine .inr ⟨g, fun σ' H' => ∃ s', I (i + 1) s' ∧ At { E with F := G1 } (mk s') σ' H', fun σ' H' ⟨s', i', G', h'⟩ => ⟨xs.length - (i + 1), by omega, rfl, lt, s', G', i', h'⟩, fun x H' yy => ?_⟩
    obtain ⟨G3, l3, rx⟩ := y x H' yy
    refine ht { E with F := G1 } G3 H' σ (mk s) x _ (hh2.step l3) rx _ fun σ3 _ hh3 => ?_
    exact step G1 i s xs[i] (by simp [lt]) hs G3 H' σ3 hh3
  · have e : i = xs.length := by omega
    subst e
    exact .inl ⟨stop (Nat.le_refl _), done s hs G2 H σ (hh2.unfloor ((hh.step l1).fl.trans hh2.fl))⟩
/-- the end of a turn -/
theorem bk_next {S : Type} {mk : S → List Slot} {I : Nat → S → Prop} {i : Nat} (s' : S) (hI : I (i + 1) s') (l : (mk s').length = Γ.length) (w : ∀ (i : Nat) (s : Slot), (mk s')[i]? = some s → s = .no ∨ Γ[i]? = some s) {bk ct : L2.St → Hp → Prop} {rt : VK} :
    Bk X E Γ [] { nx := fun σ H => ∃ s', I (i + 1) s' ∧ At E (mk s') σ H, rt := rt, bk := bk, ct := ct } := bk_end fun G H σ hh => ⟨s', hI, G, hh.weak l w⟩
end
end Hf

namespace Hf
open PySem PySem.Spec PyProof.Rows L2

/-! ### what a def promises, by data -/
/-- a def that only reads: ι the data, Pre what is asked of it, args the arguments, the answer told by r -/
def PSp {ι : Type} (Pre : ι → Prop) (args : ι → List Ty) {α : Type} (r : Rp α) (res : ι → α) : Sp := fun vs H Q _ => ∃ (x : ι) (G : Hp), Pre x ∧ Ex G H ∧ Args G vs (args x) ∧ ∀ v G' H', Le G H G' H' → r.rel G' v (res x) → Q v H'
/-- the same, the answer a new object that may change -/
def OSp {ι : Type} (Pre : ι → Prop) (args : ι → List Ty) (c : ι → Oc) : Sp := fun vs H Q _ => ∃ (x : ι) (G : Hp), Pre x ∧ Ex G H ∧ Args G vs (args x) ∧ ∀ p o G' H', H p = none → Le G H G' H' → G' p = none → H' p = some o → (c x).rel G' o → Q (.ref p) H'
theorem args_length {G : Hp} : ∀ {vs : List V} {ts : List Ty}, Args G vs ts → vs.length = ts.length
  | [], [], _ => rfl
  | _ :: _, _ :: _, h => congrArg (· + 1) (args_length h.2)
/-- slots at the entry -/
def slots0 (ts : List Ty) (n : Nat) : List Slot := ts.map (fun t => Slot.sh t.r t.a) ++ List.replicate n .no
theorem args_get {G : Hp} : ∀ {vs : List V} {ts : List Ty} {i : Nat} {t : Ty}, Args G vs ts → ts[i]? = some t → ∃ v, vs[i]? = some v ∧ t.r.rel G v t.a
  | [], [], i, t, _, e => by cases e
  | _ :: _, _ :: _, 0, t, h, e => ⟨_, rfl, by cases e; exact h.1⟩
  | _ :: _, _ :: _, i + 1, t, h, e => args_get (i := i) h.2 e
theorem holds_start {G H : Hp} {N : List Str} {vs : List V} {ts : List Ty} (e : Ex G H) (a : Args G vs ts) (hn : ts.length ≤ N.length) : Holds { G := G, H := H } G H (L2.start N vs) (slots0 ts (N.length - ts.length)) := by
  have hl := args_length a
  refine ⟨.start e, (fun a o q => by cases q), ?_, fun i s q => ?_, fun i j s t q1 q2 w1 w2 => ?_⟩
  · unfold L2.start slots0
    simp only [List.length_append, List.length_map, List.length_replicate]
    omega
  · unfold slots0 at q
    by_cases lt : i < ts.length
    · rw [List.getElem?_append_left (by simpa using lt), List.getElem?_map] at q
      cases w : ts[i]? with
      | none =>
        rw [w] at q
        cases q
      | some t =>
        rw [w] at q
        cases q
        obtain ⟨v, h1, h2⟩ := args_get a w
        refine ⟨v, ?_, h2⟩
        unfold L2.start
        rw [List.getElem?_append_left (by rw [List.length_map, hl]; exact lt), List.getElem?_map, h1]
        rfl
    · rw [List.getElem?_append_right (by simpa using lt)] at q
      have z := List.mem_of_getElem? q
      rw [List.mem_replicate] at z
      rw [z.2]
      trivial
  · have none : ∀ (i : Nat) (s : Slot), (slots0 ts (N.length - ts.length))[i]? = some s → s.isOw = true → False := fun i s q w => by
      have z := List.mem_of_getElem? q
      unfold slots0 at z
      rcases List.mem_append.mp z with z | z
      · obtain ⟨t, _, e⟩ := List.mem_map.mp z
        rw [← e] at w
        cases w
      · rw [List.mem_replicate] at z
        rw [z.2] at w
        cases w
    exact (none i s q1 w1).elim

section
variable {P : Program} {w : World} {K : PySem.W.Frag} {mg : Str → Option Value} {base : Heap} {x qual : Str} {params : Arguments} {body : List Stmt} {scope : Scope} {dvs : List V} {kws : List (Str × V)} {f : Addr} {fd : FuncData}
abbrev CXL (P : Program) (w : World) : CXT := L2.CX P w
/-- a def that only reads keeps its promise -/
theorem fn_pure {N ps : List Str} {k : Nat} {ι : Type} {Pre : ι → Prop} {args : ι → List Ty} {α : Type} {r : Rp α} {res : ι → α} (F : FunD K x qual params body scope dvs kws f fd) (S : FnScope N ps scope) (hl : ∀ y, (args y).length = ps.length)
    (hb : ∀ (y : ι), Pre y → ∀ (cdv : Value) (A : Around) (outer : List Env) (s : Shared) (H : Hp) (E0 : XK) (G : Hp) (D : Ends), Room k (A.deeper (envOfC qual scope s.heap.objs.size f cdv)) → RetOk { G := G, H := H } D r (res y) → (∀ σ G' H', LeE G H (fun _ => False) G' H' → r.rel G' .non (res y) → D.nx σ H') →
      Bk (cxOf (CXL P w) P w K mg base N qual scope f cdv A outer s H E0) { G := G, H := H } (slots0 (args y) (N.length - ps.length)) body D) :
    FnOk P w K mg base (CXL P w) (k + 1) f fd ps (PSp Pre args r res) := by
  refine F.ok S (fun vs H Q E ⟨y, G, _, _, a, _⟩ => by rw [args_length a, hl]) fun cdv A outer s H vs Q E hr ⟨y, G, hp, e, a, hq⟩ => ⟨_, WB.pss, ?_⟩
  have h := holds_start (N := N) e a (by rw [hl]; have z := congrArg List.length S.pre; rw [List.length_take] at z; omega)
  rw [hl] at h
  exact hb y hp cdv A outer s H E G _ hr (fun v G' H' l rv => hq v G' H' (l.le fun _ z => z) rv) (fun σ G' H' l rv => hq _ G' H' (l.le fun _ z => z) rv) G H _ h
theorem fn_own {N ps : List Str} {k : Nat} {ι : Type} {Pre : ι → Prop} {args : ι → List Ty} {c : ι → Oc} (F : FunD K x qual params body scope dvs kws f fd) (S : FnScope N ps scope) (hl : ∀ y, (args y).length = ps.length)
    (hb : ∀ (y : ι), Pre y → ∀ (cdv : Value) (A : Around) (outer : List Env) (s : Shared) (H : Hp) (E0 : XK) (G : Hp) (D : Ends), Room k (A.deeper (envOfC qual scope s.heap.objs.size f cdv)) → RetO { G := G, H := H } D (c y) →
      Bk (cxOf (CXL P w) P w K mg base N qual scope f cdv A outer s H E0) { G := G, H := H } (slots0 (args y) (N.length - ps.length)) body D) :
    FnOk P w K mg base (CXL P w) (k + 1) f fd ps (OSp Pre args c) := by
  refine F.ok S (fun vs H Q E ⟨y, G, _, _, a, _⟩ => by rw [args_length a, hl]) fun cdv A outer s H vs Q E hr ⟨y, G, hp, e, a, hq⟩ => ⟨_, WB.pss, ?_⟩
  have h := holds_start (N := N) e a (by rw [hl]; have z := congrArg List.length S.pre; rw [List.length_take] at z; omega)
  rw [hl] at h
  exact hb y hp cdv A outer s H E G _ hr (fun p o G' H' l g n h1 h2 => hq p o G' H' n (l.le fun _ z => z) g h1 h2) G H _ h
end

/-! ### a def of the module, as callers see it -/
structure Has (P : Program) (w : World) (K : PySem.W.Frag) (mg : Str → Option Value) (base : Heap) (x : Str) (k : Nat) (sp : Sp) : Prop where
  ex : ∃ (f : Addr) (fd : FuncData) (ps : List Str) (spF : Sp) (dvs : List V) (ds : List Value), mg x = some (.ref f) ∧ PySem.W.keepIn K (.ref f) = true ∧ Binds K fd ps ds ∧ Vals dvs ds ∧ FnOk P w K mg base (CXL P w) k f fd ps spF ∧ ∀ vs H Q, sp vs H Q E0 → spF (vs ++ dvs) H Q E0
/-- all parameters written -/
theorem Has.mk0 {P : Program} {w : World} {K : PySem.W.Frag} {mg : Str → Option Value} {base : Heap} {x : Str} {k : Nat} {sp : Sp} {f : Addr} {fd : FuncData} {ps : List Str} (hm : mg x = some (.ref f)) (hk : PySem.W.keepIn K (.ref f) = true) (hb : Binds K fd ps []) (F : FnOk P w K mg base (CXL P w) k f fd ps sp) : Has P w K mg base x k sp :=
  ⟨f, fd, ps, sp, [], [], hm, hk, hb, .nil, F, fun vs H Q h => by rw [List.append_nil]; exact h⟩
section
variable {X : Cx} {Γ : List Slot} {e a : Expr} {es : List Expr} {pos p : Pos} {α ι : Type} {r : Rp α} {k j : Nat} {f : Str} {Pre : ι → Prop} {args : ι → List Ty} {res : ι → α} {c : ι → Oc}
theorem we_call {sp : Sp} {σ : L2.St} {H : Hp} {Q : VK} (h : Has X.prog X.w X.K X.mg X.base f k sp) (hr : Room j X.A) (hk : k ≤ j) (ha : WA X (e :: es) σ H fun vs H1 => sp vs H1 Q E0) (hg : Gl X f := by rfl) (hdb : (f == ("__debug__" : Str)) = false := by decide)
    (he : starEach (e :: es) X.env = (false, eval e X.env) :: starEach es X.env := by rfl) (hpl : (backTo pos (starEach es X.env)).any (·.1) = false := by rfl) : WE X (.Call (.Name f p) (e :: es) [] pos) σ H Q := by
  obtain ⟨f0, fd, ps, spF, dvs, ds, hm, hkp, hb, hd, F, hi⟩ := h.ex
  refine WE.of (pe_call F (hr.mono hk) hg hm hkp hb hd passL WA.pa hdb he hpl) ?_
  exact ⟨fun pos pins s I => thn (ha.run pos pins s I) fun us s1 ⟨vs, H1, I1, r1, q⟩ => ⟨vs, H1, I1, r1, hi vs H1 Q q⟩⟩
theorem we_call0 {sp : Sp} {σ : L2.St} {H : Hp} {Q : VK} (h : Has X.prog X.w X.K X.mg X.base f k sp) (hr : Room j X.A) (hk : k ≤ j) (ha : sp [] H Q E0) (hg : Gl X f := by rfl) (hdb : (f == ("__debug__" : Str)) = false := by decide) : WE X (.Call (.Name f p) [] [] pos) σ H Q := by
  obtain ⟨f0, fd, ps, spF, dvs, ds, hm, hkp, hb, hd, F, hi⟩ := h.ex
  exact WE.of (pe_call0 F (hr.mono hk) hg hm hkp hb hd passL hdb) (hi [] H Q ha)
/-- f(e, ..), a def that only reads -/
theorem ev_call {z : α} (h : Has X.prog X.w X.K X.mg X.base f k (PSp Pre args r res)) (hr : Room j X.A) (hk : k ≤ j) (y : ι) (hp : Pre y) (ha : EvA X Γ (e :: es) (args y)) (hz : res y = z := by rfl) (hg : Gl X f := by rfl) (hdb : (f == ("__debug__" : Str)) = false := by decide)
    (he : starEach (e :: es) X.env = (false, eval e X.env) :: starEach es X.env := by rfl) (hpl : (backTo pos (starEach es X.env)).any (·.1) = false := by rfl) : Ev X Γ (.Call (.Name f p) (e :: es) [] pos) r z := fun E G H σ hh Q q =>
  we_call h hr hk (ha E G H σ hh _ fun vs G1 H1 l1 a1 => ⟨y, G1, hp, l1.gh, a1, fun v G2 H2 l2 r2 => q v G2 H2 (l1.trans l2) (hz ▸ r2)⟩) hg hdb he hpl
theorem ev_call0 {z : α} (h : Has X.prog X.w X.K X.mg X.base f k (PSp Pre args r res)) (hr : Room j X.A) (hk : k ≤ j) (y : ι) (hp : Pre y) (ha : args y = []) (hz : res y = z := by rfl) (hg : Gl X f := by rfl) (hdb : (f == ("__debug__" : Str)) = false := by decide) : Ev X Γ (.Call (.Name f p) [] [] pos) r z := fun E G H σ hh Q q =>
  we_call0 h hr hk ⟨y, G, hp, hh.le.gh, by rw [ha]; trivial, fun v G2 H2 l2 r2 => q v G2 H2 l2 (hz ▸ r2)⟩ hg hdb
theorem eo_call {z : Oc} (h : Has X.prog X.w X.K X.mg X.base f k (OSp Pre args c)) (hr : Room j X.A) (hk : k ≤ j) (y : ι) (hp : Pre y) (ha : EvA X Γ (e :: es) (args y)) (hz : c y = z := by rfl) (hg : Gl X f := by rfl) (hdb : (f == ("__debug__" : Str)) = false := by decide)
    (he : starEach (e :: es) X.env = (false, eval e X.env) :: starEach es X.env := by rfl) (hpl : (backTo pos (starEach es X.env)).any (·.1) = false := by rfl) : EvO X Γ (.Call (.Name f p) (e :: es) [] pos) z := fun E G H σ hh Q q =>
  we_call h hr hk (ha E G H σ hh _ fun vs G1 H1 l1 a1 => ⟨y, G1, hp, l1.gh, a1, fun p o G2 H2 n l2 g h1 h2 => q p o G2 H2 (Evl.fresh_back l1.h n) (l1.trans l2) g h1 (hz ▸ h2)⟩) hg hdb he hpl
theorem eo_call0 {z : Oc} (h : Has X.prog X.w X.K X.mg X.base f k (OSp Pre args c)) (hr : Room j X.A) (hk : k ≤ j) (y : ι) (hp : Pre y) (ha : args y = []) (hz : c y = z := by rfl) (hg : Gl X f := by rfl) (hdb : (f == ("__debug__" : Str)) = false := by decide) : EvO X Γ (.Call (.Name f p) [] [] pos) z := fun E G H σ hh Q q =>
  we_call0 h hr hk ⟨y, G, hp, hh.le.gh, by rw [ha]; trivial, fun p o G2 H2 n l2 g h1 h2 => q p o G2 H2 n l2 g h1 (hz ▸ h2)⟩ hg hdb
end

/-! ### built-ins, displays, subscripts -/
def noSlice : Expr → Bool
  | .Slice .. => false
  | _ => true
theorem plain_of {f : Expr} (h : noSlice f = true) : PlainIx f := fun o i => by
  cases f <;> first | (cases h; done) | (unfold subscripted; rfl)
section
variable {X : Cx} {Γ : List Slot} {e f g : Expr} {es : List Expr} {pos p : Pos} {α β γ : Type} {r : Rp α} {x : α} {s : Rp β} {y : β} {t : Rp γ} {z : γ} {i j : Int} {as bs : List α} {u v : Str}
/-- [e, ..] -/
theorem eo_list {ts : List Ty} (h : EvA X Γ es ts) (hl : ts.length ≤ 100000) (hr : ∀ G vs, Args G vs ts → All2 r G vs as) : EvO X Γ (.List es pos) (oLst r as) := fun E G H σ hh Q q =>
  WE.of (pe_lst WA.pa) (h E G H σ hh _ fun vs G1 H1 l1 a1 => ⟨by rw [args_length a1]; exact Evl.sz_of hl, fun p n => q p _ G1 _ (Evl.fresh_back l1.h n) (l1.addO n) (Evl.fresh_back l1.gh n) upd_same ⟨vs, rfl, hr G1 vs a1⟩⟩)
/-- items of one kind -/
def tys (r : Rp α) (as : List α) : List Ty := as.map fun a => ⟨r, a⟩
theorem args_tys {G : Hp} : ∀ {vs : List V} {as : List α}, Args G vs (tys r as) → All2 r G vs as
  | [], [], _ => .nil
  | _ :: _, _ :: _, h => .cons h.1 (args_tys h.2)
theorem eo_lst (h : EvA X Γ es (tys r as)) (hl : as.length ≤ 100000) : EvO X Γ (.List es pos) (oLst r as) := eo_list h (by simpa [tys] using hl) fun _ _ => args_tys
theorem eo_nil : EvO X Γ (.List [] pos) (oLst r []) := eo_lst ea_nil (Nat.zero_le _)
/-- (a, b) -/
theorem ev_tup2 {n : Nat} (h : EvA X Γ es [⟨r, x⟩, ⟨s, y⟩]) : Ev X Γ (.Tuple es n pos) (rT2 X.K r s) (x, y) := fun E G H σ hh Q q =>
  WE.of (pe_tup WA.pa) (h E G H σ hh _ fun vs G1 H1 l1 a1 => by
    match vs, a1 with
    | [v1, v2], ⟨h1, h2, _⟩ =>
      exact ⟨by show 2 ≤ sizeLine; decide, fun p n => q _ (upd G1 p (.tup [v1, v2])) _ (l1.add n) ⟨p, v1, v2, rfl, .inl (.inl upd_same), r.mono (Evl.Ex.new (Evl.fresh_back l1.gh n)) h1, s.mono (Evl.Ex.new (Evl.fresh_back l1.gh n)) h2⟩⟩)
theorem ev_tup3 {n : Nat} (h : EvA X Γ es [⟨r, x⟩, ⟨s, y⟩, ⟨t, z⟩]) : Ev X Γ (.Tuple es n pos) (rT3 X.K r s t) (x, y, z) := fun E G H σ hh Q q =>
  WE.of (pe_tup WA.pa) (h E G H σ hh _ fun vs G1 H1 l1 a1 => by
    match vs, a1 with
    | [v1, v2, v3], ⟨h1, h2, h3, _⟩ =>
      exact ⟨by show 3 ≤ sizeLine; decide, fun p n => q _ (upd G1 p (.tup [v1, v2, v3])) _ (l1.add n) ⟨p, v1, v2, v3, rfl, .inl (.inl upd_same), r.mono (Evl.Ex.new (Evl.fresh_back l1.gh n)) h1, s.mono (Evl.Ex.new (Evl.fresh_back l1.gh n)) h2, t.mono (Evl.Ex.new (Evl.fresh_back l1.gh n)) h3⟩⟩)
/-- x[0], x[1] of a pair -/
theorem ev_fst {a : α × β} {k : Nat} {p2 : Pos} (h : Ev X Γ e (rT2 X.K r s) a) : Ev X Γ (.Subscript e (.Constant (.int 0) k p2) pos) r a.1 := fun E G H σ hh Q q =>
  WE.of (pe_ix ix_tup WE.pe pe_int (plain_of rfl)) (h E G H σ hh _ fun v G1 H1 l1 ⟨p, v1, v2, e1, hp, h1, h2⟩ => ⟨p, _, 0, v1, e1, rfl, Evl.ex_t l1.gh hp, rfl, q _ G1 H1 l1 h1⟩)
theorem ev_snd {a : α × β} {k : Nat} {p2 : Pos} (h : Ev X Γ e (rT2 X.K r s) a) : Ev X Γ (.Subscript e (.Constant (.int 1) k p2) pos) s a.2 := fun E G H σ hh Q q =>
  WE.of (pe_ix ix_tup WE.pe pe_int (plain_of rfl)) (h E G H σ hh _ fun v G1 H1 l1 ⟨p, v1, v2, e1, hp, h1, h2⟩ => ⟨p, _, 1, v2, e1, rfl, Evl.ex_t l1.gh hp, rfl, q _ G1 H1 l1 h2⟩)
/-- xs[i] -/
theorem ev_ixS {k : Nat} (h : Ev X Γ e (rSeq X.K r) as) (h2 : Ev X Γ f rInt (k : Int)) (hx : as[k]? = some x) (hs : PlainIx f := by exact plain_of rfl) : Ev X Γ (.Subscript e f pos) r x := fun E G H σ hh Q q =>
  WE.of (pe_ix ix_list WE.pe WE.pe hs) (h E G H σ hh _ fun v G1 H1 l1 ⟨p, vs, e1, hp, ha⟩ => h2 E G1 H1 σ (hh.step l1) _ fun w G2 H2 l2 r2 => by
    obtain ⟨a, ea, ra⟩ := ha.get hx
    exact ⟨p, vs, (k : Int), a, e1, r2, Evl.ex_l (l1.gh.trans l2.h) hp, atI_nat ea, q _ G2 H2 (l1.trans l2) (r.mono l2.g ra)⟩)
theorem ev_ix {k : Nat} (h : Ev X Γ e (rLst r) as) (h2 : Ev X Γ f rInt (k : Int)) (hx : as[k]? = some x) (hs : PlainIx f := by exact plain_of rfl) : Ev X Γ (.Subscript e f pos) r x := ev_ixS h.seq h2 hx hs
/-- of a list that may change -/
theorem ev_ixB {k : Nat} (h : EvB X Γ e (oLst r as)) (h2 : Ev X Γ f rInt (k : Int)) (hx : as[k]? = some x) (hs : PlainIx f := by exact plain_of rfl) : Ev X Γ (.Subscript e f pos) r x := fun E G H σ hh Q q =>
  WE.of (pe_ix ix_list WE.pe WE.pe hs) (h E G H σ hh _ fun p o G1 H1 l1 hp ⟨vs, e1, ha⟩ => h2 E G1 H1 σ (hh.step l1) _ fun w G2 H2 l2 r2 => by
    subst e1
    obtain ⟨a, ea, ra⟩ := ha.get hx
    exact ⟨p, vs, (k : Int), a, rfl, r2, .inl (.inl (l2.h _ _ hp)), atI_nat ea, q _ G2 H2 (l1.trans l2) (r.mono l2.g ra)⟩)
/-- len(xs) -/
theorem ev_lenS (h : Ev X Γ e (rSeq X.K r) as) (hm : X.mg "len" = none) (hg : Gl X "len" := by rfl) (he : starEach (e :: []) X.env = (false, eval e X.env) :: starEach [] X.env := by rfl) (hpl : (backTo pos (starEach [] X.env)).any (·.1) = false := by rfl) : Ev X Γ (.Call (.Name "len" p) [e] [] pos) rInt (as.length : Int) := fun E G H σ hh Q q =>
  WE.of (pe_callB call_len_seq hg hm PySem.boot_len (pa_cons WE.pe pa_nil he) (he := he) (hpl := hpl)) (h E G H σ hh _ fun v G1 H1 l1 ⟨p, vs, e1, hp, ha⟩ => ⟨p, vs, by rw [e1], .inl (Evl.ex_l l1.gh hp), by rw [ha.length]; exact q _ G1 H1 l1 rfl⟩)
theorem ev_len (h : Ev X Γ e (rLst r) as) (hm : X.mg "len" = none) (hg : Gl X "len" := by rfl) (he : starEach (e :: []) X.env = (false, eval e X.env) :: starEach [] X.env := by rfl) (hpl : (backTo pos (starEach [] X.env)).any (·.1) = false := by rfl) : Ev X Γ (.Call (.Name "len" p) [e] [] pos) rInt (as.length : Int) := ev_lenS h.seq hm hg he hpl
theorem ev_lenB (h : EvB X Γ e (oLst r as)) (hm : X.mg "len" = none) (hg : Gl X "len" := by rfl) (he : starEach (e :: []) X.env = (false, eval e X.env) :: starEach [] X.env := by rfl) (hpl : (backTo pos (starEach [] X.env)).any (·.1) = false := by rfl) : Ev X Γ (.Call (.Name "len" p) [e] [] pos) rInt (as.length : Int) := fun E G H σ hh Q q =>
  WE.of (pe_callB call_len_seq hg hm PySem.boot_len (pa_cons WE.pe pa_nil he) (he := he) (hpl := hpl)) (h E G H σ hh _ fun p o G1 H1 l1 hp ⟨vs, e1, ha⟩ => by
    subst e1
    exact ⟨p, vs, rfl, .inl (.inl (.inl hp)), by rw [ha.length]; exact q _ G1 H1 l1 rfl⟩)
/-- len of a text -/
theorem ev_lenT (h : Ev X Γ e rStr u) (hl : u.length ≤ sizeLine) (hm : X.mg "len" = none) (hg : Gl X "len" := by rfl) (he : starEach (e :: []) X.env = (false, eval e X.env) :: starEach [] X.env := by rfl) (hpl : (backTo pos (starEach [] X.env)).any (·.1) = false := by rfl) : Ev X Γ (.Call (.Name "len" p) [e] [] pos) rInt (u.length : Int) := fun E G H σ hh Q q =>
  WE.of (pe_callB call_len_str hg hm PySem.boot_len (pa_cons WE.pe pa_nil he) (he := he) (hpl := hpl)) (h E G H σ hh _ fun v G1 H1 l1 e1 => ⟨u, by rw [show v = _ from e1], hl, q _ G1 H1 l1 rfl⟩)
/-- xs + ys -/
theorem eo_cat (h : EvB X Γ e (oLst r as)) (h2 : EvB X Γ f (oLst r bs)) (hl : as.length + bs.length ≤ sizeLine) : EvO X Γ (.BinOp e .Add f pos) (oLst r (as ++ bs)) := fun E G H σ hh Q q =>
  WE.of (pe_op op_cat WE.pe WE.pe) (h E G H σ hh _ fun p o G1 H1 l1 hp ⟨vs, e1, ha⟩ => h2 E G1 H1 σ (hh.step l1) _ fun p2 o2 G2 H2 l2 hp2 ⟨ws, e2, hb⟩ => by
    subst e1 e2
    exact ⟨p, p2, vs, ws, rfl, rfl, l2.h _ _ hp, hp2, by rw [ha.length, hb.length]; exact hl, fun p3 n => q p3 _ G2 _ (Evl.fresh_back (l1.trans l2).h n) ((l1.trans l2).addO n) (Evl.fresh_back l2.gh n) upd_same ⟨vs ++ ws, rfl, (ha.mono l2.g).append hb⟩⟩)
/-- list(xs) -/
theorem eo_listOf (h : EvB X Γ e (oLst r as)) (hm : X.mg "list" = none) (hg : Gl X "list" := by rfl) (he : starEach (e :: []) X.env = (false, eval e X.env) :: starEach [] X.env := by rfl) (hpl : (backTo pos (starEach [] X.env)).any (·.1) = false := by rfl) : EvO X Γ (.Call (.Name "list" p) [e] [] pos) (oLst r as) := fun E G H σ hh Q q =>
  WE.of (pe_callTy call_list_of hg hm (by decide +kernel) (pa_cons WE.pe pa_nil he) (he := he) (hpl := hpl)) (h E G H σ hh _ fun p o G1 H1 l1 hp ⟨vs, e1, ha⟩ => by
    subst e1
    exact ⟨p, vs, rfl, .inl (.inl (.inl hp)), fun p3 n => q p3 _ G1 _ (Evl.fresh_back l1.h n) (l1.addO n) (Evl.fresh_back l1.gh n) upd_same ⟨vs, rfl, ha⟩⟩)
/-- abs(n) -/
theorem ev_abs (h : Ev X Γ e rInt i) (hm : X.mg "abs" = none) (hg : Gl X "abs" := by rfl) (he : starEach (e :: []) X.env = (false, eval e X.env) :: starEach [] X.env := by rfl) (hpl : (backTo pos (starEach [] X.env)).any (·.1) = false := by rfl) : Ev X Γ (.Call (.Name "abs" p) [e] [] pos) rInt (if i < 0 then -i else i) := fun E G H σ hh Q q =>
  WE.of (pe_callB call_abs hg hm (by decide +kernel) (pa_cons WE.pe pa_nil he) (he := he) (hpl := hpl)) (h E G H σ hh _ fun v G1 H1 l1 e1 => ⟨i, by rw [show v = _ from e1], q _ G1 H1 l1 rfl⟩)
/-- max(a, b), min(a, b) -/
theorem ev_max2 (h : EvA X Γ [e, f] [⟨rInt, i⟩, ⟨rInt, j⟩]) (hm : X.mg "max" = none) (hc : X.calm = true := by rfl) (hg : Gl X "max" := by rfl) (he : starEach (e :: [f]) X.env = (false, eval e X.env) :: starEach [f] X.env := by rfl) (hpl : (backTo pos (starEach [f] X.env)).any (·.1) = false := by rfl) : Ev X Γ (.Call (.Name "max" p) [e, f] [] pos) rInt (if j > i then j else i) := fun E G H σ hh Q q =>
  WE.of (pe_callB (call_max2 hc) hg hm (by decide +kernel) WA.pa (he := he) (hpl := hpl)) (h E G H σ hh _ fun vs G1 H1 l1 a1 => by
    match vs, a1 with
    | [v1, v2], ⟨h1, h2, _⟩ => exact ⟨i, j, by rw [show v1 = _ from h1, show v2 = _ from h2], q _ G1 H1 l1 rfl⟩)
theorem ev_min2 (h : EvA X Γ [e, f] [⟨rInt, i⟩, ⟨rInt, j⟩]) (hm : X.mg "min" = none) (hc : X.calm = true := by rfl) (hg : Gl X "min" := by rfl) (he : starEach (e :: [f]) X.env = (false, eval e X.env) :: starEach [f] X.env := by rfl) (hpl : (backTo pos (starEach [f] X.env)).any (·.1) = false := by rfl) : Ev X Γ (.Call (.Name "min" p) [e, f] [] pos) rInt (if j < i then j else i) := fun E G H σ hh Q q =>
  WE.of (pe_callB (call_min2 hc) hg hm (by decide +kernel) WA.pa (he := he) (hpl := hpl)) (h E G H σ hh _ fun vs G1 H1 l1 a1 => by
    match vs, a1 with
    | [v1, v2], ⟨h1, h2, _⟩ => exact ⟨i, j, by rw [show v1 = _ from h1, show v2 = _ from h2], q _ G1 H1 l1 rfl⟩)
/-- sum, all, any of a list -/
theorem ev_sum {ns : List Int} (h : EvB X Γ e (oLst rInt ns)) (hm : X.mg "sum" = none) (hc : X.calm = true := by rfl) (hg : Gl X "sum" := by rfl) (he : starEach (e :: []) X.env = (false, eval e X.env) :: starEach [] X.env := by rfl) (hpl : (backTo pos (starEach [] X.env)).any (·.1) = false := by rfl) : Ev X Γ (.Call (.Name "sum" p) [e] [] pos) rInt ns.sum := fun E G H σ hh Q q =>
  WE.of (pe_callB (cr_sum hc) hg hm (by decide +kernel) (pa_cons WE.pe pa_nil he) (he := he) (hpl := hpl)) (h E G H σ hh _ fun p o G1 H1 l1 hp ⟨vs, e1, ha⟩ => by
    subst e1
    rw [all2_int ha] at hp
    exact ⟨p, ns, rfl, .inl (.inl hp), q _ G1 H1 l1 rfl⟩)
theorem ev_all {ns : List Bool} (h : EvB X Γ e (oLst rBool ns)) (hm : X.mg "all" = none) (hc : X.calm = true := by rfl) (hg : Gl X "all" := by rfl) (he : starEach (e :: []) X.env = (false, eval e X.env) :: starEach [] X.env := by rfl) (hpl : (backTo pos (starEach [] X.env)).any (·.1) = false := by rfl) : Ev X Γ (.Call (.Name "all" p) [e] [] pos) rBool (ns.all id) := fun E G H σ hh Q q =>
  WE.of (pe_callB (cr_all hc) hg hm (by decide +kernel) (pa_cons WE.pe pa_nil he) (he := he) (hpl := hpl)) (h E G H σ hh _ fun p o G1 H1 l1 hp ⟨vs, e1, ha⟩ => by
    subst e1
    rw [all2_bool ha] at hp
    exact ⟨p, ns, rfl, .inl (.inl hp), q _ G1 H1 l1 rfl⟩)
theorem ev_any {ns : List Bool} (h : EvB X Γ e (oLst rBool ns)) (hm : X.mg "any" = none) (hc : X.calm = true := by rfl) (hg : Gl X "any" := by rfl) (he : starEach (e :: []) X.env = (false, eval e X.env) :: starEach [] X.env := by rfl) (hpl : (backTo pos (starEach [] X.env)).any (·.1) = false := by rfl) : Ev X Γ (.Call (.Name "any" p) [e] [] pos) rBool (ns.any id) := fun E G H σ hh Q q =>
  WE.of (pe_callB (cr_any hc) hg hm (by decide +kernel) (pa_cons WE.pe pa_nil he) (he := he) (hpl := hpl)) (h E G H σ hh _ fun p o G1 H1 l1 hp ⟨vs, e1, ha⟩ => by
    subst e1
    rw [all2_bool ha] at hp
    exact ⟨p, ns, rfl, .inl (.inl hp), q _ G1 H1 l1 rfl⟩)
/-- str(n) -/
theorem ev_strI (h : Ev X Γ e rInt i) (hz : i.natAbs.log2 < 1920) (hm : X.mg "str" = none) (hg : Gl X "str" := by rfl) (he : starEach (e :: []) X.env = (false, eval e X.env) :: starEach [] X.env := by rfl) (hpl : (backTo pos (starEach [] X.env)).any (·.1) = false := by rfl) : Ev X Γ (.Call (.Name "str" p) [e] [] pos) rStr (Str.ofString (toString i)) := fun E G H σ hh Q q =>
  WE.of (pe_callTy call_str_int hg hm (by decide +kernel) (pa_cons WE.pe pa_nil he) (he := he) (hpl := hpl)) (h E G H σ hh _ fun v G1 H1 l1 e1 => ⟨i, by rw [show v = _ from e1], hz, q _ G1 H1 l1 rfl⟩)
end

/-! ### statements that change a list of one's own -/
section
variable {X : Cx} {E : Ent} {Γ : List Slot} {D : Ends} {e f g : Expr} {es : List Expr} {rest : List Stmt} {pos p apos cpos : Pos} {α β : Type} {r : Rp α} {x : α} {as bs : List α}
theorem bk_append (i : Nat) {a : Str} {pq : Option Addr} (hg : Γ[i]? = some (.ow (oLst r as) pq)) (he : Ev X Γ e r x) (hl : as.length < sizeLine) (k : Bk X E (Γ.set i (.ow (oLst r (as ++ [x])) pq)) rest D)
    (hpe : PE X (.Call (.Attribute (.Name a p) "append" apos) [e] [] cpos) (tBM X.K "list" rAppend (tVar i) (tCons (WE X e) tNil)) := by exact pe_bm PySem.F.plainAttrs_list PySem.F.slot_list_append PySem.F.type_list_append mt_append (pv _) (pa_cons WE.pe pa_nil))
    (hs : swapsWith (.Call (.Attribute (.Name a p) "append" apos) [e] [] cpos) none pos.line X.env = pure false := by rfl) : Bk X E Γ (.Expr (.Call (.Attribute (.Name a p) "append" apos) [e] [] cpos) pos :: rest) D :=
  bk_of (ps_expr hpe hs) fun G H σ hh => by
    obtain ⟨q, o, h1, h2, h3, h4, vs, h5, h6⟩ := hh.ow hg
    subst h5
    refine ⟨_, h1, .inl ⟨rfl, vs, .inl (.inl h4)⟩, he E G H σ hh _ fun v G1 H1 l1 r1 => ?_⟩
    have hh1 := hh.step l1
    refine ⟨q, vs, v, rfl, rfl, l1.h _ _ h4, by rw [h6.length]; exact hl, ?_⟩
    exact k G1 _ σ (hh1.mut hg h1 ⟨_, rfl, (h6.mono l1.g).append (.one r1)⟩)
end
end Hf

namespace Hf
open PySem PySem.Spec PyProof.Rows L2

/-! ### list comprehensions -/
theorem Le.keepO {G H G' H' : Hp} (l : Le G H G' H') {p : Addr} {o : HO} (h : H p = some o) (g : G p = none) : G' p = none := by
  cases q : G' p with
  | none => rfl
  | some u =>
    have z := l.new p u q g
    rw [h] at z
    cases z
def wipeS (Γ : List Slot) : List Nat → List Slot
  | [] => Γ
  | v :: vs => (wipeS Γ vs).set v .no
theorem Holds.wipe {E : Ent} {G H : Hp} {σ : L2.St} {Γ : List Slot} (h : Holds E G H σ Γ) : ∀ vs : List Nat, Holds E G H (L2.wipe σ vs) (wipeS Γ vs)
  | [] => h
  | v :: vs => (Holds.wipe h vs).set_no
theorem wipe_get {σ : L2.St} {i : Nat} : ∀ vs : List Nat, (L2.wipe σ vs)[i]? = if i ∈ vs ∧ i < σ.length then some none else σ[i]?
  | [] => by simp [L2.wipe]
  | v :: vs => by
    unfold L2.wipe
    by_cases e : v = i
    · subst e
      by_cases lt : v < σ.length
      · rw [List.getElem?_set_self (by rw [wipe_length]; exact lt), if_pos ⟨List.mem_cons_self, lt⟩]
      · rw [if_neg (fun q => lt q.2), List.getElem?_eq_none (by rw [List.length_set, wipe_length]; omega), List.getElem?_eq_none (by omega)]
    · rw [List.getElem?_set_ne e, wipe_get vs]
      have z : i ∈ v :: vs ↔ i ∈ vs := ⟨fun q => (List.mem_cons.mp q).elim (fun w => absurd w.symm e) id, List.mem_cons_of_mem _⟩
      simp only [z]
theorem wipe_same {σ σ' : L2.St} {vs : List Nat} (h : SameBut vs (L2.wipe σ vs) σ') : L2.wipe σ' vs = L2.wipe σ vs := by
  apply List.ext_getElem?
  intro i
  have hl : σ'.length = σ.length := by rw [h.1, wipe_length]
  rw [wipe_get, wipe_get, hl]
  by_cases q : i ∈ vs ∧ i < σ.length
  · rw [if_pos q, if_pos q]
  · rw [if_neg q, if_neg q]
    by_cases m : i ∈ vs
    · have n : ¬ i < σ.length := fun z => q ⟨m, z⟩
      rw [List.getElem?_eq_none (by omega), List.getElem?_eq_none (by omega)]
    · rw [h.2 i m, wipe_get, if_neg q]
def WTs (X : Cx) (cs : List Expr) (σ : L2.St) (H : Hp) (Q : Bool → Hp → Prop) : Prop := ∃ t : TT, PTs X cs t ∧ t σ H Q
theorem PTs.all {X : Cx} {cs : List Expr} : PTs X cs (WTs X cs) := ⟨fun pins s σ H Q I h => by
  obtain ⟨t, p, h⟩ := h
  exact p.run pins s σ H Q I h⟩
/-- the tests of a comprehension -/
def EvTs (X : Cx) (Γ : List Slot) (cs : List Expr) (b : Bool) : Prop := ∀ (E : Ent) (G H : Hp) (σ : L2.St), Holds E G H σ Γ → ∀ Q : Bool → Hp → Prop, (∀ G' H', Le G H G' H' → Q b H') → WTs X cs σ H Q
theorem ets_nil {X : Cx} {Γ : List Slot} : EvTs X Γ [] true := fun E G H σ h Q q => ⟨_, pts_nil, q G H (.refl h.le.gh)⟩
theorem ets_one {X : Cx} {Γ : List Slot} {c : Expr} {b : Bool} (h : EvT X Γ c b) : EvTs X Γ [c] b := fun E G H σ hh Q q => ⟨_, pts_one WT.pt, h E G H σ hh Q q⟩
section
variable {X : Cx} {E : Ent} {Γ : List Slot} {D : Ends} {elt tg iter : Expr} {ifs : List Expr} {scope : Scope} {own : List (Str × Nat)} {pos spos : Pos} {α β : Type} {r : Rp α} {s : Rp β} {U : α → List Slot → List Slot} {xs : List α} {keep : α → Bool} {val : α → β} {rest : List Stmt}
/-- the block of a comprehension -/
abbrev blkX (X : Cx) (scope : Scope) (q : Shared × Hp × Addr × List (Str × Addr) × List Addr) : Cx := X.blk q.1 q.2.1 scope (compEnvC scope q.2.2.2.1 q.2.2.1 X.env) q.2.2.2.2
def gAll (X : Cx) (scope : Scope) (tg : Expr) : TG := fun v σ H Q => ∀ q, WG (blkX X scope q) tg v σ H Q
def tAll (X : Cx) (scope : Scope) (cs : List Expr) : TT := fun σ H Q => ∀ q, WTs (blkX X scope q) cs σ H Q
def eAll (X : Cx) (scope : Scope) (e : Expr) : TE := fun σ H Q => ∀ q, WE (blkX X scope q) e σ H Q
theorem gAll.pg (q : Shared × Hp × Addr × List (Str × Addr) × List Addr) : PG (blkX X scope q) tg (gAll X scope tg) := ⟨fun pins s σ H v u Q I r h => (h q).run pins s u I r⟩
theorem tAll.pts (q : Shared × Hp × Addr × List (Str × Addr) × List Addr) : PTs (blkX X scope q) ifs (tAll X scope ifs) := ⟨fun pins s σ H Q I h => by
  obtain ⟨t, p, h⟩ := h q
  exact p.run pins s σ H Q I h⟩
theorem eAll.pe (q : Shared × Hp × Addr × List (Str × Addr) × List Addr) : PE (blkX X scope q) elt (eAll X scope elt) := ⟨fun pins s σ H Q I h => (h q).run pins s I⟩
theorem tlc_of {wi : TI} (hwi : ∀ (E : Ent) (G H : Hp) (σ : L2.St), Holds E G H σ Γ → ∀ R : It → Hp → Prop, (∀ J G' H', Le G H G' H' → ItOk J G' r xs → R J H') → wi σ H R)
    (ht : ∀ q, TgOk (blkX X scope q) tg r U (own.map (·.2))) (hk : ∀ q, ∀ a ∈ xs, EvTs (blkX X scope q) (U a (wipeS Γ (own.map (·.2)))) ifs (keep a))
    (hv : ∀ q, ∀ a ∈ xs, keep a = true → Ev (blkX X scope q) (U a (wipeS Γ (own.map (·.2)))) elt s (val a)) (hl : xs.length ≤ 100000)
    {G H : Hp} {σ : L2.St} (hh : Holds E G H σ Γ) {Q : VK} (hQ : ∀ p o G' H', H p = none → Le G H G' H' → G' p = none → H' p = some o → (oLst s ((xs.filter keep).map val)).rel G' o → Q (.ref p) H') :
    tLc wi (gAll X scope tg) (tAll X scope ifs) (eAll X scope elt) (own.map (·.2)) σ H Q := by
  refine hwi E G H σ hh _ fun J G1 H1 l1 it D hD => ?_
  have gD : G1 D = none := Evl.fresh_back l1.gh hD
  have hh1 := hh.step l1
  refine ⟨fun i m H2 => m = xs.length - i ∧ i ≤ xs.length ∧ ∃ G2 acc, Le G1 H1 G2 H2 ∧ G2 D = none ∧ H2 D = some (.lst acc) ∧ All2 s G2 acc (((xs.take i).filter keep).map val), ⟨xs.length, by simp, Nat.zero_le _, G1, [], (Le.refl l1.gh).addO hD, gD, upd_same, .nil⟩, ?_⟩
  rintro i m H2 ⟨rfl, hi, G2, acc, l2, g2, h2, a2⟩
  obtain ⟨go, stop⟩ := it i G2 H2 l2.g l2.gh
  by_cases lt : i < xs.length
  · have ex : xs[i]? = some xs[i] := by simp [lt]
    have mem : xs[i] ∈ xs := List.getElem_mem lt
    obtain ⟨g, y⟩ := go xs[i] ex
    have la : acc.length ≤ i := by
      rw [a2.length, List.length_map]
      exact Nat.le_trans (List.length_filter_le _ _) (by rw [List.length_take]; omega)
    have take : xs.take (i + 1) = xs.take i ++ [xs[i]] := by rw [List.take_add_one]; simp [lt]
    refine .inr ⟨g, fun H' => ∃ G' acc, Le G1 H1 G' H' ∧ G' D = none ∧ H' D = some (.lst acc) ∧ All2 s G' acc (((xs.take (i + 1)).filter keep).map val), fun H' ⟨G', acc', l', q1, q2, q3⟩ => ⟨xs.length - (i + 1), by omega, rfl, lt, G', acc', l', q1, q2, q3⟩, fun x H' yy q => ?_⟩
    obtain ⟨G3, l3, rx⟩ := y x H' yy
    have hh3 : Holds E G3 H' σ Γ := (hh1.step l2).step l3
    refine ht q E G3 H' _ _ x _ (hh3.wipe _) rx _ fun σ4 sb hh4 => ⟨wipe_same sb, fun q2 => ?_⟩
    refine hk q2 _ mem E G3 H' σ4 hh4 _ fun G5 H5 l5 => ?_
    have l35 := l3.trans l5
    cases kv : keep xs[i] with
    | false =>
      rw [if_neg Bool.false_ne_true]
      refine ⟨G5, acc, l2.trans l35, l35.keepO h2 g2, l35.h _ _ h2, ?_⟩
      rw [take, List.filter_append, List.filter_cons_of_neg (by simp [kv])]
      simpa using a2.mono l35.g
    | true =>
      rw [if_pos rfl]
      intro q3
      refine hv q3 _ mem kv E G5 H5 σ4 (hh4.step l5) _ fun v G6 H6 l6 r6 => ?_
      have l := l35.trans l6
      refine ⟨acc, l.h _ _ h2, Evl.sz_lt (by omega), G6, acc ++ [v], ?_, l.keepO h2 g2, upd_same, ?_⟩
      · have z := l2.trans l
        refine ⟨z.g, fun a o h => ?_, fun a o h => ?_, z.new⟩
        · rw [upd_ne (ne_of_none h hD)]
          exact z.h a o h
        · have n : a ≠ D := fun e => by
            subst e
            rw [l.keepO h2 g2] at h
            cases h
          rw [upd_ne n]
          exact z.gh a o h
      · rw [take, List.filter_append, List.filter_cons_of_pos kv, List.map_append]
        exact (a2.mono l.g).append (.one r6)
  · have e : i = xs.length := by omega
    subst e
    rw [List.take_length] at a2
    exact .inl ⟨stop (Nat.le_refl _), hQ D _ G2 H2 (Evl.fresh_back l1.h hD) (l1.trans l2) g2 h2 ⟨acc, rfl, a2⟩⟩
theorem eo_lc (own : List (Str × Nat)) (nd : X.N.Nodup) (hi : EvI X Γ tg iter r xs) (ok : BlkOk X.N X.env.scope scope own) (ht : ∀ q, TgOk (blkX X scope q) tg r U (own.map (·.2)))
    (hk : ∀ q, ∀ a ∈ xs, EvTs (blkX X scope q) (U a (wipeS Γ (own.map (·.2)))) ifs (keep a)) (hv : ∀ q, ∀ a ∈ xs, keep a = true → Ev (blkX X scope q) (U a (wipeS Γ (own.map (·.2)))) elt s (val a)) (hl : xs.length ≤ 100000)
    (hc : X.calm = true := by rfl) (hs : ∀ x, foldedSetIterable iter X.env x = pure x := by intro _; rfl) : EvO X Γ (.ListComp elt [⟨tg, iter, ifs, 0⟩] scope pos) (oLst s ((xs.filter keep).map val)) := fun E G H σ hh Q q => by
  obtain ⟨wi, pi, hwi⟩ := hi
  exact WE.of (pe_lc hc nd pi ok (fun s H C cl fp => gAll.pg (s, H, C, cl, fp)) (fun s H C cl fp => tAll.pts (s, H, C, cl, fp)) (fun s H C cl fp => eAll.pe (s, H, C, cl, fp)) hs) (tlc_of hwi ht hk hv hl hh q)
theorem filter_tt {α : Type} (xs : List α) : xs.filter (fun _ => true) = xs := by simp
/-- without a test -/
theorem eo_lcm (own : List (Str × Nat)) (nd : X.N.Nodup) (hi : EvI X Γ tg iter r xs) (ok : BlkOk X.N X.env.scope scope own) (ht : ∀ q, TgOk (blkX X scope q) tg r U (own.map (·.2)))
    (hv : ∀ q, ∀ a ∈ xs, Ev (blkX X scope q) (U a (wipeS Γ (own.map (·.2)))) elt s (val a)) (hl : xs.length ≤ 100000)
    (hc : X.calm = true := by rfl) (hs : ∀ x, foldedSetIterable iter X.env x = pure x := by intro _; rfl) : EvO X Γ (.ListComp elt [⟨tg, iter, [], 0⟩] scope pos) (oLst s (xs.map val)) := by
  have h := eo_lc (pos := pos) (keep := fun _ => true) (val := val) own nd hi ok ht (fun q a m => ets_nil) (fun q a m _ => hv q a m) hl hc hs
  rw [filter_tt] at h
  exact h
/-- x = [..] -/
theorem bk_setLc (i : Nat) {y : Str} {py : Pos} (own : List (Str × Nat)) (nd : X.N.Nodup) (hi : EvI X Γ tg iter r xs) (ok : BlkOk X.N X.env.scope scope own) (ht : ∀ q, TgOk (blkX X scope q) tg r U (own.map (·.2)))
    (hk : ∀ q, ∀ a ∈ xs, EvTs (blkX X scope q) (U a (wipeS Γ (own.map (·.2)))) ifs (keep a)) (hv : ∀ q, ∀ a ∈ xs, keep a = true → Ev (blkX X scope q) (U a (wipeS Γ (own.map (·.2)))) elt s (val a)) (hl : xs.length ≤ 100000)
    (k : Bk X E (Γ.set i (.ow (oLst s ((xs.filter keep).map val)))) rest D) (hy : X.N[i]? = some y := by rfl) (hyl : X.env.scope.names.lookup y = some .local := by rfl)
    (hsw : swapsWith (.ListComp elt [⟨tg, iter, ifs, 0⟩] scope pos) (some (.Name y py)) spos.line X.env = pure true := by exact sw_true rfl rfl rfl (by decide +kernel))
    (hc : X.calm = true := by rfl) (hs : ∀ x, foldedSetIterable iter X.env x = pure x := by intro _; rfl) : Bk X E Γ (.Assign [.Name y py] (.ListComp elt [⟨tg, iter, ifs, 0⟩] scope pos) spos :: rest) D := by
  obtain ⟨wi, pi, hwi⟩ := hi
  refine bk_of (ps_setLc hc nd hy hyl hsw pi ok (fun s H C cl fp => gAll.pg (s, H, C, cl, fp)) (fun s H C cl fp => tAll.pts (s, H, C, cl, fp)) (fun s H C cl fp => eAll.pe (s, H, C, cl, fp)) hs) fun G H σ hh => ?_
  exact tlc_of hwi ht hk hv hl hh fun p o G' H' n l g h1 h2 => k G' H' _ (hh.set_ow l n g h1 h2)
/-- x = [..], never changed behind -/
theorem bk_setLf (i : Nat) {y : Str} {py : Pos} (own : List (Str × Nat)) (nd : X.N.Nodup) (hi : EvI X Γ tg iter r xs) (ok : BlkOk X.N X.env.scope scope own) (ht : ∀ q, TgOk (blkX X scope q) tg r U (own.map (·.2)))
    (hk : ∀ q, ∀ a ∈ xs, EvTs (blkX X scope q) (U a (wipeS Γ (own.map (·.2)))) ifs (keep a)) (hv : ∀ q, ∀ a ∈ xs, keep a = true → Ev (blkX X scope q) (U a (wipeS Γ (own.map (·.2)))) elt s (val a)) (hl : xs.length ≤ 100000)
    (k : Bk X E (Γ.set i (.sh (rLst s) ((xs.filter keep).map val))) rest D) (hy : X.N[i]? = some y := by rfl) (hyl : X.env.scope.names.lookup y = some .local := by rfl)
    (hsw : swapsWith (.ListComp elt [⟨tg, iter, ifs, 0⟩] scope pos) (some (.Name y py)) spos.line X.env = pure true := by exact sw_true rfl rfl rfl (by decide +kernel))
    (hc : X.calm = true := by rfl) (hs : ∀ x, foldedSetIterable iter X.env x = pure x := by intro _; rfl) : Bk X E Γ (.Assign [.Name y py] (.ListComp elt [⟨tg, iter, ifs, 0⟩] scope pos) spos :: rest) D := by
  obtain ⟨wi, pi, hwi⟩ := hi
  refine bk_of (ps_setLc hc nd hy hyl hsw pi ok (fun s H C cl fp => gAll.pg (s, H, C, cl, fp)) (fun s H C cl fp => tAll.pts (s, H, C, cl, fp)) (fun s H C cl fp => eAll.pe (s, H, C, cl, fp)) hs) fun G H σ hh => ?_
  refine tlc_of hwi ht hk hv hl hh fun p o G' H' n l g h1 ⟨vs, e, h2⟩ => ?_
  subst e
  exact k (upd G' p (.lst vs)) H' _ ((hh.step (l.frz h1 n g)).set_sh ⟨p, vs, rfl, upd_same, h2.mono (Evl.Ex.new g)⟩)
end

/-! ### while -/
section
variable {X : Cx} {E : Ent} {Γ : List Slot} {D : Ends} {c : Expr} {rest body : List Stmt} {pos : Pos}
/-- while: I and the measure over the data -/
theorem bk_while {S : Type} (mk : S → List Slot) (I : S → Prop) (μ : S → Nat) (b : S → Bool) (s0 : S) (hp : PassesOwn (model X.prog X.w) X.A X.env X.xe) (h0 : I s0) (hΓ : ∀ G H σ, Holds E G H σ Γ → Holds E G H σ (mk s0)) (hc : ∀ s, I s → EvT X (mk s) c (b s))
    (step : ∀ s, I s → b s = true → Bk X E (mk s) body { D with nx := fun σ H => ∃ s', (I s' ∧ μ s' < μ s) ∧ At E (mk s') σ H, ct := fun σ H => ∃ s', (I s' ∧ μ s' < μ s) ∧ At E (mk s') σ H, bk := fun σ H => WB X rest σ H D })
    (done : ∀ s, I s → b s = false → Bk X E (mk s) rest D) : Bk X E Γ (.While c body [] pos :: rest) D := by
  refine bk_of (ps_while hp WT.pt WB.pss) fun G H σ hh => ?_
  refine ⟨fun m σ H => ∃ s, m = μ s ∧ I s ∧ At E (mk s) σ H, ⟨μ s0, s0, rfl, h0, G, hΓ _ _ _ hh⟩, ?_⟩
  rintro m σ H ⟨s, rfl, hs, G2, hh2⟩
  refine hc s hs E G2 H σ hh2 _ fun G3 H3 l3 => ?_
  cases e : b s with
  | true =>
    rw [if_pos rfl]
    exact ⟨fun σ' H' => ∃ s', (I s' ∧ μ s' < μ s) ∧ At E (mk s') σ' H', fun σ' H' ⟨s', ⟨i', lt⟩, a'⟩ => ⟨μ s', lt, s', rfl, i', a'⟩, step s hs e G3 H3 σ (hh2.step l3)⟩
  | false =>
    rw [if_neg Bool.false_ne_true]
    exact done s hs e G3 H3 σ (hh2.step l3)
theorem bk_wnext {S : Type} {mk : S → List Slot} {J : S → Prop} (s' : S) (hI : J s') (l : (mk s').length = Γ.length) (w : ∀ (i : Nat) (s : Slot), (mk s')[i]? = some s → s = .no ∨ Γ[i]? = some s) {bk ct : L2.St → Hp → Prop} {rt : VK} :
    Bk X E Γ [] { nx := fun σ H => ∃ s', J s' ∧ At E (mk s') σ H, rt := rt, bk := bk, ct := ct } := bk_end fun G H σ hh => ⟨s', hI, G, hh.weak l w⟩
end

/-! ### isinstance -/
section
variable {X : Cx} {Γ : List Slot} {e : Expr} {pos p p2 : Pos} {α : Type} {r : Rp α} {x : α}
/-- the built-in class of whatever r tells -/
def Kind (K : PySem.W.Frag) (r : Rp α) (x : α) (T : String) : Prop := ∀ G v, r.rel G v x → TyX K G v (.type T)
theorem tyX_mono {K : PySem.W.Frag} {G H : Hp} (e : Ex G H) {v : V} {t : Value} (h : TyX K G v t) : TyX K H v t := by
  cases h with
  | base h =>
    refine .base ?_
    cases h with
    | non => exact .non
    | bl b => exact .bl b
    | int i => exact .int i
    | str x => exact .str x
    | flt x => exact .flt x
    | lst h => exact .lst (e _ _ h)
    | frz h => exact .frz (e _ _ h)
    | tup h => exact .tup (e _ _ h)
    | dK h => exact .dK (e _ _ h)
    | dT h => exact .dT (e _ _ h)
    | ins h c a b d f => exact .ins (e _ _ h) c a b d f
  | byt b => exact .byt b
  | set h => exact .set (e _ _ h)
  | kList h c => exact .kList h c
  | kTuple h c => exact .kTuple h c
  | kDict h c => exact .kDict h c
  | fTuple h => exact .fTuple (e _ _ h)
  | fDict h => exact .fDict (e _ _ h)
theorem kind_int {K : PySem.W.Frag} {i : Int} : Kind K rInt i "int" := fun G v h => by cases h; exact .base (.int i)
theorem kind_bool {K : PySem.W.Frag} {i : Bool} : Kind K rBool i "bool" := fun G v h => by cases h; exact .base (.bl i)
theorem kind_str {K : PySem.W.Frag} {i : Str} : Kind K rStr i "str" := fun G v h => by cases h; exact .base (.str i)
theorem kind_lst {K : PySem.W.Frag} {as : List α} : Kind K (rLst r) as "list" := fun G v ⟨p, vs, e, h, _⟩ => by subst e; exact .base (.lst h)
theorem sqT_kind {K : PySem.W.Frag} {G : Hp} {p : Addr} {vs : List V} (h : SqT K G p vs) : TyX K G (.ref p) (.type "tuple") := by
  rcases h with (h | ⟨o, h⟩) | ⟨o, its, n, h, c, _⟩
  · exact .base (.tup h)
  · exact .fTuple h
  · exact .kTuple h c
theorem kind_T2 {K : PySem.W.Frag} {β : Type} {s : Rp β} {a : α × β} : Kind K (rT2 K r s) a "tuple" := fun G v ⟨p, x, y, e, h, _⟩ => by subst e; exact sqT_kind h
theorem kind_T3 {K : PySem.W.Frag} {β γ : Type} {s : Rp β} {t : Rp γ} {a : α × β × γ} : Kind K (rT3 K r s t) a "tuple" := fun G v ⟨p, x, y, z, e, h, _⟩ => by subst e; exact sqT_kind h
theorem ev_isi {T C : String} {c : Str} {b : Bool} (h : Ev X Γ e r x) (kd : Kind X.K r x T) (hk : kitB T C = some b) (hm : X.mg "isinstance" = none) (hmc : X.mg c = none) (hvc : bootBuiltins c = some (.type C)) (hg : Gl X "isinstance" := by rfl) (hgc : Gl X c := by rfl) (hn : c ≠ "__name__" := by decide) (hd : (c == ("__debug__" : Str)) = false := by decide)
    (hs1 : starEach (e :: [.Name c p2]) X.env = (false, eval e X.env) :: starEach [.Name c p2] X.env := by rfl) (hs2 : starEach (.Name c p2 :: []) X.env = (false, eval (.Name c p2) X.env) :: starEach [] X.env := by rfl) (hpl : (backTo pos (starEach [.Name c p2] X.env)).any (·.1) = false := by rfl) :
    Ev X Γ (.Call (.Name "isinstance" p) [e, .Name c p2] [] pos) rBool b := fun E G H σ hh Q q =>
  WE.of (pe_callB call_isi hg hm (by decide +kernel) (pa_cons WE.pe (pa_cons (pe_bltn (v := .ty C) hgc hmc hvc rfl hn hd) pa_nil hs2) hs1) (he := hs1) (hpl := hpl)) (h E G H σ hh _ fun v G1 H1 l1 r1 => ⟨v, .ty C, .type T, .type C, b, rfl, .ty C, tyX_mono l1.gh (kd G1 v r1), kit_ty hk, q _ G1 H1 l1 rfl⟩)
end
end Hf

namespace Hf
open PySem PySem.Spec PyProof.Rows L2

/-! ### data of any form; ω: objects of one's own -/
inductive Dyn (ω : Type) where
  | non | bl (b : Bool) | int (i : Int) | str (s : Str) | lst (xs : List (Dyn ω)) | tup (xs : List (Dyn ω)) | dic (kvs : List (Str × Dyn ω)) | ob (o : ω)
mutual
inductive DynAt {ω : Type} (K : PySem.W.Frag) (ro : Rp ω) (G : Hp) : V → Dyn ω → Prop
  | non : DynAt K ro G .non .non
  | bl (b : Bool) : DynAt K ro G (.bl b) (.bl b)
  | int (i : Int) : DynAt K ro G (.int i) (.int i)
  | str (s : Str) : DynAt K ro G (.str s) (.str s)
  | lst {p : Addr} {vs : List V} {ds : List (Dyn ω)} : G p = some (.lst vs) → DynAll K ro G vs ds → DynAt K ro G (.ref p) (.lst ds)
  | tup {p : Addr} {vs : List V} {ds : List (Dyn ω)} : SqT K G p vs → DynAll K ro G vs ds → DynAt K ro G (.ref p) (.tup ds)
  | dic {p : Addr} {kvs : List (Key × V)} {ds : List (Str × Dyn ω)} : G p = some (.dK kvs) → DynKvs K ro G kvs ds → DynAt K ro G (.ref p) (.dic ds)
  | ob {v : V} {o : ω} : ro.rel G v o → DynAt K ro G v (.ob o)
inductive DynAll {ω : Type} (K : PySem.W.Frag) (ro : Rp ω) (G : Hp) : List V → List (Dyn ω) → Prop
  | nil : DynAll K ro G [] []
  | cons {v : V} {vs : List V} {d : Dyn ω} {ds : List (Dyn ω)} : DynAt K ro G v d → DynAll K ro G vs ds → DynAll K ro G (v :: vs) (d :: ds)
inductive DynKvs {ω : Type} (K : PySem.W.Frag) (ro : Rp ω) (G : Hp) : List (Key × V) → List (Str × Dyn ω) → Prop
  | nil : DynKvs K ro G [] []
  | cons {k : Str} {v : V} {vs : List (Key × V)} {d : Dyn ω} {ds : List (Str × Dyn ω)} : DynAt K ro G v d → DynKvs K ro G vs ds → DynKvs K ro G ((.inr k, v) :: vs) ((k, d) :: ds)
end
section
variable {ω : Type} {K : PySem.W.Frag} {ro : Rp ω} {G G' : Hp}
mutual
theorem DynAt.mono (e : Ex G G') : ∀ (d : Dyn ω) (v : V), DynAt K ro G v d → DynAt K ro G' v d
  | .non, _, h => by cases h; exact .non
  | .bl b, _, h => by cases h; exact .bl b
  | .int b, _, h => by cases h; exact .int b
  | .str b, _, h => by cases h; exact .str b
  | .lst ds, _, h => by
    cases h with
    | lst h1 h2 => exact .lst (e _ _ h1) (DynAll.mono e ds _ h2)
  | .tup ds, _, h => by
    cases h with
    | tup h1 h2 => exact .tup (Evl.ex_t e h1) (DynAll.mono e ds _ h2)
  | .dic ds, _, h => by
    cases h with
    | dic h1 h2 => exact .dic (e _ _ h1) (DynKvs.mono e ds _ h2)
  | .ob o, _, h => by
    cases h with
    | ob h => exact .ob (ro.mono e h)
theorem DynAll.mono (e : Ex G G') : ∀ (ds : List (Dyn ω)) (vs : List V), DynAll K ro G vs ds → DynAll K ro G' vs ds
  | [], _, h => by cases h; exact .nil
  | d :: ds, _, h => by
    cases h with
    | cons h1 h2 => exact .cons (DynAt.mono e d _ h1) (DynAll.mono e ds _ h2)
theorem DynKvs.mono (e : Ex G G') : ∀ (ds : List (Str × Dyn ω)) (vs : List (Key × V)), DynKvs K ro G vs ds → DynKvs K ro G' vs ds
  | [], _, h => by cases h; exact .nil
  | (k, d) :: ds, _, h => by
    cases h with
    | cons h1 h2 => exact .cons (DynAt.mono e d _ h1) (DynKvs.mono e ds _ h2)
end
end
def rDyn {ω : Type} (K : PySem.W.Frag) (ro : Rp ω) : Rp (Dyn ω) := ⟨DynAt K ro, fun {G G' v a} e h => DynAt.mono e a v h⟩
/-- no objects -/
def rOb0 : Rp Empty := ⟨fun _ _ _ => False, fun _ h => h⟩

/-! ### == at any depth -/
/-- data that == reads -/
structure Eqv (K : PySem.W.Frag) {α : Type} (r : Rp α) (x : α) (d : PyData) : Prop where
  dp : ∀ G v, r.rel G v x → Dp K G v d
  sh : SeqAt.shaped d = true
theorem dpSq {K : PySem.W.Frag} {G H : Hp} {p : Addr} {vs : List V} (e : Ex G H) (h : SqL K G p vs) : SqL K H p vs := Evl.ex_l e h
mutual
theorem dp_mono {K : PySem.W.Frag} {G H : Hp} (e : Ex G H) : ∀ (d : PyData) (v : V), Dp K G v d → Dp K H v d
  | .none, _, h => by cases h; exact .non
  | .bool b, _, h => by cases h; exact .bl b
  | .int i, _, h => by cases h; exact .int i
  | .str x, _, h => by cases h; exact .str x
  | .list ds, _, h => by
    cases h with
    | lst h1 h2 => exact .lst (Evl.ex_l e h1) (dpAll_mono e ds _ h2)
  | .tuple ds, _, h => by
    cases h with
    | tup h1 h2 => exact .tup (Evl.ex_t e h1) (dpAll_mono e ds _ h2)
  | .dict _, _, h => by cases h
theorem dpAll_mono {K : PySem.W.Frag} {G H : Hp} (e : Ex G H) : ∀ (d : List PyData) (v : List V), DpAll K G v d → DpAll K H v d
  | [], _, h => by cases h; exact .nil
  | d :: ds, _, h => by
    cases h with
    | cons h1 h2 => exact .cons (dp_mono e d _ h1) (dpAll_mono e ds _ h2)
end
section
variable {X : Cx} {Γ : List Slot} {e f g : Expr} {es : List Expr} {pos p : Pos} {α β γ ω : Type} {r : Rp α} {x : α} {s : Rp β} {y : β} {i j : Int} {u v : Str} {c d : PyData} {k : Nat} {ro : Rp ω} {as bs : List α}
theorem gv_eqD (a : Eqv X.K r x c) (b : Eqv X.K s y d) : Gives (rEqD X.K) r x s y rBool (PyData.eqv c d) := fun G H v w e h1 h2 Q q => ⟨c, d, dp_mono e _ _ (a.dp G v h1), dp_mono e _ _ (b.dp G w h2), a.sh, b.sh, q _ G H (.refl e) rfl⟩
theorem gv_neD (a : Eqv X.K r x c) (b : Eqv X.K s y d) : Gives (rNeD X.K) r x s y rBool (!PyData.eqv c d) := fun G H v w e h1 h2 Q q => ⟨c, d, dp_mono e _ _ (a.dp G v h1), dp_mono e _ _ (b.dp G w h2), a.sh, b.sh, q _ G H (.refl e) rfl⟩
theorem ev_eqD (hr : Room k X.A) (a : Eqv X.K r x c) (b : Eqv X.K s y d) (ha : Ev X Γ e r x) (hb : Ev X Γ f s y) : Ev X Γ (.Compare e [.Eq] [f] pos) rBool (PyData.eqv c d) := ev_cmpR (op_eqD hr.units) ha hb (gv_eqD a b)
theorem ev_neD (hr : Room k X.A) (a : Eqv X.K r x c) (b : Eqv X.K s y d) (ha : Ev X Γ e r x) (hb : Ev X Γ f s y) : Ev X Γ (.Compare e [.NotEq] [f] pos) rBool (!PyData.eqv c d) := ev_cmpR (op_neD hr.units) ha hb (gv_neD a b)
theorem et_eqD (hr : Room k X.A) (a : Eqv X.K r x c) (b : Eqv X.K s y d) (ha : Ev X Γ e r x) (hb : Ev X Γ f s y) : EvT X Γ (.Compare e [.Eq] [f] pos) (PyData.eqv c d) := et_cmpR (op_eqD hr.units) ha hb (gv_eqD a b)
theorem et_neD (hr : Room k X.A) (a : Eqv X.K r x c) (b : Eqv X.K s y d) (ha : Ev X Γ e r x) (hb : Ev X Γ f s y) : EvT X Γ (.Compare e [.NotEq] [f] pos) (!PyData.eqv c d) := et_cmpR (op_neD hr.units) ha hb (gv_neD a b)

/-! ### texts -/
def rMulS : R2 := fun x y H Q => ∃ a n, x = .str a ∧ y = .int n ∧ MulOk a n ∧ Q (.str (Txt.mul a n)) H
theorem op_mulS : OpR X (binaryOp .Mult) rMulS := by
  intro pins s σ H x y v u Q I rx ry h
  obtain ⟨i, j, rfl, rfl, hz, q⟩ := h
  obtain ⟨t, rfl⟩ := rx
  obtain ⟨t', rfl⟩ := ry
  exact SB.mul hz fun t' k => ⟨.str (Txt.mul i j), H, I.tok _, ⟨_, rfl⟩, q⟩
theorem ev_mulS (hc : MulOk u i) (ha : Ev X Γ e rStr u) (hb : Ev X Γ f rInt i) : Ev X Γ (.BinOp e .Mult f pos) rStr (Txt.mul u i) := ev_bin op_mulS ha hb fun G H a b e h1 h2 Q q => ⟨u, i, h1, h2, hc, q _ G H (.refl e) rfl⟩
/-- a method of a text with one argument -/
theorem ev_m1 {id : String} {name : Str} {apos : Pos} {ρ : V → List V → Hp → VK → Prop} (slot : PySem.Slot "str" name id) (ty : typeOf (.builtin id) = pure (.type "method_descriptor")) (rule : MtR X id ρ) (ha : Ev X Γ e rStr u) (hb : Ev X Γ f r x)
    (hs : ∀ (G H : Hp) (b : V), Ex G H → r.rel G b x → ∀ Q : VK, (∀ c G' H', Le G H G' H' → s.rel G' c y → Q c H') → ρ (.str u) [b] H Q)
    (hst : starEach [f] X.env = [(false, eval f X.env)] := by rfl) (hbase : attributeBase e name X.env (eval e X.env) = eval e X.env := by rfl) (hline : (apos.endLine == pos.line) = true := by rfl) : Ev X Γ (.Call (.Attribute e name apos) [f] [] pos) s y := fun E G H σ hh Q q =>
  WE.of (pe_m1 slot ty rule WE.pe WE.pe hst hbase hline) (ha E G H σ hh _ fun v G1 H1 l1 r1 => by
    cases r1
    exact ⟨⟨u, rfl⟩, hb E G1 H1 σ (hh.step l1) _ fun w G2 H2 l2 r2 => hs G2 H2 w l2.gh r2 Q fun c G3 H3 l3 r3 => q c G3 H3 ((l1.trans l2).trans l3) r3⟩)
/-- the same, a new list -/
theorem eo_m1 {id : String} {name : Str} {apos : Pos} {ρ : V → List V → Hp → VK → Prop} {cc : Oc} (slot : PySem.Slot "str" name id) (ty : typeOf (.builtin id) = pure (.type "method_descriptor")) (rule : MtR X id ρ) (ha : Ev X Γ e rStr u) (hb : Ev X Γ f r x)
    (hs : ∀ (G H : Hp) (b : V), Ex G H → r.rel G b x → ∀ Q : VK, (∀ p o H', H p = none → H' = upd H p o → cc.rel G o → Q (.ref p) H') → ρ (.str u) [b] H Q)
    (hst : starEach [f] X.env = [(false, eval f X.env)] := by rfl) (hbase : attributeBase e name X.env (eval e X.env) = eval e X.env := by rfl) (hline : (apos.endLine == pos.line) = true := by rfl) : EvO X Γ (.Call (.Attribute e name apos) [f] [] pos) cc := fun E G H σ hh Q q =>
  WE.of (pe_m1 slot ty rule WE.pe WE.pe hst hbase hline) (ha E G H σ hh _ fun v G1 H1 l1 r1 => by
    cases r1
    refine ⟨⟨u, rfl⟩, hb E G1 H1 σ (hh.step l1) _ fun w G2 H2 l2 r2 => hs G2 H2 w l2.gh r2 Q fun p o H3 n e3 c3 => ?_⟩
    subst e3
    have l := l1.trans l2
    exact q p o G2 _ (Evl.fresh_back l.h n) (l.addO n) (Evl.fresh_back l2.gh n) upd_same c3)
end
end Hf

namespace Hf
open PySem PySem.Spec PyProof.Rows L2
theorem All2.concat {α : Type} {r : Rp α} {G : Hp} {b : α} : ∀ {vs : List V} {l : List α}, All2 r G vs (l ++ [b]) → ∃ ws w, vs = ws ++ [w] ∧ r.rel G w b
  | _, [], .cons h .nil => ⟨[], _, rfl, h⟩
  | _, _ :: l, .cons (v := v) h t => by
    obtain ⟨ws, w, e, k⟩ := All2.concat (l := l) t
    exact ⟨v :: ws, w, by rw [e]; rfl, k⟩
/-- a slice -/
def cutL {α : Type} (xs : List α) (lo hi : Option Int) : List α := (xs.drop (HT.sIx xs.length 0 lo)).take (HT.sIx xs.length xs.length hi - HT.sIx xs.length 0 lo)
theorem All2.cut {α : Type} {r : Rp α} {G : Hp} {vs : List V} {l : List α} (lo hi : Option Int) (h : All2 r G vs l) : All2 r G (cutV vs lo hi) (cutL l lo hi) := by
  unfold cutV cutL
  rw [h.length]
  exact (h.drop _).take _
theorem cutL_from {α : Type} {xs : List α} {i : Int} (h : 0 ≤ i) : cutL xs (some i) none = xs.drop i.toNat := by
  obtain ⟨k, rfl⟩ := Int.eq_ofNat_of_zero_le h
  unfold cutL
  rw [HT.sIx_none, HT.sIx_nat, Int.toNat_natCast]
  by_cases q : k ≤ xs.length
  · rw [Nat.min_eq_left q, List.take_of_length_le (by simp)]
  · rw [Nat.min_eq_right (by omega), List.drop_eq_nil_of_le (Nat.le_refl _), List.drop_eq_nil_of_le (by omega)]
    simp
theorem cutL_to {α : Type} {xs : List α} {i : Int} (h : 0 ≤ i) : cutL xs none (some i) = xs.take i.toNat := by
  obtain ⟨k, rfl⟩ := Int.eq_ofNat_of_zero_le h
  unfold cutL
  rw [HT.sIx_none, HT.sIx_nat, Int.toNat_natCast, List.drop_zero, Nat.sub_zero]
  by_cases q : k ≤ xs.length
  · rw [Nat.min_eq_left q]
  · rw [Nat.min_eq_right (by omega), List.take_of_length_le (Nat.le_refl _), List.take_of_length_le (by omega)]
theorem Holds.forget {E : Ent} {G H : Hp} {σ : L2.St} {Γ : List Slot} (i : Nat) (h : Holds E G H σ Γ) : Holds E G H σ (Γ.set i .no) := h.weak (by rw [List.length_set]) fun j s q => by
  rcases get_set q with ⟨_, e⟩ | ⟨_, e⟩
  · exact .inl e
  · exact .inr e
/-- a list of one's own, frozen where it stands -/
theorem Holds.freeze {E : Ent} {G H : Hp} {σ : L2.St} {Γ : List Slot} {α : Type} {r : Rp α} {as : List α} {i : Nat} (h : Holds E G H σ Γ) (e : Γ[i]? = some (.ow (oLst r as))) : ∃ G', Holds E G' H σ (Γ.set i (.sh (rLst r) as)) := by
  obtain ⟨p, o, h1, h2, h3, h4, vs, h5, h6⟩ := h.ow e
  subst h5
  have hn : E.H p = none := h3
  refine ⟨upd G p (.lst vs), ⟨h.le.g.trans (Evl.Ex.new h2), h.le.h, fun a o q => ?_, fun a o q1 q2 => ?_, h.le.m⟩, h.fl.trans (Evl.Ex.new h2), by rw [List.length_set]; exact h.len, fun j s q => ?_, fun j k s t e1 e2 w1 w2 q => ?_⟩
  · by_cases z : a = p
    · subst z; rw [upd_same] at q; cases q; exact h4
    · rw [upd_ne z] at q; exact h.le.gh a o q
  · by_cases z : a = p
    · subst z; exact hn
    · rw [upd_ne z] at q1; exact h.le.new a o q1 q2
  · rcases get_set q with ⟨rfl, rfl⟩ | ⟨n, q⟩
    · exact ⟨_, h1, p, vs, rfl, upd_same, h6.mono (Evl.Ex.new h2)⟩
    · have w := h.ok j s q
      cases s with
      | no => trivial
      | sh r a =>
        obtain ⟨v, w1, w2⟩ := w
        exact ⟨v, w1, r.mono (Evl.Ex.new h2) w2⟩
      | ow c2 q2 =>
        obtain ⟨p2, o2, w1, w2, w3, w4, w5⟩ := w
        have np : p2 ≠ p := fun z => by
          subst z
          exact n (h.sep i j _ _ e q rfl rfl (by rw [h1, w1]))
        exact ⟨p2, o2, w1, by rw [upd_ne np]; exact w2, w3, w4, c2.mono (Evl.Ex.new h2) w5⟩
  · rcases get_set e1 with ⟨rfl, rfl⟩ | ⟨n1, e1⟩
    · cases w1
    · rcases get_set e2 with ⟨rfl, rfl⟩ | ⟨n2, e2⟩
      · cases w2
      · exact h.sep j k s t e1 e2 w1 w2 q
section
variable {X : Cx} {E : Ent} {Γ : List Slot} {D : Ends} {e f g elt tg iter : Expr} {es : List Expr} {rest : List Stmt} {pos p spos : Pos} {α β γ ω : Type} {r : Rp α} {x : α} {s : Rp β} {y : β} {t : Rp γ} {z : γ} {i j : Int} {u v : Str} {as bs : List α} {ro : Rp ω}
theorem bk_freeze (i : Nat) (hg : Γ[i]? = some (.ow (oLst r as))) (k : Bk X E (Γ.set i (.sh (rLst r) as)) rest D) : Bk X E Γ rest D := fun G H σ hh => by
  obtain ⟨G', h'⟩ := hh.freeze hg
  exact k G' H σ h'
theorem bk_setg (i : Nat) {a : Str} {p : Pos} (nd : X.N.Nodup) (he : Ev X Γ e r x) (k : ∀ y, y = x → Bk X E (Γ.set i (.sh r y)) rest D) (hi : X.N[i]? = some a := by rfl) (hx : Loc X.env.scope a := by first | exact Or.inl rfl | exact Or.inr rfl)
    (hs : swapsWith e (some (.Name a p)) pos.line X.env = pure false := by rfl) (hf : X.fn a = true ∨ X.env.scope.names.lookup a = some .local := by first | exact .inl rfl | exact .inr rfl) : Bk X E Γ (.Assign [.Name a p] e pos :: rest) D := bk_set i nd he (k x rfl) hi hx hs hf
theorem bk_setLm (i : Nat) {y : Str} {py : Pos} {scope : Scope} {U : α → List Slot → List Slot} {val : α → β} (own : List (Str × Nat)) (nd : X.N.Nodup) (hi : EvI X Γ tg iter r as) (ok : BlkOk X.N X.env.scope scope own) (ht : ∀ q, TgOk (blkX X scope q) tg r U (own.map (·.2)))
    (hv : ∀ q, ∀ a ∈ as, Ev (blkX X scope q) (U a (wipeS Γ (own.map (·.2)))) elt s (val a)) (hl : as.length ≤ 100000)
    (k : Bk X E (Γ.set i (.sh (rLst s) (as.map val))) rest D) (hy : X.N[i]? = some y := by rfl) (hyl : X.env.scope.names.lookup y = some .local := by rfl)
    (hsw : swapsWith (.ListComp elt [⟨tg, iter, [], 0⟩] scope pos) (some (.Name y py)) spos.line X.env = pure true := by exact sw_true rfl rfl rfl (by decide +kernel))
    (hc : X.calm = true := by rfl) (hs : ∀ x, foldedSetIterable iter X.env x = pure x := by intro _; rfl) : Bk X E Γ (.Assign [.Name y py] (.ListComp elt [⟨tg, iter, [], 0⟩] scope pos) spos :: rest) D :=
  bk_setLf (keep := fun _ => true) (val := val) i own nd hi ok ht (fun q a m => ets_nil) (fun q a m _ => hv q a m) hl (by rw [filter_tt]; exact k) hy hyl hsw hc hs
theorem RetO.eqO {as' : List α} (h : RetO E D (oLst r as)) (q : as = as') : RetO E D (oLst r as') := q ▸ h
/-- an answer that is told frozen, handed back as it stands -/
theorem RetOk.own (h : RetOk E D (rLst r) as) : RetO E D (oLst r as) := fun p o G H l g n h1 ⟨vs, e, h2⟩ => by
  subst e
  refine h _ (upd G p (.lst vs)) H ⟨l.g.trans (Evl.Ex.new g), l.h, fun a o q => ?_, fun a o q1 q2 => ?_, l.m⟩ ⟨p, vs, rfl, upd_same, h2.mono (Evl.Ex.new g)⟩
  · by_cases z : a = p
    · subst z; rw [upd_same] at q; cases q; exact h1
    · rw [upd_ne z] at q; exact l.gh a o q
  · by_cases z : a = p
    · subst z; exact n
    · rw [upd_ne z] at q1; exact l.new a o q1 q2
/-- xs[i], any int in bounds -/
theorem getD_some {l : List α} {n : Nat} {d : α} (h : n < l.length) : l[n]? = some (l.getD n d) := by
  rw [List.getD_eq_getElem?_getD, List.getElem?_eq_getElem h]
  rfl
theorem ev_atS {d : α} (hb : 0 ≤ i ∧ i < (as.length : Int)) (h : Ev X Γ e (rSeq X.K r) as) (h2 : Ev X Γ f rInt i) (hs : PlainIx f := by exact plain_of rfl) : Ev X Γ (.Subscript e f pos) r (as.getD i.toNat d) :=
  ev_ixS (k := i.toNat) h (h2.eq (by omega)) (getD_some (by omega)) hs
theorem ev_at {d : α} (hb : 0 ≤ i ∧ i < (as.length : Int)) (h : Ev X Γ e (rLst r) as) (h2 : Ev X Γ f rInt i) (hs : PlainIx f := by exact plain_of rfl) : Ev X Γ (.Subscript e f pos) r (as.getD i.toNat d) := ev_atS hb h.seq h2 hs
theorem ev_atB {d : α} (hb : 0 ≤ i ∧ i < (as.length : Int)) (h : EvB X Γ e (oLst r as)) (h2 : Ev X Γ f rInt i) (hs : PlainIx f := by exact plain_of rfl) : Ev X Γ (.Subscript e f pos) r (as.getD i.toNat d) :=
  ev_ixB (k := i.toNat) h (h2.eq (by omega)) (getD_some (by omega)) hs
/-- xs[-1] -/
theorem ev_lastB {d : α} {k : Nat} {p1 p2 : Pos} (h : EvB X Γ e (oLst r as)) (hn : as ≠ []) : Ev X Γ (.Subscript e (.UnaryOp .USub (.Constant (.int 1) k p1) p2) pos) r (as.getLastD d) := fun E G H σ hh Q q =>
  WE.of (pe_ix ix_list WE.pe (pe_un un_neg pe_int) (plain_of rfl)) (h E G H σ hh _ fun p o G1 H1 l1 hp ⟨vs, e1, ha⟩ => by
    subst e1
    refine ⟨1, rfl, ?_⟩
    obtain ⟨l, b, rfl⟩ : ∃ l b, as = l ++ [b] := ⟨as.dropLast, as.getLast hn, (List.dropLast_concat_getLast hn).symm⟩
    have hv := ha.concat
    obtain ⟨ws, w, rfl, rw'⟩ := hv
    exact ⟨p, ws ++ [w], -1, w, rfl, rfl, .inl (.inl hp), atI_last ws w, by
      have z : (l ++ [b]).getLastD d = b := by simp [List.getLastD_eq_getLast?]
      rw [z] at q
      exact q w G1 H1 l1 rw'⟩)
theorem ev_last {d : α} {k : Nat} {p1 p2 : Pos} (h : Ev X Γ e (rLst r) as) (hn : as ≠ []) : Ev X Γ (.Subscript e (.UnaryOp .USub (.Constant (.int 1) k p1) p2) pos) r (as.getLastD d) := ev_lastB h.bor hn
/-- data that == reads -/
theorem eqv_int {K : PySem.W.Frag} : Eqv K rInt i (.int i) := ⟨fun G v h => by cases h; exact .int i, rfl⟩
theorem eqv_bool {K : PySem.W.Frag} {b : Bool} : Eqv K rBool b (.bool b) := ⟨fun G v h => by cases h; exact .bl b, rfl⟩
theorem eqv_str {K : PySem.W.Frag} (h : PyData.strOk u = true) : Eqv K rStr u (.str u) := ⟨fun G v h => by cases h; exact .str u, by simp [SeqAt.shaped, PyData.canLay0, h, PyData.depth]⟩
def pdPair (a : Int × Int) : PyData := .tuple [.int a.1, .int a.2]
theorem eqv_pair {K : PySem.W.Frag} {a : Int × Int} : Eqv K (rT2 K rInt rInt) a (pdPair a) := ⟨fun G v ⟨p, v1, v2, e, h, h1, h2⟩ => by
  cases e; cases h1; cases h2
  exact .tup h (.cons (.int _) (.cons (.int _) .nil)), rfl⟩
theorem pdPair_eqv {a b : Int × Int} : PyData.eqv (pdPair a) (pdPair b) = decide (a = b) := by
  obtain ⟨a1, a2⟩ := a
  obtain ⟨b1, b2⟩ := b
  simp [pdPair, PyData.eqv, PyData.eqvAll]
  by_cases h1 : a1 = b1 <;> by_cases h2 : a2 = b2 <;> simp [h1, h2]
def pdInts (a : List Int) : PyData := .list (a.map .int)
theorem dpAll_ints {K : PySem.W.Frag} {G : Hp} : ∀ {vs : List V} {ns : List Int}, All2 rInt G vs ns → DpAll K G vs (ns.map .int)
  | _, _, .nil => .nil
  | _, _, .cons h t => by cases h; exact .cons (.int _) (dpAll_ints t)
def pdStrs (a : List Str) : PyData := .list (a.map .str)
theorem dpAll_strs {K : PySem.W.Frag} {G : Hp} : ∀ {vs : List V} {ns : List Str}, All2 rStr G vs ns → DpAll K G vs (ns.map .str)
  | _, _, .nil => .nil
  | _, _, .cons h t => by cases h; exact .cons (.str _) (dpAll_strs t)
theorem eqv_strs {K : PySem.W.Frag} {ns : List Str} (hk : ∀ z ∈ ns, PyData.strOk z = true) : Eqv K (rLst rStr) ns (pdStrs ns) := ⟨fun G v ⟨p, vs, e, h, h2⟩ => by
  subst e
  exact .lst (.inl (.inl h)) (dpAll_strs h2), by
  have z : ∀ l : List Str, (∀ z ∈ l, PyData.strOk z = true) → PyData.canLayAll0 (l.map .str) = true := fun l => by
    induction l with
    | nil => intro _; rfl
    | cons a l ih =>
      intro h
      simp [PyData.canLayAll0, PyData.canLay0, ih (fun z m => h z (List.mem_cons_of_mem _ m)), h a List.mem_cons_self]
  have d : ∀ l : List Str, PyData.depthAll (l.map PyData.str) ≤ 1 := fun l => by
    induction l with
    | nil => simp [PyData.depthAll]
    | cons a l ih => simp [PyData.depthAll, PyData.depth]; omega
  unfold SeqAt.shaped pdStrs
  have := d ns
  simp only [PyData.canLay0, z ns hk, PyData.depth, Bool.true_and]
  exact decide_eq_true (by omega)⟩
theorem eqvAll_ints : ∀ {a b : List Int}, PyData.eqvAll (a.map .int) (b.map .int) = decide (a = b)
  | [], [] => rfl
  | [], _ :: _ => rfl
  | _ :: _, [] => rfl
  | x :: a, y :: b => by
    show (PyData.eqv (.int x) (.int y) && PyData.eqvAll (a.map .int) (b.map .int)) = _
    rw [eqvAll_ints]
    simp [PyData.eqv]
    by_cases h1 : x = y <;> by_cases h2 : a = b <;> simp [h1, h2]
theorem eqvAll_strs : ∀ {a b : List Str}, PyData.eqvAll (a.map .str) (b.map .str) = decide (a = b)
  | [], [] => rfl
  | [], _ :: _ => rfl
  | _ :: _, [] => rfl
  | x :: a, y :: b => by
    show (PyData.eqv (.str x) (.str y) && PyData.eqvAll (a.map .str) (b.map .str)) = _
    rw [eqvAll_strs]
    simp [PyData.eqv]
    by_cases h1 : x = y <;> by_cases h2 : a = b <;> simp [h1, h2]
theorem pdInts_eqv {a b : List Int} : PyData.eqv (pdInts a) (pdInts b) = decide (a = b) := by
  unfold pdInts PyData.eqv
  exact eqvAll_ints
theorem pdStrs_eqv {a b : List Str} : PyData.eqv (pdStrs a) (pdStrs b) = decide (a = b) := by
  unfold pdStrs PyData.eqv
  exact eqvAll_strs
/-! methods of texts -/
theorem ev_count {apos : Pos} (ha : Ev X Γ e rStr u) (hb : Ev X Γ f rStr v) (hst : starEach [f] X.env = [(false, eval f X.env)] := by rfl) (hbase : attributeBase e "count" X.env (eval e X.env) = eval e X.env := by rfl) (hline : (apos.endLine == pos.line) = true := by rfl) :
    Ev X Γ (.Call (.Attribute e "count" apos) [f] [] pos) rInt (Txt.count u v) := ev_m1 PySem.F.slot_str_count PySem.F.type_str_count mt_count ha hb (fun G H b ex hb Q q => by
  cases hb
  exact ⟨u, v, rfl, rfl, q _ G H (.refl ex) rfl⟩) hst hbase hline
theorem eo_split {apos : Pos} (hv : (v.length == 0) = false) (hn : u.length + 2 ≤ sizeLine) (ha : Ev X Γ e rStr u) (hb : Ev X Γ f rStr v) (hst : starEach [f] X.env = [(false, eval f X.env)] := by rfl) (hbase : attributeBase e "split" X.env (eval e X.env) = eval e X.env := by rfl) (hline : (apos.endLine == pos.line) = true := by rfl) :
    EvO X Γ (.Call (.Attribute e "split" apos) [f] [] pos) (oLst rStr (Txt.split u v)) := eo_m1 PySem.F.slot_str_split PySem.F.type_str_split mt_split ha hb (fun G H b ex hb Q q => by
  cases hb
  exact ⟨u, v, rfl, rfl, hv, hn, fun p n => q p _ _ n rfl ⟨_, rfl, all2_ofStr _⟩⟩) hst hbase hline
theorem ev_intT (hi : ∃ n, PySem.intText? u = some n) (hl : u.length ≤ 640) (h : Ev X Γ e rStr u) (hm : X.mg "int" = none) (hg : Gl X "int" := by rfl) (he : starEach (e :: []) X.env = (false, eval e X.env) :: starEach [] X.env := by rfl) (hpl : (backTo pos (starEach [] X.env)).any (·.1) = false := by rfl) :
    Ev X Γ (.Call (.Name "int" p) [e] [] pos) rInt ((PySem.intText? u).getD 0) := fun E G H σ hh Q q => by
  obtain ⟨n, hn⟩ := hi
  exact WE.of (pe_callTy call_int_str hg hm (by decide +kernel) (pa_cons WE.pe pa_nil he) (he := he) (hpl := hpl)) (h E G H σ hh _ fun v G1 H1 l1 r1 => ⟨u, n, by rw [show v = _ from r1], hn, hl, q _ G1 H1 l1 (by rw [hn]; rfl)⟩)
/-! slices -/
theorem eo_from {p2 : Pos} (h : EvB X Γ e (oLst r as)) (h2 : Ev X Γ f rInt i) : EvO X Γ (.Subscript e (.Slice (some f) none none p2) pos) (oLst r (cutL as (some i) none)) := fun E G H σ hh Q q =>
  WE.of (pe_slice sl_list WE.pe (po_some WE.pe) po_none) (h E G H σ hh _ fun p o G1 H1 l1 hp ⟨vs, e1, ha⟩ => by
    subst e1
    exact h2 E G1 H1 σ (hh.step l1) _ fun w G2 H2 l2 r2 => ⟨i, r2, p, vs, rfl, .inl (.inl (l2.h _ _ hp)), fun p3 n => q p3 _ G2 _ (Evl.fresh_back (l1.trans l2).h n) ((l1.trans l2).addO n) (Evl.fresh_back l2.gh n) upd_same ⟨_, rfl, (ha.mono l2.g).cut _ _⟩⟩)
theorem eo_to {p2 : Pos} (h : EvB X Γ e (oLst r as)) (h2 : Ev X Γ f rInt i) : EvO X Γ (.Subscript e (.Slice none (some f) none p2) pos) (oLst r (cutL as none (some i))) := fun E G H σ hh Q q =>
  WE.of (pe_slice sl_list WE.pe po_none (po_some WE.pe)) (h E G H σ hh _ fun p o G1 H1 l1 hp ⟨vs, e1, ha⟩ => by
    subst e1
    exact h2 E G1 H1 σ (hh.step l1) _ fun w G2 H2 l2 r2 => ⟨i, r2, p, vs, rfl, .inl (.inl (l2.h _ _ hp)), fun p3 n => q p3 _ G2 _ (Evl.fresh_back (l1.trans l2).h n) ((l1.trans l2).addO n) (Evl.fresh_back l2.gh n) upd_same ⟨_, rfl, (ha.mono l2.g).cut _ _⟩⟩)
theorem eo_fromto {g : Expr} {p2 : Pos} (h : EvB X Γ e (oLst r as)) (h2 : Ev X Γ f rInt i) (h3 : Ev X Γ g rInt j) : EvO X Γ (.Subscript e (.Slice (some f) (some g) none p2) pos) (oLst r (cutL as (some i) (some j))) := fun E G H σ hh Q q =>
  WE.of (pe_slice sl_list WE.pe (po_some WE.pe) (po_some WE.pe)) (h E G H σ hh _ fun p o G1 H1 l1 hp ⟨vs, e1, ha⟩ => by
    subst e1
    exact h2 E G1 H1 σ (hh.step l1) _ fun w G2 H2 l2 r2 => ⟨i, r2, h3 E G2 H2 σ ((hh.step l1).step l2) _ fun w G3 H3 l3 r3 => ⟨j, r3, p, vs, rfl, .inl (.inl ((l2.trans l3).h _ _ hp)), fun p3 n => q p3 _ G3 _ (Evl.fresh_back ((l1.trans l2).trans l3).h n) (((l1.trans l2).trans l3).addO n) (Evl.fresh_back l3.gh n) upd_same ⟨_, rfl, (ha.mono (l2.trans l3).g).cut _ _⟩⟩⟩)
/-- a for over a pair of like things -/
theorem ei_t2 {tg : Expr} {a : α × α} (h : Ev X Γ e (rT2 X.K r r) a) : EvI X Γ tg e r [a.1, a.2] := ⟨_, pi_tup WE.pe, fun E G H σ hh R q => h E G H σ hh _ fun v G1 H1 l1 ⟨p, v1, v2, e1, hp, h1, h2⟩ =>
  ⟨p, e1, ⟨_, Evl.ex_t l1.gh hp⟩, q _ G1 H1 l1 fun i G2 H2 g1 g2 => ⟨fun b eb => by
    have hp2 := Evl.ex_t (g1.trans g2) hp
    have ha : All2 r G1 [v1, v2] [a.1, a.2] := .cons h1 (.cons h2 .nil)
    obtain ⟨v, ev, rv⟩ := ha.get eb
    exact ⟨⟨_, v, hp2, ev⟩, fun x H' y => by
      obtain ⟨e3, y2⟩ := y
      have e4 := y2 _ hp2
      rw [ev] at e4
      cases e4
      rw [e3]
      exact ⟨G2, .refl g2, r.mono g1 rv⟩⟩, fun le => ⟨_, Evl.ex_t (g1.trans g2) hp, by exact le⟩⟩⟩⟩
theorem tg_tup3 {t1 t2 t3 : Expr} {n : Nat} {U : α → List Slot → List Slot} {W : β → List Slot → List Slot} {Z : γ → List Slot → List Slot} {vs ws zs : List Nat} (h1 : TgOk X t1 r U vs) (h2 : TgOk X t2 s W ws) (h3 : TgOk X t3 t Z zs) (hc : X.calm = true := by rfl)
    (hs1 : (assignEach (t1 :: [t2, t3]) X.env).map (·.2) = assign t1 X.env :: (assignEach [t2, t3] X.env).map (·.2) := by rfl) (hs2 : (assignEach (t2 :: [t3]) X.env).map (·.2) = assign t2 X.env :: (assignEach [t3] X.env).map (·.2) := by rfl) (hs3 : (assignEach (t3 :: []) X.env).map (·.2) = assign t3 X.env :: (assignEach [] X.env).map (·.2) := by rfl)
    (hn : (assignEach [t1, t2, t3] X.env).length = 3 := by rfl) (hst : (assignEach [t1, t2, t3] X.env).findIdx? (·.1) = none := by rfl) :
    TgOk X (.Tuple [t1, t2, t3] n pos) (rT3 X.K r s t) (fun a Γ => Z a.2.2 (W a.2.1 (U a.1 Γ))) (vs ++ (ws ++ zs)) := fun E G H σ Γ v a hh hv Q q => by
  obtain ⟨p, v1, v2, v3, e, hp, q1, q2, q3⟩ := hv
  subst e
  refine WG.of (pg_tup hc (pgs_cons (t := WG X t1) WG.pg (pgs_cons (t := WG X t2) WG.pg (pgs_cons (t := WG X t3) WG.pg pgs_nil hs3) hs2) hs1) hn hst) ⟨p, [v1, v2, v3], rfl, Evl.ex_t hh.le.gh hp, rfl, v1, [v2, v3], rfl, ?_⟩
  exact h1 E G H σ Γ v1 a.1 hh q1 _ fun σ1 b1 hh1 => ⟨v2, [v3], rfl, h2 E G H σ1 _ v2 a.2.1 hh1 q2 _ fun σ2 b2 hh2 => ⟨v3, [], rfl, h3 E G H σ2 _ v3 a.2.2 hh2 q3 _ fun σ3 b3 hh3 => ⟨rfl, q σ3 (b1.trans (b2.trans b3)) hh3⟩⟩⟩
theorem ev_t3a {a : α × β × γ} {k : Nat} {p2 : Pos} (h : Ev X Γ e (rT3 X.K r s t) a) : Ev X Γ (.Subscript e (.Constant (.int 0) k p2) pos) r a.1 := fun E G H σ hh Q q =>
  WE.of (pe_ix ix_tup WE.pe pe_int (plain_of rfl)) (h E G H σ hh _ fun v G1 H1 l1 ⟨p, v1, v2, v3, e1, hp, h1, h2, h3⟩ => ⟨p, _, 0, v1, e1, rfl, Evl.ex_t l1.gh hp, rfl, q _ G1 H1 l1 h1⟩)
theorem ev_t3b {a : α × β × γ} {k : Nat} {p2 : Pos} (h : Ev X Γ e (rT3 X.K r s t) a) : Ev X Γ (.Subscript e (.Constant (.int 1) k p2) pos) s a.2.1 := fun E G H σ hh Q q =>
  WE.of (pe_ix ix_tup WE.pe pe_int (plain_of rfl)) (h E G H σ hh _ fun v G1 H1 l1 ⟨p, v1, v2, v3, e1, hp, h1, h2, h3⟩ => ⟨p, _, 1, v2, e1, rfl, Evl.ex_t l1.gh hp, rfl, q _ G1 H1 l1 h2⟩)
theorem ev_t3c {a : α × β × γ} {k : Nat} {p2 : Pos} (h : Ev X Γ e (rT3 X.K r s t) a) : Ev X Γ (.Subscript e (.Constant (.int 2) k p2) pos) t a.2.2 := fun E G H σ hh Q q =>
  WE.of (pe_ix ix_tup WE.pe pe_int (plain_of rfl)) (h E G H σ hh _ fun v G1 H1 l1 ⟨p, v1, v2, v3, e1, hp, h1, h2, h3⟩ => ⟨p, _, 2, v3, e1, rfl, Evl.ex_t l1.gh hp, rfl, q _ G1 H1 l1 h3⟩)
/-! names of the module -/
theorem ev_gint {n : Str} (h : ∃ t, X.mg n = some (.int i t)) (hg : Gl X n := by rfl) (hd : (n == ("__debug__" : Str)) = false := by decide) : Ev X Γ (.Name n pos) rInt i := fun E G H σ hh Q q => by
  obtain ⟨t, h⟩ := h
  exact WE.of (pe_glob (v := .int i) hg h ⟨t, rfl⟩ hd) (q _ G H (.refl hh.le.gh) rfl)
theorem ev_gstr {n : Str} (h : ∃ t, X.mg n = some (.str u t)) (hg : Gl X n := by rfl) (hd : (n == ("__debug__" : Str)) = false := by decide) : Ev X Γ (.Name n pos) rStr u := fun E G H σ hh Q q => by
  obtain ⟨t, h⟩ := h
  exact WE.of (pe_glob (v := .str u) hg h ⟨t, rfl⟩ hd) (q _ G H (.refl hh.le.gh) rfl)
theorem ev_gref {n : Str} {a : Addr} (h : X.mg n = some (.ref a)) (hr : ∀ G, r.rel G (.ref a) x) (hg : Gl X n := by rfl) (hd : (n == ("__debug__" : Str)) = false := by decide) : Ev X Γ (.Name n pos) r x := fun E G H σ hh Q q =>
  WE.of (pe_glob (v := .ref a) hg h rfl hd) (q _ G H (.refl hh.le.gh) (hr G))
/-! data of any form -/
theorem ev_dint (h : Ev X Γ e rInt i) : Ev X Γ e (rDyn X.K ro) (.int i) := fun E G H σ hh Q q => h E G H σ hh Q fun v G1 H1 l1 r1 => q v G1 H1 l1 (by cases r1; exact .int i)
theorem ev_dstr (h : Ev X Γ e rStr u) : Ev X Γ e (rDyn X.K ro) (.str u) := fun E G H σ hh Q q => h E G H σ hh Q fun v G1 H1 l1 r1 => q v G1 H1 l1 (by cases r1; exact .str u)
end
end Hf

namespace Hf
open PySem PySem.Spec PyProof.Rows L2
abbrev FnP (K : PySem.W.Frag) (x : Str) (st : Stmt) (f : Addr) (fd : FuncData) : Prop := FunD K x x (defArgs st) (defBody st) (defScope st) [] [] f fd
/-! sizes of ints -/
def Top (i : Int) : Prop := i.natAbs.log2 < 100000
def Bot (j : Int) : Prop := 0 < j ∧ j.natAbs.log2 < 9000
theorem log2_lt {n k : Nat} (h0 : 0 < k) (h : n < 2 ^ k) : n.log2 < k := PySem.Flt.log2_lt_of h0 h
theorem top_of {i : Int} {k : Nat} (h : i.natAbs < 2 ^ k) (h0 : 0 < k) (hk : k ≤ 100000) : Top i := Nat.lt_of_lt_of_le (log2_lt h0 h) hk
theorem bot_of {i : Int} {k : Nat} (hp : 0 < i) (h : i.natAbs < 2 ^ k) (h0 : 0 < k) (hk : k ≤ 9000) : Bot i := ⟨hp, Nat.lt_of_lt_of_le (log2_lt h0 h) hk⟩
theorem Bot.top {i : Int} (h : Bot i) : Top i := Nat.lt_trans h.2 (by decide)
theorem top1 : Top 1 := by unfold Top; decide
theorem cm {i j : Int} (h : Top i) (k : Top j) : CMulW i j := by unfold CMulW Top at *; omega
theorem Bot.div {i j : Int} (h : Bot j) : CDivW i j := h
theorem log2_mono {m n : Nat} (h : m ≤ n) : m.log2 ≤ n.log2 := by
  by_cases hm : m = 0
  · subst hm; simp
  · exact (Nat.le_log2 (by omega)).mpr (Nat.le_trans ((Nat.le_log2 hm).mp (Nat.le_refl _)) h)
theorem Bot.le {i j : Int} (h : Bot j) (h0 : 0 < i) (h1 : i ≤ j) : Bot i := ⟨h0, Nat.lt_of_le_of_lt (log2_mono (by omega)) h.2⟩
/-! shares -/
def share (t b : Int) : Int × Int := (t / (Int.gcd t b : Int), b / (Int.gcd t b : Int))
def isMore (a b : Int × Int) : Bool := decide (b.1 * a.2 < a.1 * b.2)
theorem gcd_pos_r {t b : Int} (h : 0 < b) : 0 < (Int.gcd t b : Int) := by
  have := Int.gcd_pos_of_ne_zero_right t (b := b) (by omega)
  omega
theorem gcd_le_r {t b : Int} (h : 0 < b) : (Int.gcd t b : Int) ≤ b := Int.le_of_dvd h (Int.gcd_dvd_right ..)
theorem gcd_step {x y : Int} (hx : 0 ≤ x) (hy : 0 ≤ y) : Int.gcd y (x % y) = Int.gcd x y := by
  obtain ⟨m, rfl⟩ := Int.eq_ofNat_of_zero_le hx
  obtain ⟨n, rfl⟩ := Int.eq_ofNat_of_zero_le hy
  show Nat.gcd _ _ = Nat.gcd _ _
  rw [← Int.natCast_emod, Int.natAbs_natCast, Int.natAbs_natCast, Int.natAbs_natCast]
  rw [Nat.gcd_comm, Nat.gcd_comm m n, Nat.gcd_rec n m]
theorem gcd_absif {t b : Int} : (Int.gcd (if t < 0 then -t else t) b) = Int.gcd t b := by
  split
  · simp
  · rfl
/-- an own global that is an object of the written part -/
theorem ev_gref' {X : Cx} {Γ : List Slot} {α : Type} {r : Rp α} {x : α} {pos : Pos} {n : Str} (h : ∃ a, X.mg n = some (.ref a) ∧ ∀ G, r.rel G (.ref a) x) (hg : Gl X n := by rfl) (hd : (n == ("__debug__" : Str)) = false := by decide) : Ev X Γ (.Name n pos) r x := by
  obtain ⟨a, h1, h2⟩ := h
  exact ev_gref h1 h2 hg hd
theorem ev_lenT2 {X : Cx} {Γ : List Slot} {α β : Type} {r : Rp α} {s : Rp β} {a : α × β} {e : Expr} {pos p : Pos} (h : Ev X Γ e (rT2 X.K r s) a) (hm : X.mg "len" = none) (hg : Gl X "len" := by rfl) (he : starEach (e :: []) X.env = (false, eval e X.env) :: starEach [] X.env := by rfl) (hpl : (backTo pos (starEach [] X.env)).any (·.1) = false := by rfl) :
    Ev X Γ (.Call (.Name "len" p) [e] [] pos) rInt 2 := fun E G H σ hh Q q =>
  WE.of (pe_callB call_len_seq hg hm PySem.boot_len (pa_cons WE.pe pa_nil he) (he := he) (hpl := hpl)) (h E G H σ hh _ fun v G1 H1 l1 ⟨p, v1, v2, e1, hp, _, _⟩ => ⟨p, _, by rw [e1], .inr (Evl.ex_t l1.gh hp), q _ G1 H1 l1 rfl⟩)
theorem kind_seq {K : PySem.W.Frag} {α : Type} {r : Rp α} {as : List α} : Kind K (rSeq K r) as "list" := fun G v ⟨p, vs, e, h, _⟩ => by
  subst e
  rcases h with (h | ⟨o, h⟩) | ⟨o, its, n, h, c, _⟩
  · exact .base (.lst h)
  · exact .base (.frz h)
  · exact .kList h c
/-- int(..) // .. of the law's cells -/
def cellAt (script : List Int) (k : Int) : Int :=
  if decide (k < (script.length : Int)) = true then script.getD k.toNat 0
  else if PyData.eqv (pdInts script) (pdInts []) = true then k * 48271
  else (script.getD (k % (script.length : Int)).toNat 0 + k) * 48271 % 2147483647
theorem eqv_seqInts {K : PySem.W.Frag} {ns : List Int} : Eqv K (rSeq K rInt) ns (pdInts ns) := ⟨fun G v ⟨p, vs, e, h, h2⟩ => by
  subst e
  exact .lst h (dpAll_ints h2), by
  have z : ∀ l : List Int, PyData.canLayAll0 (l.map .int) = true := fun l => by
    induction l with
    | nil => rfl
    | cons a l ih => simp [PyData.canLayAll0, PyData.canLay0, ih]
  have d : ∀ l : List Int, PyData.depthAll (l.map PyData.int) ≤ 1 := fun l => by
    induction l with
    | nil => simp [PyData.depthAll]
    | cons a l ih => simp [PyData.depthAll, PyData.depth]; omega
  unfold SeqAt.shaped pdInts
  have := d ns
  simp only [PyData.canLay0, z, PyData.depth, Bool.true_and]
  exact decide_eq_true (by omega)⟩
theorem eqv_ints {K : PySem.W.Frag} {ns : List Int} : Eqv K (rLst rInt) ns (pdInts ns) := ⟨fun G v ⟨p, vs, e, h, h2⟩ => (eqv_seqInts (K := K)).dp G v ⟨p, vs, e, .inl (.inl h), h2⟩, (eqv_seqInts (K := K)).sh⟩
end Hf

namespace Hf
open PySem PySem.Spec PyProof.Rows L2
def isShare (t : Int × Int) : Bool := decide (0 ≤ t.1) && decide (1 ≤ t.2) && decide (share t.1 t.2 = t)
def isNum (i lo hi : Int) : Bool := decide (lo ≤ i) && decide (i ≤ hi)
theorem foldl_next {α β : Type} {xs : List α} {i : Nat} {a : α} {f : β → α → β} {b s : β} (h : xs[i]? = some a) (e : s = (xs.take i).foldl f b) {s' : β} (k : s' = f s a) : s' = (xs.take (i + 1)).foldl f b := by
  rw [List.take_add_one, h, List.foldl_append, ← e, k]
  rfl
/-! one sign many times -/
theorem mul_length {x : Str} {n : Int} (h : 0 ≤ n) (h1 : x.length = 1) : (Txt.mul x n).length = n.toNat := by
  unfold Txt.mul
  by_cases z : n < 1
  · rw [if_pos z]
    have : n = 0 := by omega
    subst this
    rfl
  · rw [if_neg z]
    by_cases e : n = 1
    · subst e
      rw [if_pos (by simp)]
      simpa using h1
    · rw [if_neg (by simp [e, h1])]
      have g : ∀ (k : Nat) (acc : Array Nat), ((List.replicate k x.cps).foldl (· ++ ·) acc).size = acc.size + k := fun k => by
        induction k with
        | zero => intro acc; simp
        | succ k ih =>
          intro acc
          rw [List.replicate_succ, List.foldl_cons, ih, Array.size_append]
          have : x.cps.size = 1 := h1
          omega
      show ((List.replicate n.toNat x.cps).foldl (· ++ ·) #[]).size = n.toNat
      rw [g]
      simp
theorem mulOk_one {x : Str} {n : Int} (h : 0 ≤ n ∧ n ≤ 1000) (h1 : x.length = 1 := by rfl) : MulOk x n := by
  refine ⟨by simp; omega, fun _ _ => ?_, fun _ _ => ?_⟩
  · rw [h1]
    have : (2 ^ 63 - 1 : Int) / n ≥ 1 := by
      have : (2 ^ 63 - 1 : Int) / n ≥ (2 ^ 63 - 1) / 1000 * 1 / 1 := by
        rw [ge_iff_le, Int.le_ediv_iff_mul_le (by omega)]
        omega
      omega
    omega
  · rw [h1]
    unfold Builtin.Str.tooLong
    have : n.toNat ≤ 1000 := by omega
    have z : 1 * n.toNat ≤ sizeLine := Evl.sz_of (by omega)
    simp only [decide_eq_false_iff_not]
    omega
/-! shares of the whole -/
def isPart (thing : Int × Int) : Bool := (isShare thing && !isMore thing (1, 1))
theorem part_facts {t : Int × Int} (h : isPart t = true) : 0 ≤ t.1 ∧ 1 ≤ t.2 ∧ t.1 ≤ t.2 := by
  simp [isPart, isShare, isMore] at h
  omega
theorem part_pos {t : Int × Int} (h : isPart t = true) (hl : t.2.natAbs.log2 < 30) : 0 < t.2 ∧ t.2 < 1073741824 := by
  have := part_facts h
  refine ⟨by omega, ?_⟩
  have : t.2.natAbs < 2 ^ 30 := (Nat.log2_lt (by omega)).mp hl
  omega
def doneOf (s : Int × Int) (many : Int) : Int := s.1 * many / s.2
def barT (s : Int × Int) (many : Int) : Str := Txt.mul "#" (doneOf s many) ++ Txt.mul "." (many - doneOf s many)
theorem done_bounds {t : Int × Int} {m : Int} (h : isPart t = true) (hm : 1 ≤ m) : 0 ≤ doneOf t m ∧ doneOf t m ≤ m := by
  obtain ⟨h0, h1, h2⟩ := part_facts h
  unfold doneOf
  refine ⟨Int.ediv_nonneg (Int.mul_nonneg h0 (by omega)) (by omega), ?_⟩
  have : t.1 * m ≤ m * t.2 := by
    rw [Int.mul_comm m]
    exact Int.mul_le_mul_of_nonneg_right h2 (by omega)
  have := Int.ediv_le_ediv (by omega : 0 < t.2) this
  rw [Int.mul_ediv_cancel _ (by omega)] at this
  exact this
end Hf

namespace Hf
open PySem PySem.Spec PyProof.Rows L2
abbrev FnD (K : PySem.W.Frag) (x : Str) (st : Stmt) (dvs : List V) (f : Addr) (fd : FuncData) : Prop := FunD K x x (defArgs st) (defBody st) (defScope st) dvs [] f fd
theorem cxl_no {P : Program} {w : World} {l : List Env} {H : Hp} {s : Shared} {e : Value} {s' : Shared} (h : L2.CX P w l H s E0 e s') : False := by
  obtain ⟨_, _, _, _, _, _, _, _, _, _, _, _, z⟩ := h
  exact z.elim
theorem fn_quiet {P : Program} {w : World} {K : PySem.W.Frag} {mg : Str → Option Value} {base : Heap} {k : Nat} {f : Addr} {fd : FuncData} {ps : List Str} {sp : Sp} (F : FnOk P w K mg base (CXL P w) k f fd ps sp) (h : ∀ vs H Q E E', sp vs H Q E → sp vs H Q E') : FnOk P w K mg base CX0 k f fd ps sp :=
  ⟨F.len, fun A outer s H args us vs Q E hr he hb hv hs => codeAny_mono (F.run A outer s H args us vs Q E0 hr he hb hv (h _ _ _ _ _ hs)) fun r s' q => by
    cases r with
    | error e => exact (cxl_no q).elim
    | ok fl => cases fl <;> exact q⟩
/-- a def of which the last parameters may be left out -/
theorem Has.mkD {P : Program} {w : World} {K : PySem.W.Frag} {mg : Str → Option Value} {base : Heap} {x : Str} {k : Nat} {sp spF : Sp} {f : Addr} {fd : FuncData} {ps : List Str} {dvs : List V} (hm : mg x = some (.ref f)) (hk : PySem.W.keepIn K (.ref f) = true) (hb : ∃ ds, Vals dvs ds ∧ Binds K fd ps ds) (F : FnOk P w K mg base (CXL P w) k f fd ps spF)
    (h : ∀ vs H Q, sp vs H Q E0 → spF (vs ++ dvs) H Q E0) : Has P w K mg base x k sp := by
  obtain ⟨ds, h1, h2⟩ := hb
  exact ⟨f, fd, ps, spF, dvs, ds, hm, hk, h2, h1, F, h⟩
theorem args_app {G : Hp} {v : V} {t : Ty} (h : t.r.rel G v t.a) : ∀ {vs : List V} {ts : List Ty}, Args G vs ts → Args G (vs ++ [v]) (ts ++ [t])
  | [], [], _ => ⟨h, trivial⟩
  | _ :: _, _ :: _, k => ⟨k.1, args_app h k.2⟩
end Hf

/-! set(list of ints), sorted(set of ints), any number of them -/
namespace Hf
open PySem PySem.Spec PyProof.Rows L2 PySem.W PySem.Calls
/-- the set that is made first -/
abbrev nset (w : World) : Obj := { cls := .type "set", dict := none, data := .set #[] 0 (.fresh 0 0 (!w.params.followText "set-order")) }
section
variable {P : Program} {w : World} {A : Around} {E : Value → Shared → Prop} {s : Shared}
set_option maxHeartbeats 3200000 in
theorem set_of_list {l : Addr} {items : Array Value} (ns : List Int) {Q : Value → Shared → Prop} (nh : A.handled = none) (hl : s.heap.IsList l items) (it : IntsAre items.toList ns) (fit : ns.length + 1 < scanBound)
    (k : ∀ (g : Heap) (tk c : Nat), SetR w g s.heap.objs.size (fun j => decide (j ∈ ns)) c → c ≤ ns.length → (∀ b o, s.heap.get? b = some o → g.get? b = some o) → Q (.ref s.heap.objs.size) { s with heap := g, toks := tk }) :
    wpAny (model P w) A (call (.type "set") [.ref l]) Q E s := by
  have sz : items.size = ns.length := by have q := it.length; rw [Array.length_toList] at q; exact q
  have fs := F.called_set
  obtain ⟨mc, mt, hmro⟩ := fs.mro
  have x1 := fs.made; have x2 := fs.sub; have x3 := fs.notType; have x4 := fs.canCreate
  refine wpAny_call (codeAny_of_tree (wpAny_pure (show _ ∧ _ from ⟨Code.quiet_builtin _ (by decide +kernel), codeAny_builtin F.entry_type_call ?_⟩)))
  rw [Around.under_plain (weight_type_call_type "set" [.ref l] []) rfl]
  have x5 := F.typeCall_set_1 (.ref l)
  repeat (any_goals (first | assumption | wp_step))
  refine codeAny_mono (code_set_led1 (.ref l) (E := E) (Q₁ := fun ob u => ob = .ref s.heap.objs.size ∧ u = { s with heap := s.heap.push (nset w) }) ⟨rfl, rfl⟩) fun r u hr => ?_
  match r, hr with
  | .error e, hr => exact hr
  | .ok (.ret ob), hr =>
    obtain ⟨e1, e2⟩ := hr
    subst e1; subst e2
    have hS : (s.heap.push (nset w)).get? s.heap.objs.size = some (nset w) := Heap.get?_push_size _ rfl
    have hT : Shared.TypeIs { s with heap := s.heap.push (nset w) } (.ref s.heap.objs.size) "set" := ⟨_, hS, rfl⟩
    have x6 := fs.init.lookup; have x7 := fs.init.bind (.ref s.heap.objs.size)
    repeat (any_goals (first | assumption | wp_step))
    refine codeAny_mono (codeAny_call_builtin (R := wants (fun r s₂ => r = .none ∧ ∃ g tk c, s₂ = { s with heap := g, toks := tk } ∧ SetR w g s.heap.objs.size (fun j => decide (j ∈ ns)) c ∧ c ≤ ns.length ∧
        (∀ b o, s.heap.get? b = some o → g.get? b = some o)) E) fs.init.plain F.entry_set_init (check_set_init_1 hT ?_)) fun r₂ s₂ hr₂ => ?_
    · obtain ⟨⟨ocls, odict, odata, oslots⟩, hol, hcl, nl, hdl⟩ := hl
      simp only at hcl hdl
      subst hcl; subst hdl
      have hl1 : (s.heap.push (nset w)).IsList l items := ⟨_, Heap.get?_push_of_some _ hol, rfl, nl, rfl⟩
      have hol' : (s.heap.push (nset w)).get? l = some { cls := .type "list", dict := odict, data := .seq items nl, slots := oslots } := Heap.get?_push_of_some _ hol
      have y1 := F.sub_list_set; have y2 := F.sub_list_frozenset
      have y3 : (Value.type "list" == Value.type "dict") = false := by decide
      unfold Builtin.«set.__init__» noKeywords Builtin.Frozenset.updateFrom
      generalize hPI : pyIter = PI
      wp_walk
      subst hPI
      refine wpAny_pyIter_list hl1 (wpAny_bind (wpAny_runValue ?_))
      have ls : l < s.heap.objs.size := Heap.lt_size hol
      have pz : (s.heap.push (nset w)).objs.size = s.heap.objs.size + 1 := Heap.size_push ..
      have hh3 : A.in1.in1.in1.handled = none := by simp [nh]
      refine set_update_ints ((Walks.list hh3 (s.heap.push (nset w)).objs.size l (by rw [pz]; exact Nat.ne_of_lt (Nat.lt_succ_of_lt ls)) items).toS) s.heap.objs.size
        (by rw [pz]; simp only [List.mem_cons, List.not_mem_nil, or_false, not_or]; exact ⟨Nat.ne_of_lt (Nat.lt_succ_self _), Nat.ne_of_gt ls⟩) ns sz fit (fun i v hv => ?hval) (items.size - 0) 0 _ (by omega) (Nat.zero_le _) ⟨⟨_, Heap.get?_push_size _ rfl, rfl, rfl⟩, hl1.push _⟩ ⟨0, Nat.le_refl 0, setR_new_at (Heap.get?_push_of_some _ hS)⟩ fun s' c' hm hc' hS' => ?_
      case hval =>
        have hi : i < ns.length := by rw [← sz]; exact (Array.getElem?_eq_some_iff.mp hv).1
        obtain ⟨t, e⟩ := it.int_at i v (by rw [Array.getElem?_toList]; exact hv)
        refine ⟨ns[i], t, List.getElem?_eq_getElem hi, ?_⟩
        rw [e, List.getD_eq_getElem?_getD, List.getElem?_eq_getElem hi]; rfl
      obtain ⟨g, g2, d', tk, os'⟩ := s'
      have eg : g2 = s.gens := hm.gens
      have ed : d' = s.drawn := hm.drawn
      have eo : os' = s.os := hm.os
      subst eg; subst ed; subst eo
      rw [sz] at hc'
      refine wpAny_pure (show wpAny _ _ (ret Value.none) _ _ _ from wpAny_pure ⟨rfl, g, tk, c', rfl, hS', hc', fun b o e => ?_⟩)
      have hb0 : b < s.heap.objs.size := Heap.lt_size e
      exact hm.heap b o (by rw [pz]; simp only [List.mem_cons, List.not_mem_nil, or_false, not_or]; exact ⟨Nat.ne_of_lt hb0, Nat.ne_of_lt (Nat.lt_succ_of_lt hb0)⟩) (Heap.get?_push_of_some _ (Heap.get?_push_of_some _ e))
    · match r₂, hr₂ with
      | .error e, hr₂ => exact hr₂
      | .ok (.ret r), hr₂ =>
        obtain ⟨e1, g, tk, c', e2, hS', hc', hk'⟩ := hr₂
        subst e1; subst e2
        repeat (any_goals (first | assumption | wp_step))
        exact k _ _ _ hS' hc' hk'
theorem sorted_of_set {a : Addr} {S : Int → Bool} {n : Nat} {Q : Value → Shared → Prop} (R : SetR w s.heap a S n) (nh : A.handled = none)
    (k : ∀ u p (out : Array Value) (c : Nat) (ns : List Int), (∀ b o, s.heap.get? b = some o → u.heap.get? b = some o) → u.gens = s.gens → u.os = s.os → s.heap.objs.size ≤ p →
      u.heap.get? p = some (seqObj "list" out c) → IntsAre out.toList ns → ns.Pairwise (· < ·) → (∀ k, k ∈ ns ↔ S k = true) → ns.length ≤ scanBound → Q (.ref p) u) :
    wpAny (model P w) A (call (.builtin "sorted") [.ref a]) Q E s := by
  obtain ⟨o, es, ep, t, ho, hex, hd, g, nd, hm, hb, hf, hn, hr, hl⟩ := R
  refine call_function_entry kind_sorted plain_sorted entry_sorted (args_sorted1 _) ?_
  unfold Builtin.«sorted»
  refine wpAny_bind (m := checkCount "sorted" 1 1 _) (wpAny_pure (wpAny_bind (collect_set (A := A.in1) nh ⟨o, ho, hex.1, hd⟩ hf hb hr hl fun u vs k1 hz g1 o1 pm => ?_)))
  have vl : vs.length = es.size := by rw [pm.length_eq, List.length_map, Array.length_toList]
  have hI : IntsAre vs (vs.map Builtin.Re.reRawOf) := ints_of vs fun v hv => by
    obtain ⟨e, he, q⟩ := List.mem_map.mp (pm.mem_iff.mp hv)
    obtain ⟨i, tk, h1, _⟩ := g e he
    exact ⟨i, tk, q.symm.trans h1⟩
  have pk : (vs.map Builtin.Re.reRawOf).Perm (es.toList.map keyOf) := by
    have q := pm.map Builtin.Re.reRawOf
    rwa [List.map_map] at q
  have lim : vs.length ≤ sizeLine := by rw [vl]; exact fits_of_scanBound hb
  have hoL : (u.heap.push (seqObj "list" vs.toArray 0)).get? u.heap.objs.size = some (seqObj "list" vs.toArray 0) := Heap.get?_push_size _ rfl
  refine wpAny_bind (wpAny_newList (wpAny_bind (wpAny_holding (wpAny_call_entry slot_list_sort ⟨_, hoL, rfl⟩ entry_list_sort
    (SrtO.list_sort_ord SrtO.swo_int hoL lim (fun h2 => SrtO.ints_sortable hI h2) fun out h1 h2 => ⟨_, rfl, ?_⟩) (args_list_sort _)))) lim)
  obtain ⟨b1, b2, b3⟩ := SrtO.ints_out hI h1 h2
  obtain ⟨c, hc⟩ := sortedHeap_at (vs := vs) (out := out.toArray) hoL
  have pn := b2.trans pk
  refine wpAny_pure ⟨_, rfl, k _ u.heap.objs.size out.toArray c (out.map SrtO.iv) (fun b v e => ?_) g1 o1 hz hc b1 (lt_of_le_nodup _ b3 (pn.nodup_iff.mpr nd)) (fun i => by rw [pn.mem_iff, ← hm i]) ?_⟩
  · have q := k1 b v e
    have lt := Heap.lt_size q
    show (sortedHeap (u.heap.push (seqObj "list" vs.toArray 0)) u.heap.objs.size vs out.toArray).get? b = some v
    rw [sortedHeap_old (Nat.ne_of_lt lt) (by rw [size_push']; exact Nat.lt_succ_of_lt lt)]
    exact Heap.get?_push_of_some _ q
  · rw [pn.length_eq, List.length_map, Array.length_toList]; omega
end
end Hf

namespace Hf
open PySem PySem.Spec PyProof.Rows L2

/-! ### set, sorted -/
def insU (a : Int) : List Int → List Int
  | [] => [a]
  | b :: l => if a < b then a :: b :: l else if a = b then b :: l else b :: insU a l
def sortU (ns : List Int) : List Int := ns.foldr insU []
theorem insU_mem {a x : Int} : ∀ {l : List Int}, x ∈ insU a l ↔ x = a ∨ x ∈ l
  | [] => by simp [insU]
  | b :: l => by
    unfold insU
    split
    · simp
    · split
      · rename_i h; subst h; simp
      · simp [insU_mem (l := l)]
        grind
theorem insU_lt {a : Int} : ∀ {l : List Int}, l.Pairwise (· < ·) → (insU a l).Pairwise (· < ·)
  | [], _ => by simp [insU]
  | b :: l, h => by
    obtain ⟨h1, h2⟩ := List.pairwise_cons.mp h
    unfold insU
    split
    · rename_i q
      exact List.pairwise_cons.mpr ⟨fun y hy => (List.mem_cons.mp hy).elim (fun e => by omega) (fun e => by have := h1 y e; omega), h⟩
    · split
      · exact h
      · exact List.pairwise_cons.mpr ⟨fun y hy => (insU_mem.mp hy).elim (fun e => by omega) (fun e => h1 y e), insU_lt h2⟩
theorem sortU_mem {x : Int} : ∀ {l : List Int}, x ∈ sortU l ↔ x ∈ l
  | [] => by simp [sortU]
  | b :: l => by
    show x ∈ insU b (sortU l) ↔ _
    rw [insU_mem, sortU_mem (l := l), List.mem_cons]
theorem sortU_lt : ∀ {l : List Int}, (sortU l).Pairwise (· < ·)
  | [] => by simp [sortU]
  | b :: l => insU_lt (sortU_lt (l := l))
theorem strict_ext : ∀ {a b : List Int}, a.Pairwise (· < ·) → b.Pairwise (· < ·) → (∀ x, x ∈ a ↔ x ∈ b) → a = b
  | [], [], _, _, _ => rfl
  | [], b :: _, _, _, h => absurd ((h b).mpr List.mem_cons_self) (by simp)
  | a :: _, [], _, _, h => absurd ((h a).mp List.mem_cons_self) (by simp)
  | a :: l, b :: m, h1, h2, h => by
    obtain ⟨p1, p2⟩ := List.pairwise_cons.mp h1
    obtain ⟨q1, q2⟩ := List.pairwise_cons.mp h2
    have e : a = b := by
      have x := (h a).mp List.mem_cons_self
      have y := (h b).mpr List.mem_cons_self
      rcases List.mem_cons.mp x with x | x
      · exact x
      · rcases List.mem_cons.mp y with y | y
        · exact y.symm
        · have := p1 b y
          have := q1 a x
          omega
    subst e
    rw [strict_ext p2 q2 fun x => ?_]
    have z := h x
    simp only [List.mem_cons] at z
    constructor
    · intro hx
      have := p1 x hx
      rcases z.mp (.inr hx) with y | y
      · omega
      · exact y
    · intro hx
      have := q1 x hx
      rcases z.mpr (.inr hx) with y | y
      · omega
      · exact y
theorem sortU_eq {l : List Int} (h : l.Pairwise (· < ·)) : sortU l = l := strict_ext sortU_lt h fun x => sortU_mem
/-- set(xs), a list of ints -/
def rSetI (K : PySem.W.Frag) (w : World) : List V → Hp → VK → Prop := fun vs H Q => ∃ (a : Addr) (ns : List Int), vs = [V.ref a] ∧ SqL K H a (ns.map V.int) ∧ ns.length + 1 < scanBound ∧ ∀ (p : Addr) (c : Nat), H p = none → Q (.ref p) (upd H p (SetO w p (fun j => decide (j ∈ ns)) c))
def rSortSet (w : World) : List V → Hp → VK → Prop := fun vs H Q => ∃ (a : Addr) (S : Int → Bool) (n : Nat), vs = [V.ref a] ∧ H a = some (SetO w a S n) ∧
  ∀ (ns : List Int) (p : Addr), ns.Pairwise (· < ·) → (∀ k : Int, k ∈ ns ↔ S k = true) → H p = none → Q (.ref p) (upd H p (.lst (ns.map V.int)))
section
variable {X : Cx}
theorem cr_setI (hc : X.calm = true) : CallR X (.type "set") (rSetI X.K X.w) := by
  intro pins s σ H xs us Q I r h
  obtain ⟨l, ns, rfl, hl, fit, q⟩ := h
  rw [Vals.ref1 r]
  obtain ⟨its, rv, pl, hz⟩ := I.list hl
  have hn : H s.heap.objs.size = none := I.hok.fresh (Nat.le_refl _)
  refine set_of_list (P := X.prog) (w := X.w) ns (I.ok.hd hc) pl.isList (by simpa using rv.ints) fit fun g tk c R _ kp => ?_
  exact ⟨.ref s.heap.objs.size, upd H s.heap.objs.size (SetO X.w s.heap.objs.size (fun j => decide (j ∈ ns)) c), I.laid (t' := tk) kp (Nat.le_refl _) (setO_new R), rfl, q _ c hn⟩
theorem cr_sortSet (hc : X.calm = true) : CallR X (.builtin "sorted") (rSortSet X.w) := by
  intro pins s σ H vs us Q I r h
  obtain ⟨a, S, n, rfl, ha, q⟩ := h
  rw [Vals.ref1 r]
  refine sorted_of_set (setO_get I ha) (I.ok.hd hc) fun u p out c ns kp g o hp hg hi hs hm hl => ?_
  have hlen : (ns.map V.int).length ≤ sizeLine := by
    rw [List.length_map, sizeLine_eq]
    have : scanBound = 4096 := rfl
    omega
  have hn : H p = none := I.hok.fresh hp
  have e : u = { s with heap := u.heap, gens := u.gens, drawn := u.drawn, toks := u.toks } := by
    cases u; cases s; cases o; rfl
  rw [e]
  exact ⟨.ref p, upd H p (.lst (ns.map V.int)), I.call (ch := []) (Un.laid kp hp hn) (I.hok.laid kp hp ⟨hlen, out.toList, c, vals_of_ints hi, hg⟩) (by rw [g]; exact I.bare) (fun _ z => nomatch z), rfl, q ns p hs hm hn⟩
end
section
variable {X : Cx} {Γ : List Slot} {α β : Type} {r : Rp α} {s : Rp β} {x : α} {y : β} {e f : Expr} {pos p p2 : Pos} {i j : Int} {as : List α}
theorem eo_sortSet {ns : List Int} {pos2 : Pos} (hl : ns.length + 1 < scanBound) (h : EvB X Γ e (oLst rInt ns)) (hm : X.mg "sorted" = none) (hm2 : X.mg "set" = none) (hc : X.calm = true := by rfl) (hg : Gl X "sorted" := by rfl) (hg2 : Gl X "set" := by rfl) (he : starEach (e :: []) X.env = (false, eval e X.env) :: starEach [] X.env := by rfl) (hpl : (backTo pos2 (starEach [] X.env)).any (·.1) = false := by rfl)
    (he2 : starEach ((.Call (.Name "set" p2) [e] [] pos2) :: []) X.env = (false, eval (.Call (.Name "set" p2) [e] [] pos2) X.env) :: starEach [] X.env := by rfl) (hpl2 : (backTo pos (starEach [] X.env)).any (·.1) = false := by rfl) :
    EvO X Γ (.Call (.Name "sorted" p) [.Call (.Name "set" p2) [e] [] pos2] [] pos) (oLst rInt (sortU ns)) := fun E G H σ hh Q q =>
  WE.of (pe_callB (cr_sortSet hc) hg hm (by decide +kernel) (pa_cons (pe_callTy (cr_setI hc) hg2 hm2 (by decide +kernel) (pa_cons WE.pe pa_nil he) (he := he) (hpl := hpl)) pa_nil he2) (he := he2) (hpl := hpl2)) (h E G H σ hh _ fun p1 o G1 H1 l1 hp ⟨vs, e1, ha⟩ => by
    subst e1
    rw [all2_int ha] at hp
    refine ⟨p1, ns, rfl, .inl (.inl hp), hl, fun p3 c n => ?_⟩
    refine ⟨p3, _, c, rfl, upd_same, fun ms p4 h1 h2 n4 => ?_⟩
    have l2 := l1.addO (o := SetO X.w p3 (fun j => decide (j ∈ ns)) c) n
    have e2 : ms = sortU ns := strict_ext h1 sortU_lt fun x => by rw [h2, sortU_mem]; simp
    exact q p4 _ G1 _ (Evl.fresh_back l2.h n4) (l2.addO n4) (Evl.fresh_back l2.gh n4) upd_same ⟨_, rfl, by rw [e2]; exact all2_ofInt _⟩)
/-! ### shifts, in, is None -/
theorem ev_shl (hc : CPow i j) (ha : Ev X Γ e rInt i) (hb : Ev X Γ f rInt j) : Ev X Γ (.BinOp e .LShift f pos) rInt (i * 2 ^ j.toNat) := ev_bin op_shl ha hb (gv_I hc fun _ => rfl)
theorem ev_shr (hc : 0 ≤ j) (ha : Ev X Γ e rInt i) (hb : Ev X Γ f rInt j) : Ev X Γ (.BinOp e .RShift f pos) rInt (i / 2 ^ j.toNat) := ev_bin op_shr ha hb (gv_I hc fun _ => rfl)
theorem ev_and1 (ha : Ev X Γ e rInt i) (hb : Ev X Γ f rInt 1) : Ev X Γ (.BinOp e .BitAnd f pos) rInt (i % 2) := ev_bin op_andM ha hb fun G H a b e h1 h2 Q q => ⟨i, 1, h1, h2, q _ G H (.refl e) rfl⟩
theorem inV_int {i : Int} : ∀ {ns : List Int}, inV (.int i) (ns.map V.int) = decide (i ∈ ns)
  | [] => rfl
  | n :: ns => by
    show (eqV (.int n) (.int i) || inV (.int i) (ns.map V.int)) = _
    rw [inV_int]
    by_cases h : n = i
    · subst h; simp [eqV]
    · have h' : ¬ i = n := fun z => h z.symm
      simp [eqV, h, h']
theorem flat_ints {ns : List Int} : (ns.map V.int).all flatV = true := by simp [List.all_map, flatV]
theorem gv_inI {ns : List Int} : Gives (rIn X.K false) rInt i (rLst rInt) ns rBool (decide (i ∈ ns)) := fun G H a b e h1 ⟨p, vs, e2, hp, ha⟩ Q q => by
  cases h1
  rw [all2_int ha] at hp
  exact ⟨p, _, e2, .inl (.inl (.inl (e _ _ hp))), rfl, flat_ints, by rw [inV_int]; exact q _ G H (.refl e) rfl⟩
theorem ev_inI {ns : List Int} (ha : Ev X Γ e rInt i) (hb : Ev X Γ f (rLst rInt) ns) (hm : behindInMarks .In f = false := by rfl) : Ev X Γ (.Compare e [.In] [f] pos) rBool (decide (i ∈ ns)) := ev_cmpR op_in_seq ha hb gv_inI hm
theorem et_inI {ns : List Int} (ha : Ev X Γ e rInt i) (hb : Ev X Γ f (rLst rInt) ns) (hm : behindInMarks .In f = false := by rfl) : EvT X Γ (.Compare e [.In] [f] pos) (decide (i ∈ ns)) := et_cmpR op_in_seq ha hb gv_inI hm
structure NN {α : Type} (r : Rp α) : Prop where
  nn : ∀ G v a, r.rel G v a → v ≠ .non
theorem nn_int : NN rInt := ⟨fun G v a h => by cases h; simp⟩
theorem nn_str : NN rStr := ⟨fun G v a h => by cases h; simp⟩
theorem nn_bool : NN rBool := ⟨fun G v a h => by cases h; simp⟩
theorem nn_lst : NN (rLst r) := ⟨fun G v a ⟨p, vs, e, _⟩ => by rw [e]; simp⟩
theorem nn_T2 {K : PySem.W.Frag} : NN (rT2 K r s) := ⟨fun G v a ⟨p, v1, v2, e, _⟩ => by rw [e]; simp⟩
theorem gv_isN {o : Option α} (n : NN r) : Gives (fun a b H Q => b = V.non ∧ Q (.bl (decide (a = V.non))) H) (rOpt r) o rNon () rBool o.isNone := fun G H a b e h1 h2 Q q => by
  refine ⟨h2, ?_⟩
  cases o with
  | none =>
    have z : a = .non := h1
    subst z
    exact q _ G H (.refl e) rfl
  | some v =>
    rw [decide_eq_false (n.nn G a v h1)]
    exact q _ G H (.refl e) rfl
theorem ev_isN {o : Option α} (n : NN r) (ha : Ev X Γ e (rOpt r) o) (hb : Ev X Γ f rNon ()) : Ev X Γ (.Compare e [.Is] [f] pos) rBool o.isNone := ev_cmpR op_isN ha hb (gv_isN n)
theorem et_isN {o : Option α} (n : NN r) (ha : Ev X Γ e (rOpt r) o) (hb : Ev X Γ f rNon ()) : EvT X Γ (.Compare e [.Is] [f] pos) o.isNone := et_cmpR op_isN ha hb (gv_isN n)
theorem ev_unopt {o : Option α} {d : α} (h : o.isNone = false) (ha : Ev X Γ e (rOpt r) o) : Ev X Γ e r (o.getD d) := fun E G H σ hh Q q => ha E G H σ hh Q fun v G1 H1 l1 r1 => by
  cases o with
  | none => simp at h
  | some a => exact q v G1 H1 l1 r1
/-! ### enumerate, range(a, b) -/
def enumL (as : List α) : List (Int × α) := as.zipIdx.map fun q => ((q.2 : Int), q.1)
theorem enumL_get {i : Nat} : (enumL as)[i]? = as[i]?.map fun a => ((i : Int), a) := by
  unfold enumL
  rw [List.getElem?_map, List.getElem?_zipIdx]
  cases as[i]? <;> simp
theorem enumL_length : (enumL as).length = as.length := by simp [enumL]
theorem ei_enum {elts : List Expr} {kk : Nat} {tpos : Pos} (h : Ev X Γ e (rLst r) as) (hm : X.mg "enumerate" = none) (hg : Gl X "enumerate" := by rfl) (hs : starEach [e] X.env = [(false, eval e X.env)] := by rfl) (hs2 : starEach (e :: []) X.env = (false, eval e X.env) :: starEach [] X.env := by rfl) :
    EvI X Γ (.Tuple elts kk tpos) (.Call (.Name "enumerate" p) [e] [] pos) (rT2 X.K rInt r) (enumL as) := ⟨_, pi_enum hg hm (pa_cons WE.pe pa_nil hs2) hs, fun E G H σ hh R q => h E G H σ hh _ fun v G1 H1 l1 ⟨p, vs, e1, hp, ha⟩ => by
  refine ⟨p, vs, by rw [e1], .inl (.inl (l1.gh _ _ hp)), q _ G1 H1 l1 fun i G2 H2 g1 g2 => ⟨fun a ea => ?_, fun le => ⟨vs, .inl (.inl (g2 _ _ (g1 _ _ hp))), by rw [ha.length]; rw [enumL_length] at le; exact le⟩⟩⟩
  rw [enumL_get] at ea
  cases hb : as[i]? with
  | none => rw [hb] at ea; cases ea
  | some b =>
    rw [hb] at ea
    cases ea
    obtain ⟨u, eu, ru⟩ := ha.get hb
    have hq : SqL X.K H2 p vs := .inl (.inl (g2 _ _ (g1 _ _ hp)))
    refine ⟨⟨vs, u, hq, eu⟩, fun z H' ⟨T, w, e2, n, e3, e4⟩ => ?_⟩
    have e5 := e4 vs hq
    rw [eu] at e5
    cases e5
    subst e3
    subst e2
    have n2 := Evl.fresh_back g2 n
    exact ⟨upd G2 T (.tup [.int i, u]), (Le.refl g2).add n, T, _, _, rfl, .inl (.inl upd_same), rfl, r.mono (g1.trans (Evl.Ex.new n2)) ru⟩⟩
theorem ei_range2 {tg : Expr} {a b : Int} (h : EvA X Γ [e, f] [⟨rInt, a⟩, ⟨rInt, b⟩]) (hn : -(2 ^ 62) ≤ a ∧ a < 2 ^ 62 ∧ -(2 ^ 62) ≤ b ∧ b < 2 ^ 62) (hm : X.mg "range" = none) (hg : Gl X "range" := by rfl) (hs : starEach [e, f] X.env = [(false, eval e X.env), (false, eval f X.env)] := by rfl) (hs2 : starEach [f] X.env = [(false, eval f X.env)] := by rfl) :
    EvI X Γ tg (.Call (.Name "range" p) [e, f] [] pos) rInt (rangeL a (b - a).toNat) := ⟨_, pi_range2 hg hm WA.pa hs hs2, fun E G H σ hh R q => h E G H σ hh _ fun vs G1 H1 l1 a1 => by
  match vs, a1 with
  | [v1, v2], ⟨h1, h2, _⟩ =>
    refine ⟨a, b, by rw [show v1 = _ from h1, show v2 = _ from h2], hn, q _ G1 H1 l1 fun i G2 H2 g1 g2 => ⟨fun z ea => ?_, fun le => ?_⟩⟩
    · have lt : i < (b - a).toNat := by
        have z := (List.getElem?_eq_some_iff.mp ea).1
        simpa [rangeL] using z
      refine ⟨lt, fun x H' y => ?_⟩
      obtain ⟨e1, e2⟩ := y
      subst e1
      refine ⟨G2, .refl g2, ?_⟩
      have : z = a + (i : Int) := by
        rw [rangeL, List.getElem?_map, List.getElem?_range lt] at ea
        exact (Option.some.inj ea).symm
      rw [e2, this]
      rfl
    · have z : (rangeL a (b - a).toNat).length = (b - a).toNat := by simp [rangeL]
      rw [z] at le
      exact le⟩
/-! ### max of a list -/
def maxL : List Int → Int
  | [] => 0
  | a :: l => l.foldl max a
theorem foldl_max_mem : ∀ (l : List Int) (a : Int), (l.foldl max a ∈ a :: l) ∧ ∀ y ∈ a :: l, y ≤ l.foldl max a
  | [], a => by simp
  | b :: l, a => by
    obtain ⟨h1, h2⟩ := foldl_max_mem l (max a b)
    refine ⟨?_, fun y hy => ?_⟩
    · show l.foldl max (max a b) ∈ _
      rcases List.mem_cons.mp h1 with e | e
      · rw [e]
        rcases Int.le_total a b with q | q
        · rw [Int.max_eq_right q]; simp
        · rw [Int.max_eq_left q]; simp
      · simp [e]
    · show y ≤ l.foldl max (max a b)
      have hm := h2 (max a b) List.mem_cons_self
      rcases List.mem_cons.mp hy with e | hy
      · omega
      · rcases List.mem_cons.mp hy with e | hy
        · omega
        · exact h2 y (List.mem_cons_of_mem _ hy)
theorem maxL_eq {ns : List Int} {m : Int} (h1 : m ∈ ns) (h2 : ∀ y ∈ ns, y ≤ m) : maxL ns = m := by
  cases ns with
  | nil => simp at h1
  | cons a l =>
    obtain ⟨k1, k2⟩ := foldl_max_mem l a
    have := h2 _ k1
    have := k2 m h1
    show l.foldl max a = m
    omega
theorem ev_maxL {ns : List Int} (hn : ns ≠ []) (h : EvB X Γ e (oLst rInt ns)) (hm : X.mg "max" = none) (hc : X.calm = true := by rfl) (hg : Gl X "max" := by rfl) (he : starEach (e :: []) X.env = (false, eval e X.env) :: starEach [] X.env := by rfl) (hpl : (backTo pos (starEach [] X.env)).any (·.1) = false := by rfl) : Ev X Γ (.Call (.Name "max" p) [e] [] pos) rInt (maxL ns) := fun E G H σ hh Q q =>
  WE.of (pe_callB (cr_max hc) hg hm (by decide +kernel) (pa_cons WE.pe pa_nil he) (he := he) (hpl := hpl)) (h E G H σ hh _ fun p o G1 H1 l1 hp ⟨vs, e1, ha⟩ => by
    subst e1
    rw [all2_int ha] at hp
    exact ⟨p, ns, rfl, .inl (.inl hp), List.length_pos_iff.mpr hn, fun m h1 h2 => q _ G1 H1 l1 (show V.int m = .int (maxL ns) by rw [maxL_eq h1 h2])⟩)
/-! ### lists of pairs of ints, == -/
def pdPairs (a : List (Int × Int)) : PyData := .list (a.map pdPair)
theorem dpAll_pairs {K : PySem.W.Frag} {G : Hp} : ∀ {vs : List V} {ns : List (Int × Int)}, All2 (rT2 K rInt rInt) G vs ns → DpAll K G vs (ns.map pdPair)
  | _, _, .nil => .nil
  | _, _, .cons h t => .cons (eqv_pair.dp _ _ h) (dpAll_pairs t)
theorem eqv_pairs {K : PySem.W.Frag} {ns : List (Int × Int)} : Eqv K (rLst (rT2 K rInt rInt)) ns (pdPairs ns) := ⟨fun G v ⟨p, vs, e, h, h2⟩ => by
  subst e
  exact .lst (.inl (.inl h)) (dpAll_pairs h2), by
  have z : ∀ l : List (Int × Int), PyData.canLayAll0 (l.map pdPair) = true := fun l => by
    induction l with
    | nil => rfl
    | cons a l ih => simp [PyData.canLayAll0, pdPair, PyData.canLay0, ih]
  have d : ∀ l : List (Int × Int), PyData.depthAll (l.map pdPair) ≤ 4 := fun l => by
    induction l with
    | nil => simp [PyData.depthAll]
    | cons a l ih => simp [PyData.depthAll, pdPair, PyData.depth]; omega
  unfold SeqAt.shaped pdPairs
  have := d ns
  simp only [PyData.canLay0, z ns, PyData.depth, Bool.true_and]
  exact decide_eq_true (by omega)⟩
theorem eqvAll_pairs : ∀ {a b : List (Int × Int)}, PyData.eqvAll (a.map pdPair) (b.map pdPair) = decide (a = b)
  | [], [] => rfl
  | [], _ :: _ => by simp [PyData.eqvAll]
  | _ :: _, [] => by simp [PyData.eqvAll]
  | a :: l, b :: m => by
    simp only [List.map_cons, PyData.eqvAll, pdPair_eqv, eqvAll_pairs (a := l) (b := m)]
    by_cases h1 : a = b <;> by_cases h2 : l = m <;> simp [h1, h2]
theorem pdPairs_eqv {a b : List (Int × Int)} : PyData.eqv (pdPairs a) (pdPairs b) = decide (a = b) := by
  unfold pdPairs
  simp only [PyData.eqv, eqvAll_pairs]
end
end Hf

namespace Hf
open PySem PySem.Spec PyProof.Rows L2

/-! ### objects of one's own handed to a call, changed behind it -/
def OwnAt (σ : L2.St) : List Nat → List Addr → Prop
  | [], [] => True
  | i :: is, p :: ps => σ[i]? = some (some (.ref p)) ∧ OwnAt σ is ps
  | _, _ => False
def Ows (G H : Hp) : List Addr → List Oc → Prop
  | [], [] => True
  | p :: ps, c :: cs => (G p = none ∧ ∃ o, H p = some o ∧ c.rel G o) ∧ Ows G H ps cs
  | _, _ => False
def SlotsAre (Γ : List Slot) : List Nat → List Oc → Prop
  | [], [] => True
  | i :: is, c :: cs => (∃ q, Γ[i]? = some (.ow c q)) ∧ SlotsAre Γ is cs
  | _, _ => False
def updO (Γ : List Slot) (i : Nat) (c : Oc) : List Slot := match Γ[i]? with
  | some (.ow _ q) => Γ.set i (.ow c q)
  | _ => Γ
def setOws : List Slot → List Nat → List Oc → List Slot
  | Γ, i :: is, c :: cs => setOws (updO Γ i c) is cs
  | Γ, _, _ => Γ
theorem updO_len {Γ : List Slot} {i : Nat} {c : Oc} : (updO Γ i c).length = Γ.length := by
  unfold updO
  split <;> simp
theorem setOws_len : ∀ {is : List Nat} {cs : List Oc} {Γ : List Slot}, (setOws Γ is cs).length = Γ.length
  | [], _, _ => by simp [setOws]
  | _ :: _, [], _ => by simp [setOws]
  | i :: is, c :: cs, Γ => by rw [setOws, setOws_len, updO_len]
theorem updO_get {Γ : List Slot} {i j : Nat} {c : Oc} {s : Slot} (h : (updO Γ i c)[j]? = some s) : (i ≠ j ∧ Γ[j]? = some s) ∨ (i = j ∧ ((∃ c0 q, Γ[j]? = some (.ow c0 q) ∧ s = .ow c q) ∨ (Γ[j]? = some s ∧ ∀ c0 q, s ≠ .ow c0 q))) := by
  unfold updO at h
  split at h
  · rename_i c0 q e
    rcases get_set h with ⟨rfl, rfl⟩ | ⟨n, h⟩
    · exact .inr ⟨rfl, .inl ⟨c0, q, e, rfl⟩⟩
    · exact .inl ⟨n, h⟩
  · rename_i e
    by_cases z : i = j
    · subst z
      exact .inr ⟨rfl, .inr ⟨h, fun c0 q w => e c0 q (by rw [h, w])⟩⟩
    · exact .inl ⟨z, h⟩
theorem updO_ne {Γ : List Slot} {i j : Nat} {c : Oc} (h : i ≠ j) : (updO Γ i c)[j]? = Γ[j]? := by
  unfold updO
  split
  · rw [List.getElem?_set_ne h]
  · rfl
theorem slotsAre_upd {i : Nat} {c : Oc} : ∀ {is : List Nat} {cs : List Oc} {Γ : List Slot}, i ∉ is → SlotsAre Γ is cs → SlotsAre (updO Γ i c) is cs
  | [], [], _, _, _ => trivial
  | j :: is, d :: cs, Γ, n, ⟨⟨q, e⟩, h⟩ => by
    simp only [List.mem_cons, not_or] at n
    exact ⟨⟨q, by rw [updO_ne n.1]; exact e⟩, slotsAre_upd n.2 h⟩
theorem setOws_get : ∀ {is : List Nat} {os cs : List Oc} {Γ : List Slot} {σ : L2.St} {ps : List Addr} {G H : Hp} {j : Nat} {s : Slot}, is.Nodup → SlotsAre Γ is os → OwnAt σ is ps → Ows G H ps cs → (setOws Γ is cs)[j]? = some s →
    (j ∉ is ∧ Γ[j]? = some s) ∨ ∃ c c' q p o, j ∈ is ∧ Γ[j]? = some (.ow c q) ∧ s = .ow c' q ∧ σ[j]? = some (some (.ref p)) ∧ p ∈ ps ∧ G p = none ∧ H p = some o ∧ c'.rel G o
  | [], _, cs, Γ, σ, ps, G, H, j, s, _, _, oa, ow, h => by
    cases ps with
    | cons p ps => exact oa.elim
    | nil =>
      cases cs with
      | cons c cs => exact ow.elim
      | nil => exact .inl ⟨by simp, by simpa [setOws] using h⟩
  | i :: is, os, cs, Γ, σ, ps, G, H, j, s, nd, sa, oa, ow, h => by
    cases os with
    | nil => exact sa.elim
    | cons o os =>
    cases ps with
    | nil => exact oa.elim
    | cons p ps =>
    cases cs with
    | nil => exact ow.elim
    | cons c cs =>
    obtain ⟨⟨q, e⟩, sa⟩ := sa
    obtain ⟨e2, oa⟩ := oa
    obtain ⟨⟨g, o', h1, h2⟩, ow⟩ := ow
    obtain ⟨n1, n2⟩ := List.nodup_cons.mp nd
    rw [setOws] at h
    rcases setOws_get n2 (slotsAre_upd n1 sa) oa ow h with ⟨k1, k2⟩ | ⟨a, a', q', p', o2, k1, k2, k3, k4, k5, k6⟩
    · rcases updO_get k2 with ⟨z, w⟩ | ⟨z, w⟩
      · exact .inl ⟨by simp only [List.mem_cons, not_or]; exact ⟨fun y => z y.symm, k1⟩, w⟩
      · subst z
        rcases w with ⟨c0, q0, w1, w2⟩ | ⟨w1, w2⟩
        · exact .inr ⟨c0, c, q0, p, o', by simp, w1, w2, e2, by simp, g, h1, h2⟩
        · rw [e] at w1
          cases w1
          exact absurd rfl (w2 _ _)
    · have ne : i ≠ j := fun z => n1 (z ▸ k1)
      rw [updO_ne ne] at k2
      exact .inr ⟨a, a', q', p', o2, List.mem_cons_of_mem _ k1, k2, k3, k4, List.mem_cons_of_mem _ k5, k6⟩
theorem ownAt_slot : ∀ {is : List Nat} {cs : List Oc} {Γ : List Slot} {σ : L2.St} {ps : List Addr} {p : Addr}, SlotsAre Γ is cs → OwnAt σ is ps → p ∈ ps → ∃ i c q, i ∈ is ∧ Γ[i]? = some (.ow c q) ∧ σ[i]? = some (some (.ref p))
  | i :: is, cs, Γ, σ, ps, p', sa, oa, m => by
    cases cs with
    | nil => exact sa.elim
    | cons c cs =>
    cases ps with
    | nil => exact oa.elim
    | cons p ps =>
    obtain ⟨⟨q, e⟩, sa⟩ := sa
    obtain ⟨e2, oa⟩ := oa
    rcases List.mem_cons.mp m with rfl | m
    · exact ⟨i, c, q, by simp, e, e2⟩
    · obtain ⟨i', c', q', k1, k2, k3⟩ := ownAt_slot sa oa m
      exact ⟨i', c', q', List.mem_cons_of_mem _ k1, k2, k3⟩
  | [], _, _, _, ps, _, _, oa, m => by
    cases ps with
    | cons p ps => exact oa.elim
    | nil => simp at m
theorem ownAt_mem : ∀ {is : List Nat} {σ : L2.St} {ps : List Addr} {p : Addr} {i : Nat}, OwnAt σ is ps → i ∈ is → σ[i]? = some (some (.ref p)) → p ∈ ps
  | i :: is, σ, ps, p', j, oa, m, e => by
    cases ps with
    | nil => exact oa.elim
    | cons p ps =>
    obtain ⟨e2, oa⟩ := oa
    rcases List.mem_cons.mp m with rfl | m
    · rw [e2] at e; cases e; simp
    · exact List.mem_cons_of_mem _ (ownAt_mem oa m e)
  | [], _, _, _, _, _, m, _ => by simp at m
/-- behind a call that changed what was handed in -/
theorem Holds.call {E : Ent} {G H G' H' : Hp} {σ : L2.St} {Γ : List Slot} {is : List Nat} {os cs : List Oc} {ps : List Addr} (h : Holds E G H σ Γ) (nd : is.Nodup) (sa : SlotsAre Γ is os) (oa : OwnAt σ is ps)
    (l : LeE G H (fun p => p ∈ ps) G' H') (ow : Ows G' H' ps cs) : Holds E G' H' σ (setOws Γ is cs) := by
  have out : ∀ p, p ∉ ps → ∀ o, H p = some o → H' p = some o := fun p n o e => by
    rcases l.h p o e with ⟨_, w⟩ | ⟨m, _⟩
    · exact w
    · exact absurd m n
  have gn : ∀ p, G p = none → (∃ o, H p = some o) → G' p = none := fun p g ⟨o, e⟩ => by
    cases q : G' p with
    | none => rfl
    | some u => rw [l.new p u q g] at e; cases e
  refine ⟨⟨h.le.g.trans l.g, fun a o e => ?_, l.gh, fun a o e1 e2 => ?_, h.le.m⟩, h.fl.trans l.g, by rw [setOws_len]; exact h.len, fun j s e => ?_, fun j k s t e1 e2 w1 w2 z => ?_⟩
  · rcases h.le.h a o e with ⟨n, w⟩ | ⟨m, u, w⟩
    · rcases l.h a o w with ⟨_, w2⟩ | ⟨m2, _⟩
      · exact .inl ⟨n, w2⟩
      · obtain ⟨i, c, q, _, k2, k3⟩ := ownAt_slot sa oa m2
        obtain ⟨p, o2, x1, x2, x3, x4, x5⟩ := h.ow k2
        rw [k3] at x1
        cases x1
        rcases x3.or with y | y
        · exact absurd y n
        · rw [y] at e; cases e
    · rcases l.h a u w with ⟨_, w2⟩ | ⟨_, w2⟩
      · exact .inr ⟨m, u, w2⟩
      · exact .inr ⟨m, w2⟩
  · cases q : G a with
    | some u => exact h.le.new a u q e2
    | none =>
      have z := l.new a o e1 q
      exact h.le.fresh z
  · rcases setOws_get nd sa oa ow e with ⟨n, k⟩ | ⟨c, c', q, p, o, k1, k2, k3, k4, k5, k6, k7, k8⟩
    · have w := h.ok j s k
      cases s with
      | no => trivial
      | sh r a =>
        obtain ⟨v, w1, w2⟩ := w
        exact ⟨v, w1, r.mono l.g w2⟩
      | ow c q =>
        obtain ⟨p, o, w1, w2, w3, w4, w5⟩ := w
        have np : p ∉ ps := fun m => by
          obtain ⟨i, c2, q2, y1, y2, y3⟩ := ownAt_slot sa oa m
          exact n (h.sep i j _ _ y2 k rfl rfl (by rw [y3, w1]) ▸ y1)
        exact ⟨p, o, w1, gn p w2 ⟨o, w4⟩, w3, out p np o w4, c.mono l.g w5⟩
    · subst k3
      obtain ⟨p1, o1, w1, w2, w3, w4, w5⟩ := h.ow k2
      rw [k4] at w1
      cases w1
      exact ⟨p, o, k4, k6, w3, k7, k8⟩
  · have back : ∀ (j : Nat) (s : Slot), (setOws Γ is cs)[j]? = some s → s.isOw = true → ∃ s', Γ[j]? = some s' ∧ s'.isOw = true := fun j s e w => by
      rcases setOws_get nd sa oa ow e with ⟨n, k⟩ | ⟨c, c', q, p, o, k1, k2, _⟩
      · exact ⟨s, k, w⟩
      · exact ⟨_, k2, rfl⟩
    obtain ⟨s', q1, q2⟩ := back j s e1 w1
    obtain ⟨t', q3, q4⟩ := back k t e2 w2
    exact h.sep j k s' t' q1 q3 q2 q4 z
end Hf

namespace Hf
open PySem PySem.Spec PyProof.Rows L2

/-! ### a def that changes what is handed in ahead -/
def NSp {ι α : Type} (Pre : ι → Prop) (ows : ι → List Oc) (args : ι → List Ty) (r : Rp α) (res : ι → α) (post : ι → List Oc) : Sp := fun vs H Q E =>
  ∃ (y : ι) (G : Hp) (ps : List Addr) (us : List V), Pre y ∧ Ex G H ∧ vs = ps.map V.ref ++ us ∧ ps.Nodup ∧ Ows G H ps (ows y) ∧ Args G us (args y) ∧
    ∀ v G' H', LeE G H (fun p => p ∈ ps) G' H' → Ows G' H' ps (post y) → r.rel G' v (res y) → Q v H'
theorem ows_len : ∀ {ps : List Addr} {cs : List Oc} {G H : Hp}, Ows G H ps cs → ps.length = cs.length
  | [], [], _, _, _ => rfl
  | _ :: ps, _ :: cs, _, _, h => by rw [List.length_cons, List.length_cons, ows_len h.2]
theorem ows_get : ∀ {ps : List Addr} {cs : List Oc} {G H : Hp} {i : Nat} {c : Oc}, Ows G H ps cs → cs[i]? = some c → ∃ p, ps[i]? = some p ∧ G p = none ∧ ∃ o, H p = some o ∧ c.rel G o
  | _ :: ps, _ :: cs, _, _, 0, _, h, e => by cases e; exact ⟨_, rfl, h.1.1, h.1.2⟩
  | _ :: ps, _ :: cs, _, _, i + 1, _, h, e => ows_get (i := i) h.2 e
  | [], [], _, _, i, _, _, e => by simp at e
/-- the slots of a def that is entered -/
def slotsN (cs : List Oc) (ps : List Addr) (ts : List Ty) (n : Nat) : List Slot := (cs.zip ps).map (fun z => Slot.ow z.1 (some z.2)) ++ slots0 ts n
theorem holds_startN {G H : Hp} {N : List Str} {ps : List Addr} {cs : List Oc} {us : List V} {ts : List Ty} (e : Ex G H) (nd : ps.Nodup) (ow : Ows G H ps cs) (a : Args G us ts) (hn : cs.length + ts.length ≤ N.length) :
    Holds { G := G, H := H, M := fun p => p ∈ ps } G H (L2.start N (ps.map V.ref ++ us)) (slotsN cs ps ts (N.length - (cs.length + ts.length))) := by
  have hl := args_length a
  have hp := ows_len ow
  have zl : (cs.zip ps).length = cs.length := by rw [List.length_zip]; omega
  have mem : ∀ p, p ∈ ps → G p = none ∧ ∃ o, H p = some o := fun p m => by
    obtain ⟨i, hi, rfl⟩ := List.getElem_of_mem m
    obtain ⟨p, k1, k2, o, k3, _⟩ := ows_get ow (List.getElem?_eq_getElem (show i < cs.length by omega))
    rw [List.getElem?_eq_getElem hi] at k1
    cases k1
    exact ⟨k2, o, k3⟩
  have le : LeE G H (fun p => p ∈ ps) G H := ⟨.refl _, fun x o q => by
    by_cases m : x ∈ ps
    · exact .inr ⟨m, o, q⟩
    · exact .inl ⟨m, q⟩, e, fun x o h1 h2 => (by rw [h1] at h2; cases h2), fun x m => mem x m⟩
  have owOnly : ∀ (i : Nat) (s : Slot), (slotsN cs ps ts (N.length - (cs.length + ts.length)))[i]? = some s → s.isOw = true → ∃ c p, cs[i]? = some c ∧ ps[i]? = some p ∧ s = .ow c (some p) := fun i s q w => by
    unfold slotsN at q
    by_cases lt : i < cs.length
    · rw [List.getElem?_append_left (by rw [List.length_map, zl]; exact lt), List.getElem?_map, show (cs.zip ps)[i]? = some (cs[i], ps[i]'(by omega)) from List.getElem?_zip_eq_some.mpr ⟨List.getElem?_eq_getElem lt, List.getElem?_eq_getElem (by omega)⟩] at q
      cases q
      exact ⟨_, _, List.getElem?_eq_getElem lt, List.getElem?_eq_getElem (by omega), rfl⟩
    · rw [List.getElem?_append_right (by rw [List.length_map, zl]; omega)] at q
      have z := List.mem_of_getElem? q
      unfold slots0 at z
      rcases List.mem_append.mp z with z | z
      · obtain ⟨t, _, e⟩ := List.mem_map.mp z
        rw [← e] at w
        cases w
      · rw [List.mem_replicate] at z
        rw [z.2] at w
        cases w
  have st : ∀ (i : Nat) (v : V), (ps.map V.ref ++ us)[i]? = some v → (L2.start N (ps.map V.ref ++ us))[i]? = some (some v) := fun i v q => by
    unfold L2.start
    have lt := (List.getElem?_eq_some_iff.mp q).1
    rw [List.getElem?_append_left (by rw [List.length_map]; exact lt), List.getElem?_map, q]
    rfl
  have atP : ∀ (i : Nat) (p : Addr), ps[i]? = some p → (ps.map V.ref ++ us)[i]? = some (.ref p) := fun i p q => by
    have lt := (List.getElem?_eq_some_iff.mp q).1
    rw [List.getElem?_append_left (by rw [List.length_map]; exact lt), List.getElem?_map, q]
    rfl
  refine ⟨le, (fun a o q => by cases q), ?_, fun i s q => ?_, fun i j s t q1 q2 w1 w2 z => ?_⟩
  · unfold L2.start slotsN slots0
    simp only [List.length_append, List.length_map, List.length_replicate, zl]
    omega
  · cases hs : s with
    | no => trivial
    | ow c pq =>
      obtain ⟨c', p, k1, k2, k3⟩ := owOnly i s q (by rw [hs]; rfl)
      rw [hs] at k3
      cases k3
      obtain ⟨p', m1, m2, o, m3, m4⟩ := ows_get ow k1
      rw [k2] at m1
      cases m1
      exact ⟨p, o, st i _ (atP i p k2), m2, ⟨rfl, List.mem_of_getElem? k2⟩, m3, m4⟩
    | sh r a' =>
      subst hs
      unfold slotsN at q
      by_cases lt : i < cs.length
      · rw [List.getElem?_append_left (by rw [List.length_map, zl]; exact lt), List.getElem?_map] at q
        cases w : (cs.zip ps)[i]? with
        | none => rw [w] at q; cases q
        | some t => rw [w] at q; cases q
      · rw [List.getElem?_append_right (by rw [List.length_map, zl]; omega), List.length_map, zl] at q
        unfold slots0 at q
        by_cases lt2 : i - cs.length < ts.length
        · rw [List.getElem?_append_left (by simpa using lt2), List.getElem?_map] at q
          cases w : ts[i - cs.length]? with
          | none => rw [w] at q; cases q
          | some t =>
            rw [w] at q
            cases q
            obtain ⟨v, h1, h2⟩ := args_get a w
            refine ⟨v, st i v ?_, h2⟩
            rw [List.getElem?_append_right (by rw [List.length_map]; omega), List.length_map, hp]
            exact h1
        · rw [List.getElem?_append_right (by simpa using lt2)] at q
          have z := List.mem_of_getElem? q
          rw [List.mem_replicate] at z
          cases z.2
  · obtain ⟨c1, p1, a1, a2, _⟩ := owOnly i s q1 w1
    obtain ⟨c2, p2, b1, b2, _⟩ := owOnly j t q2 w2
    rw [st i _ (atP i p1 a2), st j _ (atP j p2 b2)] at z
    cases z
    obtain ⟨hi, e1⟩ := List.getElem?_eq_some_iff.mp a2
    obtain ⟨hj, e2⟩ := List.getElem?_eq_some_iff.mp b2
    rcases Nat.lt_trichotomy i j with k | k | k
    · exact absurd (e1.trans e2.symm) (List.pairwise_iff_getElem.mp nd i j hi hj k)
    · exact k
    · exact absurd (e2.trans e1.symm) (List.pairwise_iff_getElem.mp nd j i hj hi k)
/-- what is handed back, and how what was handed in stands then -/
def RetN (E : Ent) (D : Ends) (ps : List Addr) (post : List Oc) {α : Type} (r : Rp α) (a : α) : Prop := ∀ v G H, LeE E.G E.H E.M G H → Ows G H ps post → r.rel G v a → D.rt v H
/-- the first slots still hold what was handed in -/
def Still (Γ : List Slot) : Nat → List Addr → List Oc → Prop
  | _, [], [] => True
  | i, p :: ps, c :: cs => Γ[i]? = some (.ow c (some p)) ∧ Still Γ (i + 1) ps cs
  | _, _, _ => False
theorem Still.ows {E : Ent} {G H : Hp} {σ : L2.St} {Γ : List Slot} (h : Holds E G H σ Γ) : ∀ {ps : List Addr} {cs : List Oc} {i : Nat}, Still Γ i ps cs → Ows G H ps cs
  | [], [], _, _ => trivial
  | p :: ps, c :: cs, i, ⟨e, s⟩ => by
    obtain ⟨p', o, h1, h2, h3, h4, h5⟩ := h.ow e
    have z : p' = p := h3.1
    subst z
    exact ⟨⟨h2, o, h4, h5⟩, Still.ows h s⟩
section
variable {P : Program} {w : World} {K : PySem.W.Frag} {mg : Str → Option Value} {base : Heap} {x qual : Str} {params : Arguments} {body : List Stmt} {scope : Scope} {dvs : List V} {kws : List (Str × V)} {f : Addr} {fd : FuncData}
theorem fn_mut {N ps : List Str} {k : Nat} {ι α : Type} {Pre : ι → Prop} {ows : ι → List Oc} {args : ι → List Ty} {r : Rp α} {res : ι → α} {post : ι → List Oc} (F : FunD K x qual params body scope dvs kws f fd) (S : FnScope N ps scope) (hl : ∀ y, (ows y).length + (args y).length = ps.length)
    (hb : ∀ (y : ι), Pre y → ∀ (cdv : Value) (A : Around) (outer : List Env) (s : Shared) (H : Hp) (E0 : XK) (G : Hp) (D : Ends) (qs : List Addr), qs.length = (ows y).length → Room k (A.deeper (envOfC qual scope s.heap.objs.size f cdv)) →
      RetN { G := G, H := H, M := fun p => p ∈ qs } D qs (post y) r (res y) → (∀ σ G' H', LeE G H (fun p => p ∈ qs) G' H' → Ows G' H' qs (post y) → r.rel G' .non (res y) → D.nx σ H') →
      Bk (cxOf (CXL P w) P w K mg base N qual scope f cdv A outer s H E0) { G := G, H := H, M := fun p => p ∈ qs } (slotsN (ows y) qs (args y) (N.length - ps.length)) body D) :
    FnOk P w K mg base (CXL P w) (k + 1) f fd ps (NSp Pre ows args r res post) := by
  refine F.ok S (fun vs H Q E ⟨y, G, qs, us, _, _, e, _, ow, a, _⟩ => by rw [e, List.length_append, List.length_map, ows_len ow, args_length a, hl]) fun cdv A outer s H vs Q E hr ⟨y, G, qs, us, hp, e, ev, nd, ow, a, hq⟩ => ⟨_, WB.pss, ?_⟩
  have hN : (ows y).length + (args y).length ≤ N.length := by
    rw [hl]
    have z := congrArg List.length S.pre
    rw [List.length_take] at z
    omega
  have h := holds_startN (N := N) e nd ow a hN
  rw [hl, ← ev] at h
  exact hb y hp cdv A outer s H E G _ qs (ows_len ow) hr (fun v G' H' l o rv => hq v G' H' l o rv) (fun σ G' H' l o rv => hq _ G' H' l o rv) G H _ h
end
end Hf

namespace Hf
open PySem PySem.Spec PyProof.Rows L2

/-! ### expressions that change what is one's own: Γ ahead, Γ' behind -/
section
variable (X : Cx)
def EvM (Γ Γ' : List Slot) (e : Expr) {α : Type} (r : Rp α) (a : α) : Prop := ∀ (E : Ent) (G H : Hp) (σ : L2.St), Holds E G H σ Γ → ∀ Q : VK, (∀ v G' H', Ex G G' → Holds E G' H' σ Γ' → r.rel G' v a → Q v H') → WE X e σ H Q
def EvMA (Γ Γ' : List Slot) (es : List Expr) (ts : List Ty) : Prop := ∀ (E : Ent) (G H : Hp) (σ : L2.St), Holds E G H σ Γ → ∀ Q : List V → Hp → Prop, (∀ vs G' H', Ex G G' → Holds E G' H' σ Γ' → Args G' vs ts → Q vs H') → WA X es σ H Q
/-- names of one's own objects ahead, what is only read behind -/
def EvOA (Γ : List Slot) (es : List Expr) (own : List Nat) (ts : List Ty) : Prop := ∀ (E : Ent) (G H : Hp) (σ : L2.St), Holds E G H σ Γ → ∀ Q : List V → Hp → Prop,
  (∀ (ps : List Addr) us G' H', Le G H G' H' → OwnAt σ own ps → Args G' us ts → Q (ps.map V.ref ++ us) H') → WA X es σ H Q
end
theorem ownAt_nodup {E : Ent} {G H : Hp} {σ : L2.St} {Γ : List Slot} (h : Holds E G H σ Γ) : ∀ {is : List Nat} {cs : List Oc} {ps : List Addr}, is.Nodup → SlotsAre Γ is cs → OwnAt σ is ps → ps.Nodup
  | [], _, [], _, _, _ => List.nodup_nil
  | [], _, _ :: _, _, _, oa => oa.elim
  | _ :: _, _, [], _, _, oa => oa.elim
  | _ :: _, [], _ :: _, _, sa, _ => sa.elim
  | i :: is, c :: cs, p :: ps, nd, ⟨⟨q, e⟩, sa⟩, ⟨e2, oa⟩ => by
    obtain ⟨n1, n2⟩ := List.nodup_cons.mp nd
    refine List.nodup_cons.mpr ⟨fun m => ?_, ownAt_nodup h n2 sa oa⟩
    obtain ⟨j, c', q', k1, k2, k3⟩ := ownAt_slot sa oa m
    exact n1 (h.sep i j _ _ e k2 rfl rfl (by rw [e2, k3]) ▸ k1)
theorem ows_of {E : Ent} {G H : Hp} {σ : L2.St} {Γ : List Slot} (h : Holds E G H σ Γ) : ∀ {is : List Nat} {cs : List Oc} {ps : List Addr}, SlotsAre Γ is cs → OwnAt σ is ps → Ows G H ps cs
  | [], [], [], _, _ => trivial
  | [], _ :: _, _, sa, _ => sa.elim
  | [], [], _ :: _, _, oa => oa.elim
  | _ :: _, _, [], _, oa => oa.elim
  | _ :: _, [], _ :: _, sa, _ => sa.elim
  | i :: is, c :: cs, p :: ps, ⟨⟨q, e⟩, sa⟩, ⟨e2, oa⟩ => by
    obtain ⟨p', o, h1, h2, h3, h4, h5⟩ := h.ow e
    rw [e2] at h1
    cases h1
    exact ⟨⟨h2, o, h4, h5⟩, ows_of h sa oa⟩
section
variable {X : Cx} {E : Ent} {Γ Γ' Γ1 Γ2 : List Slot} {D : Ends} {e f g : Expr} {es : List Expr} {rest : List Stmt} {pos p apos cpos : Pos} {α β γ ι : Type} {r : Rp α} {x : α} {s : Rp β} {y : β} {t : Rp γ} {z : γ} {as bs : List α} {own : List Nat} {ts : List Ty}
theorem em_of (h : Ev X Γ e r x) : EvM X Γ Γ e r x := fun E G H σ hh Q q => h E G H σ hh Q fun v G1 H1 l1 r1 => q v G1 H1 l1.g (hh.step l1) r1
theorem ema_nil : EvMA X Γ Γ [] [] := fun E G H σ hh Q q => WA.of pa_nil (q [] G H (Evl.Ex.refl _) hh trivial)
theorem ema_cons {t : Ty} (ha : EvM X Γ Γ1 e t.r t.a) (hr : EvMA X Γ1 Γ2 es ts) (hs : starEach (e :: es) X.env = (false, eval e X.env) :: starEach es X.env := by rfl) : EvMA X Γ Γ2 (e :: es) (t :: ts) := fun E G H σ hh Q q =>
  WA.of (pa_cons WE.pe WA.pa hs) (ha E G H σ hh _ fun v G1 H1 g1 h1 r1 => hr E G1 H1 σ h1 _ fun vs G2 H2 g2 h2 r2 => q _ G2 H2 (g1.trans g2) h2 ⟨t.r.mono g2 r1, r2⟩)
theorem em_tup2 {n : Nat} (h : EvMA X Γ Γ' es [⟨r, x⟩, ⟨s, y⟩]) : EvM X Γ Γ' (.Tuple es n pos) (rT2 X.K r s) (x, y) := fun E G H σ hh Q q =>
  WE.of (pe_tup WA.pa) (h E G H σ hh _ fun vs G1 H1 g1 h1 a1 => by
    match vs, a1 with
    | [v1, v2], ⟨k1, k2, _⟩ =>
      refine ⟨by show 2 ≤ sizeLine; decide, fun p n => ?_⟩
      have l2 := (Le.refl h1.le.gh).add (o := .tup [v1, v2]) n
      exact q _ (upd G1 p (.tup [v1, v2])) _ (g1.trans l2.g) (h1.step l2) ⟨p, v1, v2, rfl, .inl (.inl upd_same), r.mono l2.g k1, s.mono l2.g k2⟩)
theorem em_tup3 {n : Nat} (h : EvMA X Γ Γ' es [⟨r, x⟩, ⟨s, y⟩, ⟨t, z⟩]) : EvM X Γ Γ' (.Tuple es n pos) (rT3 X.K r s t) (x, y, z) := fun E G H σ hh Q q =>
  WE.of (pe_tup WA.pa) (h E G H σ hh _ fun vs G1 H1 g1 h1 a1 => by
    match vs, a1 with
    | [v1, v2, v3], ⟨k1, k2, k3, _⟩ =>
      refine ⟨by show 3 ≤ sizeLine; decide, fun p n => ?_⟩
      have l2 := (Le.refl h1.le.gh).add (o := .tup [v1, v2, v3]) n
      exact q _ (upd G1 p (.tup [v1, v2, v3])) _ (g1.trans l2.g) (h1.step l2) ⟨p, v1, v2, v3, rfl, .inl (.inl upd_same), r.mono l2.g k1, s.mono l2.g k2, t.mono l2.g k3⟩)
/-- xs.pop(0) -/
theorem em_pop0 (i : Nat) {a : Str} {pq : Option Addr} {k : Nat} {cp : Pos} (hg : Γ[i]? = some (.ow (oLst r (x :: as)) pq))
    (hpe : PE X (.Call (.Attribute (.Name a p) "pop" apos) [.Constant (.int 0) k cp] [] cpos) (tBM X.K "list" rPopAt (tVar i) (tCons (WE X (.Constant (.int 0) k cp)) tNil)) := by exact pe_bm PySem.F.plainAttrs_list PySem.F.slot_list_pop PySem.F.type_list_pop mt_popAt (pv _) (pa_cons WE.pe pa_nil)) :
    EvM X Γ (Γ.set i (.ow (oLst r as) pq)) (.Call (.Attribute (.Name a p) "pop" apos) [.Constant (.int 0) k cp] [] cpos) r x := fun E G H σ hh Q q =>
  WE.of hpe (by
    obtain ⟨l, o, h1, h2, h3, h4, vs, h5, h6⟩ := hh.ow hg
    subst h5
    cases h6 with
    | @cons v _ vs _ r1 r2 =>
    refine ⟨_, h1, .inl ⟨rfl, _, .inl (.inl h4)⟩, WE.of pe_int ?_⟩
    refine ⟨l, _, 0, 0, v, rfl, rfl, h4, by decide, by decide, by simp [seqIndex?], rfl, ?_⟩
    exact q v G _ (Evl.Ex.refl _) (hh.mut hg h1 ⟨_, rfl, r2⟩) r1)
theorem eoa_nil (h : EvA X Γ es ts) : EvOA X Γ es [] ts := fun E G H σ hh Q q => h E G H σ hh _ fun vs G1 H1 l1 a1 => q [] vs G1 H1 l1 trivial a1
theorem eoa_cons (i : Nat) {a : Str} {c : Oc} {pq : Option Addr} (hr : EvOA X Γ es own ts) (hg : Γ[i]? = some (.ow c pq) := by rfl) (hN : X.N[i]? = some a := by rfl) (hv : Vis X.env.scope a := by first | exact Or.inl rfl | exact Or.inr (Or.inl rfl) | exact Or.inr (Or.inr rfl)) (hd : (a == ("__debug__" : Str)) = false := by decide)
    (hcd : (a == ("__classdict__" : Str)) = false := by decide) (hs : starEach ((.Name a p) :: es) X.env = (false, eval (.Name a p) X.env) :: starEach es X.env := by rfl) : EvOA X Γ ((.Name a p) :: es) (i :: own) ts := fun E G H σ hh Q q =>
  WA.of (pa_cons (pe_var hN hv hd hcd) WA.pa hs) (by
    obtain ⟨l, o, h1, h2, h3, h4, h5⟩ := hh.ow hg
    exact ⟨_, h1, hr E G H σ hh _ fun ps us G1 H1 l1 o1 a1 => q (l :: ps) us G1 H1 l1 ⟨h1, o1⟩ a1⟩)
/-- f(xs, .., e, ..): xs, .. are changed -/
theorem em_call {k j : Nat} {fn : Str} {Pre : ι → Prop} {ows : ι → List Oc} {args : ι → List Ty} {res : ι → α} {post : ι → List Oc} {z : α} (h : Has X.prog X.w X.K X.mg X.base fn k (NSp Pre ows args r res post)) (hr : Room j X.A) (hk : k ≤ j) (y : ι) (hp : Pre y)
    (ha : EvOA X Γ (e :: es) own (args y)) (nd : own.Nodup) (sa : SlotsAre Γ own (ows y)) (hz : res y = z) (hΓ : setOws Γ own (post y) = Γ') (hg : Gl X fn := by rfl) (hdb : (fn == ("__debug__" : Str)) = false := by decide)
    (he : starEach (e :: es) X.env = (false, eval e X.env) :: starEach es X.env := by rfl) (hpl : (backTo pos (starEach es X.env)).any (·.1) = false := by rfl) : EvM X Γ Γ' (.Call (.Name fn p) (e :: es) [] pos) r z := fun E G H σ hh Q q =>
  we_call h hr hk (ha E G H σ hh _ fun ps us G1 H1 l1 o1 a1 => by
    have h1 := hh.step l1
    refine ⟨y, G1, ps, us, hp, l1.gh, rfl, ownAt_nodup h1 nd sa o1, ows_of h1 sa o1, a1, fun v G2 H2 l2 w2 r2 => ?_⟩
    exact q v G2 H2 (l1.g.trans l2.g) (hΓ ▸ h1.call nd sa o1 l2 w2) (hz ▸ r2)) hg hdb he hpl
/-- x = e -/
theorem bk_setM (i : Nat) {a : Str} {p : Pos} (nd : X.N.Nodup) (he : EvM X Γ Γ' e r x) (k : Bk X E (Γ'.set i (.sh r x)) rest D) (hi : X.N[i]? = some a := by rfl) (hx : Loc X.env.scope a := by first | exact Or.inl rfl | exact Or.inr rfl)
    (hs : swapsWith e (some (.Name a p)) pos.line X.env = pure false := by rfl) (hf : X.fn a = true ∨ X.env.scope.names.lookup a = some .local := by first | exact .inl rfl | exact .inr rfl) : Bk X E Γ (.Assign [.Name a p] e pos :: rest) D :=
  bk_of (ps_set nd hi hx WE.pe hs hf) fun G H σ hh => he E G H σ hh _ fun v G1 H1 g1 h1 r1 => k G1 H1 _ (h1.set_sh r1)
theorem bk_exprM (he : EvM X Γ Γ' e r x) (k : Bk X E Γ' rest D) (hs : swapsWith e none pos.line X.env = pure false := by rfl) : Bk X E Γ (.Expr e pos :: rest) D :=
  bk_of (ps_expr WE.pe hs) fun G H σ hh => he E G H σ hh _ fun v G1 H1 g1 h1 r1 => k G1 H1 _ h1
/-- x, y, z = a, b, c -/
theorem bk_par3M (i j l : Nat) {a b c : Str} {e1 e2 e3 : Expr} {px py pz pt : Pos} {kt k2 : Nat} {pt2 : Pos} (nd : X.N.Nodup) (he : EvMA X Γ Γ' [e1, e2, e3] [⟨r, x⟩, ⟨s, y⟩, ⟨t, z⟩]) (k : Bk X E (((Γ'.set i (.sh r x)).set j (.sh s y)).set l (.sh t z)) rest D) (hc : X.calm = true := by rfl) (hi : X.N[i]? = some a := by rfl) (hj : X.N[j]? = some b := by rfl) (hl : X.N[l]? = some c := by rfl)
    (hij : i ≠ j := by decide) (hil : i ≠ l := by decide) (hjl : j ≠ l := by decide) (hx : X.env.scope.names.lookup a = some .local := by rfl) (hy : X.env.scope.names.lookup b = some .local := by rfl) (hz : X.env.scope.names.lookup c = some .local := by rfl)
    (hw : swappedStores [.Tuple [.Name a px, .Name b py, .Name c pz] kt pt] (.Tuple [e1, e2, e3] k2 pt2) X.env = pure (some [a, b, c]) := by rfl)
    (hs : swapsWithSole [.Tuple [.Name a px, .Name b py, .Name c pz] kt pt] (.Tuple [e1, e2, e3] k2 pt2) pos.line X.env = pure false := by rfl) : Bk X E Γ (.Assign [.Tuple [.Name a px, .Name b py, .Name c pz] kt pt] (.Tuple [e1, e2, e3] k2 pt2) pos :: rest) D :=
  bk_of (ps_par3 hc nd hi hj hl hij hil hjl hx hy hz WA.pa hw hs) fun G H σ hh => he E G H σ hh _ fun vs G1 H1 g1 h1 a1 => by
    match vs, a1 with
    | [v1, v2, v3], ⟨k1, k2, k3, _⟩ => exact ⟨v1, v2, v3, rfl, k G1 H1 _ (((h1.set_sh k1).set_sh k2).set_sh k3)⟩
/-- xs.append(e), e changes others -/
theorem bk_appendM (i : Nat) {a : Str} {pq : Option Addr} (hg : Γ[i]? = some (.ow (oLst r as) pq)) (he : EvM X Γ Γ' e r x) (hg' : Γ'[i]? = some (.ow (oLst r bs) pq)) (hl : bs.length < sizeLine) (k : Bk X E (Γ'.set i (.ow (oLst r (bs ++ [x])) pq)) rest D)
    (hpe : PE X (.Call (.Attribute (.Name a p) "append" apos) [e] [] cpos) (tBM X.K "list" rAppend (tVar i) (tCons (WE X e) tNil)) := by exact pe_bm PySem.F.plainAttrs_list PySem.F.slot_list_append PySem.F.type_list_append mt_append (pv _) (pa_cons WE.pe pa_nil))
    (hs : swapsWith (.Call (.Attribute (.Name a p) "append" apos) [e] [] cpos) none pos.line X.env = pure false := by rfl) : Bk X E Γ (.Expr (.Call (.Attribute (.Name a p) "append" apos) [e] [] cpos) pos :: rest) D :=
  bk_of (ps_expr hpe hs) fun G H σ hh => by
    obtain ⟨q, o, h1, h2, h3, h4, vs, h5, h6⟩ := hh.ow hg
    subst h5
    refine ⟨_, h1, .inl ⟨rfl, vs, .inl (.inl h4)⟩, he E G H σ hh _ fun v G1 H1 g1 hh1 r1 => ?_⟩
    obtain ⟨q', o', w1, w2, w3, w4, ws, w5, w6⟩ := hh1.ow hg'
    rw [h1] at w1
    cases w1
    subst w5
    refine ⟨q, ws, v, rfl, rfl, w4, by rw [w6.length]; exact hl, ?_⟩
    exact k G1 _ σ (hh1.mut hg' h1 ⟨_, rfl, w6.append (.one r1)⟩)
theorem bk_retM {ps : List Addr} {post : List Oc} (he : EvM X Γ Γ' e r x) (k : RetN E D ps post r x) (hs : Still Γ' 0 ps post) : Bk X E Γ (.Return (some e) pos :: rest) D :=
  bk_of (ps_ret WE.pe) fun G H σ hh => he E G H σ hh _ fun v G1 H1 g1 h1 r1 => k v G1 H1 h1.le (Still.ows h1 hs) r1
end
end Hf

namespace Hf
open PySem PySem.Spec PyProof.Rows L2

/-! ### works: plain data, the law's tuples, the program's objects -/
inductive Pl where
  | leaf (name : Str) (steps : Option Int)
  | lot (row : Bool) (name : Str) (parts : List (Int × Pl))
instance : Inhabited Pl := ⟨.leaf Str.empty none⟩
namespace Pl
def name : Pl → Str
  | leaf n _ => n
  | lot _ n _ => n
def parts : Pl → List (Int × Pl)
  | leaf _ _ => []
  | lot _ _ ps => ps
def steps : Pl → Option Int
  | leaf _ s => s
  | lot _ _ _ => none
def isLeaf : Pl → Bool
  | leaf _ _ => true
  | lot _ _ _ => false
def kind : Pl → Str
  | leaf _ _ => "leaf"
  | lot true _ _ => "row"
  | lot false _ _ => "bundle"
end Pl
def oV : Option Int → V
  | none => .non
  | some i => .int i
/-- the classes of works -/
structure WC where
  L : Addr
  R : Addr
  B : Addr
def WC.of (c : WC) : Pl → Addr
  | .leaf _ _ => c.L
  | .lot true _ _ => c.R
  | .lot false _ _ => c.B
def wkF (n : Str) (h : Addr) (m : V) : List (Str × V) := [("called", .str n), ("held", .ref h), ("many", m)]
mutual
inductive WkAt (K : PySem.W.Frag) (c : WC) (G : Hp) : V → Pl → Prop
  | leaf {a dx h : Addr} {n : Str} {s : Option Int} : G a = some (.ins c.L dx (wkF n h (oV s))) → G h = some (.lst []) → WkAt K c G (.ref a) (.leaf n s)
  | lot {a dx h : Addr} {row : Bool} {n : Str} {vs : List V} {ps : List (Int × Pl)} : G a = some (.ins (c.of (.lot row n ps)) dx (wkF n h .non)) → G h = some (.lst vs) → PtAt K c G vs ps → WkAt K c G (.ref a) (.lot row n ps)
inductive PtAt (K : PySem.W.Frag) (c : WC) (G : Hp) : List V → List (Int × Pl) → Prop
  | nil : PtAt K c G [] []
  | cons {p : Addr} {i : Int} {v : V} {w : Pl} {vs : List V} {ps : List (Int × Pl)} : SqT K G p [.int i, v] → WkAt K c G v w → PtAt K c G vs ps → PtAt K c G (.ref p :: vs) ((i, w) :: ps)
end
mutual
inductive PlAt (K : PySem.W.Frag) (G : Hp) : V → Pl → Prop
  | leaf {a : Addr} {n : Str} {s : Option Int} : SqT K G a [.str "leaf", .str n, oV s] → PlAt K G (.ref a) (.leaf n s)
  | lot {a h : Addr} {row : Bool} {n : Str} {vs : List V} {ps : List (Int × Pl)} : SqT K G a [.str (Pl.lot row n ps).kind, .str n, .ref h] → G h = some (.lst vs) → PpAt K G vs ps → PlAt K G (.ref a) (.lot row n ps)
inductive PpAt (K : PySem.W.Frag) (G : Hp) : List V → List (Int × Pl) → Prop
  | nil : PpAt K G [] []
  | cons {p : Addr} {i : Int} {v : V} {w : Pl} {vs : List V} {ps : List (Int × Pl)} : SqT K G p [.int i, v] → PlAt K G v w → PpAt K G vs ps → PpAt K G (.ref p :: vs) ((i, w) :: ps)
end
section
variable {K : PySem.W.Frag} {c : WC} {G G' : Hp}
mutual
theorem WkAt.mono (e : Ex G G') : ∀ (w : Pl) (v : V), WkAt K c G v w → WkAt K c G' v w
  | .leaf n s, _, h => by
    cases h with
    | leaf h1 h2 => exact .leaf (e _ _ h1) (e _ _ h2)
  | .lot r n ps, _, h => by
    cases h with
    | lot h1 h2 h3 => exact .lot (e _ _ h1) (e _ _ h2) (PtAt.mono e ps _ h3)
theorem PtAt.mono (e : Ex G G') : ∀ (ps : List (Int × Pl)) (vs : List V), PtAt K c G vs ps → PtAt K c G' vs ps
  | [], _, h => by cases h; exact .nil
  | (i, w) :: ps, _, h => by
    cases h with
    | cons h1 h2 h3 => exact .cons (Evl.ex_t e h1) (WkAt.mono e w _ h2) (PtAt.mono e ps _ h3)
end
mutual
theorem PlAt.mono (e : Ex G G') : ∀ (w : Pl) (v : V), PlAt K G v w → PlAt K G' v w
  | .leaf n s, _, h => by
    cases h with
    | leaf h1 => exact .leaf (Evl.ex_t e h1)
  | .lot r n ps, _, h => by
    cases h with
    | lot h1 h2 h3 => exact .lot (Evl.ex_t e h1) (e _ _ h2) (PpAt.mono e ps _ h3)
theorem PpAt.mono (e : Ex G G') : ∀ (ps : List (Int × Pl)) (vs : List V), PpAt K G vs ps → PpAt K G' vs ps
  | [], _, h => by cases h; exact .nil
  | (i, w) :: ps, _, h => by
    cases h with
    | cons h1 h2 h3 => exact .cons (Evl.ex_t e h1) (PlAt.mono e w _ h2) (PpAt.mono e ps _ h3)
end
end
def rWk (K : PySem.W.Frag) (c : WC) : Rp Pl := ⟨WkAt K c, fun {G G' v a} e h => WkAt.mono e a v h⟩
def rPl (K : PySem.W.Frag) : Rp Pl := ⟨PlAt K, fun {G G' v a} e h => PlAt.mono e a v h⟩
theorem ptAt_all {K : PySem.W.Frag} {c : WC} {G : Hp} : ∀ {ps : List (Int × Pl)} {vs : List V}, PtAt K c G vs ps ↔ All2 (rT2 K rInt (rWk K c)) G vs ps
  | [], vs => ⟨fun h => by cases h; exact .nil, fun h => by cases h; exact .nil⟩
  | (i, w) :: ps, vs => ⟨fun h => by
    cases h with
    | cons h1 h2 h3 => exact .cons ⟨_, _, _, rfl, h1, rfl, h2⟩ (ptAt_all.mp h3), fun h => by
    cases h with
    | cons h1 h3 =>
      obtain ⟨p, x, y, e, k1, k2, k3⟩ := h1
      have k2' : x = .int i := k2
      subst e k2'
      exact .cons k1 k3 (ptAt_all.mpr h3)⟩
theorem ppAt_all {K : PySem.W.Frag} {G : Hp} : ∀ {ps : List (Int × Pl)} {vs : List V}, PpAt K G vs ps ↔ All2 (rT2 K rInt (rPl K)) G vs ps
  | [], vs => ⟨fun h => by cases h; exact .nil, fun h => by cases h; exact .nil⟩
  | (i, w) :: ps, vs => ⟨fun h => by
    cases h with
    | cons h1 h2 h3 => exact .cons ⟨_, _, _, rfl, h1, rfl, h2⟩ (ppAt_all.mp h3), fun h => by
    cases h with
    | cons h1 h3 =>
      obtain ⟨p, x, y, e, k1, k2, k3⟩ := h1
      have k2' : x = .int i := k2
      subst e k2'
      exact .cons k1 k3 (ppAt_all.mpr h3)⟩
/-- what the classes are -/
structure WcOk (K : PySem.W.Frag) (c : WC) : Prop where
  cls : ∀ w, Cls K (c.of w)
  called : ∀ w, NoAttr K (c.of w) "called"
  held : ∀ w, NoAttr K (c.of w) "held"
  many : ∀ w, NoAttr K (c.of w) "many"
theorem WkAt.obj {K : PySem.W.Frag} {c : WC} {G : Hp} {v : V} {w : Pl} (h : WkAt K c G v w) : ∃ a dx hd vs, v = .ref a ∧ G a = some (.ins (c.of w) dx (wkF w.name hd (oV w.steps))) ∧ G hd = some (.lst vs) ∧ PtAt K c G vs w.parts := by
  cases h with
  | leaf h1 h2 => exact ⟨_, _, _, _, rfl, h1, h2, .nil⟩
  | lot h1 h2 h3 => exact ⟨_, _, _, _, rfl, h1, h2, h3⟩
section
variable {X : Cx} {Γ : List Slot} {c : WC} {e : Expr} {pos : Pos} {w : Pl}
theorem ev_called (ok : WcOk X.K c) (h : Ev X Γ e (rWk X.K c) w) (hb : attributeBase e "called" X.env (eval e X.env) = eval e X.env := by rfl) : Ev X Γ (.Attribute e "called" pos) rStr w.name := fun E G H σ hh Q q =>
  WE.of (pe_fld WE.pe hb) (h E G H σ hh _ fun v G1 H1 l1 r1 => by
    obtain ⟨a, dx, hd, vs, e1, h1, h2, h3⟩ := r1.obj
    exact ⟨a, _, dx, _, _, e1, l1.gh _ _ h1, ok.cls w, ok.called w, rfl, q _ G1 H1 l1 rfl⟩)
theorem ev_held (ok : WcOk X.K c) (h : Ev X Γ e (rWk X.K c) w) (hb : attributeBase e "held" X.env (eval e X.env) = eval e X.env := by rfl) : Ev X Γ (.Attribute e "held" pos) (rLst (rT2 X.K rInt (rWk X.K c))) w.parts := fun E G H σ hh Q q =>
  WE.of (pe_fld WE.pe hb) (h E G H σ hh _ fun v G1 H1 l1 r1 => by
    obtain ⟨a, dx, hd, vs, e1, h1, h2, h3⟩ := r1.obj
    exact ⟨a, _, dx, _, _, e1, l1.gh _ _ h1, ok.cls w, ok.held w, rfl, q _ G1 H1 l1 ⟨hd, vs, rfl, h2, ptAt_all.mp h3⟩⟩)
theorem ev_many (ok : WcOk X.K c) (h : Ev X Γ e (rWk X.K c) w) (hb : attributeBase e "many" X.env (eval e X.env) = eval e X.env := by rfl) : Ev X Γ (.Attribute e "many" pos) (rOpt rInt) w.steps := fun E G H σ hh Q q =>
  WE.of (pe_fld WE.pe hb) (h E G H σ hh _ fun v G1 H1 l1 r1 => by
    obtain ⟨a, dx, hd, vs, e1, h1, h2, h3⟩ := r1.obj
    refine ⟨a, _, dx, _, _, e1, l1.gh _ _ h1, ok.cls w, ok.many w, rfl, q _ G1 H1 l1 ?_⟩
    cases w.steps with
    | none => rfl
    | some i => rfl)
end
end Hf

namespace Hf
open PySem PySem.Spec PyProof.Rows L2

/-! ### methods -/
/-- the method m of the class at C, as callers see it -/
structure HasM (P : Program) (w : World) (K : PySem.W.Frag) (mg : Str → Option Value) (base : Heap) (C : Addr) (m : Str) (k : Nat) (sp : Sp) : Prop where
  ex : ∃ (f : Addr) (fd : FuncData) (ps : List Str) (spF : Sp) (dvs : List V) (ds : List Value), Cls K C ∧ Meth K C m f ∧ Binds K fd ps ds ∧ Vals dvs ds ∧ FnOk P w K mg base (CXL P w) k f fd ps spF ∧ ∀ vs H Q, sp vs H Q E0 → spF (vs ++ dvs) H Q E0
theorem HasM.mk0 {P : Program} {w : World} {K : PySem.W.Frag} {mg : Str → Option Value} {base : Heap} {C : Addr} {m : Str} {k : Nat} {sp : Sp} {f : Addr} {fd : FuncData} {ps : List Str} (c : Cls K C) (hm : Meth K C m f) (hb : Binds K fd ps []) (F : FnOk P w K mg base (CXL P w) k f fd ps sp) : HasM P w K mg base C m k sp :=
  ⟨f, fd, ps, sp, [], [], c, hm, hb, .nil, F, fun vs H Q h => by rw [List.append_nil]; exact h⟩
theorem HasM.sub {P : Program} {w : World} {K : PySem.W.Frag} {mg : Str → Option Value} {base : Heap} {C : Addr} {m : Str} {k j : Nat} {sp sp' : Sp} (h : HasM P w K mg base C m k sp) (hk : k ≤ j) (hs : ∀ vs H Q, sp' vs H Q E0 → sp vs H Q E0) : HasM P w K mg base C m j sp' := by
  obtain ⟨f, fd, ps, spF, dvs, ds, c, hm, hb, hd, F, hi⟩ := h.ex
  exact ⟨f, fd, ps, spF, dvs, ds, c, hm, hb, hd, F.mono hk, fun vs H Q z => hi vs H Q (hs vs H Q z)⟩
/-- a method of works: for each class the spec holds of the data of this class -/
def HasV (P : Program) (w : World) (K : PySem.W.Frag) (mg : Str → Option Value) (base : Heap) (c : WC) (m : Str) (k : Nat) {ι α : Type} (self : ι → Pl) (Pre : ι → Prop) (args : ι → List Ty) (r : Rp α) (res : ι → α) : Prop :=
  ∀ y, Pre y → HasM P w K mg base (c.of (self y)) m k (PSp (fun z => z = y) (fun z => ⟨rWk K c, self z⟩ :: args z) r res)
section
variable {X : Cx} {Γ : List Slot} {e o : Expr} {es : List Expr} {pos p apos : Pos} {α ι : Type} {r : Rp α} {k j : Nat} {m : Str} {C : Addr} {c : WC} {pl : Sem Bool}
theorem we_meth {sp : Sp} {σ : L2.St} {H : Hp} {Q : VK} (h : HasM X.prog X.w X.K X.mg X.base C m k sp) (hr : Room j X.A) (hk : k ≤ j)
    (ho : WE X o σ H fun x H1 => ∃ a dx fs, x = .ref a ∧ H1 a = some (.ins C dx fs) ∧ fs.lookup m = none ∧ WA X (e :: es) σ H1 fun vs H2 => sp (x :: vs) H2 Q E0)
    (hst : starEach (e :: es) X.env = (false, eval e X.env) :: starEach es X.env := by rfl) (hpl : (backTo pos (starEach es X.env)).any (·.1) = false := by rfl)
    (ht : eval (.Call (.Attribute o m apos) (e :: es) [] pos) X.env = (do
      let ov ← eval o X.env
      standAt apos.atName
      let (f, first) ← holding [ov] (getMethod ov m pl)
      callWith pos f first (backTo pos (starEach (e :: es) X.env)) (backToKw pos (keywordEach [] X.env))) := by rfl) : WE X (.Call (.Attribute o m apos) (e :: es) [] pos) σ H Q := by
  obtain ⟨f0, fd, ps, spF, dvs, ds, c, hm, hb, hd, F, hi⟩ := h.ex
  refine WE.of (pe_meth WE.pe c hm F (hr.mono hk) hb hd passL WA.pa hst hpl ht) ?_
  exact ⟨fun pins s I => thn (ho.run pins s I) fun u s1 ⟨x, H1, I1, r1, a, dx, fs, e1, e2, l, q⟩ => ⟨x, H1, I1, r1, a, dx, fs, e1, e2, l, ⟨fun pos pins s I => thn (q.run pos pins s I) fun us s1 ⟨vs, H1, I1, r1, q⟩ => ⟨vs, H1, I1, r1, hi (x :: vs) H1 Q q⟩⟩⟩⟩
theorem we_meth0 {sp : Sp} {σ : L2.St} {H : Hp} {Q : VK} (h : HasM X.prog X.w X.K X.mg X.base C m k sp) (hr : Room j X.A) (hk : k ≤ j)
    (ho : WE X o σ H fun x H1 => ∃ a dx fs, x = .ref a ∧ H1 a = some (.ins C dx fs) ∧ fs.lookup m = none ∧ sp [x] H1 Q E0)
    (ht : eval (.Call (.Attribute o m apos) [] [] pos) X.env = (do
      let ov ← eval o X.env
      standAt apos.atName
      let (f, first) ← holding [ov] (getMethod ov m pl)
      callWith pos f first (backTo pos (starEach [] X.env)) (backToKw pos (keywordEach [] X.env))) := by rfl) : WE X (.Call (.Attribute o m apos) [] [] pos) σ H Q := by
  obtain ⟨f0, fd, ps, spF, dvs, ds, c, hm, hb, hd, F, hi⟩ := h.ex
  refine WE.of (pe_meth0 WE.pe c hm F (hr.mono hk) hb hd passL ht) ?_
  exact ⟨fun pins s I => thn (ho.run pins s I) fun u s1 ⟨x, H1, I1, r1, a, dx, fs, e1, e2, l, q⟩ => ⟨x, H1, I1, r1, a, dx, fs, e1, e2, l, hi [x] H1 Q q⟩⟩
end
end Hf

namespace Hf
open PySem PySem.Spec PyProof.Rows L2
section
variable {X : Cx} {Γ : List Slot} {e o : Expr} {es : List Expr} {pos p apos : Pos} {α ι : Type} {r : Rp α} {k j : Nat} {m : Str} {C : Addr} {c : WC} {pl : Sem Bool} {self : ι → Pl} {Pre : ι → Prop} {args : ι → List Ty} {res : ι → α} {z : α}
/-- w.m(e, ..) of a work -/
theorem ev_vm (h : HasV X.prog X.w X.K X.mg X.base c m k self Pre args r res) (hr : Room j X.A) (hk : k ≤ j) (y : ι) (hp : Pre y) (ho : Ev X Γ o (rWk X.K c) (self y)) (ha : EvA X Γ (e :: es) (args y)) (hz : res y = z := by rfl)
    (hf : ∀ n hd v, (wkF n hd v).lookup m = none := by intro _ _ _; rfl)
    (hst : starEach (e :: es) X.env = (false, eval e X.env) :: starEach es X.env := by rfl) (hpl : (backTo pos (starEach es X.env)).any (·.1) = false := by rfl)
    (ht : eval (.Call (.Attribute o m apos) (e :: es) [] pos) X.env = (do
      let ov ← eval o X.env
      standAt apos.atName
      let (f, first) ← holding [ov] (getMethod ov m pl)
      callWith pos f first (backTo pos (starEach (e :: es) X.env)) (backToKw pos (keywordEach [] X.env))) := by rfl) : Ev X Γ (.Call (.Attribute o m apos) (e :: es) [] pos) r z := fun E G H σ hh Q q =>
  we_meth (h y hp) hr hk (ho E G H σ hh _ fun v G1 H1 l1 r1 => by
    obtain ⟨a, dx, hd, vs, e1, h1, h2, h3⟩ := WkAt.obj r1
    subst e1
    refine ⟨a, dx, _, rfl, l1.gh _ _ h1, hf _ _ _, ha E G1 H1 σ (hh.step l1) _ fun us G2 H2 l2 a2 => ?_⟩
    exact ⟨y, G2, rfl, l2.gh, ⟨(rWk X.K c).mono l2.g r1, a2⟩, fun u G3 H3 l3 r3 => q u G3 H3 ((l1.trans l2).trans l3) (hz ▸ r3)⟩) hst hpl ht
theorem ev_vm0 (h : HasV X.prog X.w X.K X.mg X.base c m k self Pre args r res) (hr : Room j X.A) (hk : k ≤ j) (y : ι) (hp : Pre y) (ho : Ev X Γ o (rWk X.K c) (self y)) (ha : args y = []) (hz : res y = z := by rfl)
    (hf : ∀ n hd v, (wkF n hd v).lookup m = none := by intro _ _ _; rfl)
    (ht : eval (.Call (.Attribute o m apos) [] [] pos) X.env = (do
      let ov ← eval o X.env
      standAt apos.atName
      let (f, first) ← holding [ov] (getMethod ov m pl)
      callWith pos f first (backTo pos (starEach [] X.env)) (backToKw pos (keywordEach [] X.env))) := by rfl) : Ev X Γ (.Call (.Attribute o m apos) [] [] pos) r z := fun E G H σ hh Q q =>
  we_meth0 (h y hp) hr hk (ho E G H σ hh _ fun v G1 H1 l1 r1 => by
    obtain ⟨a, dx, hd, vs, e1, h1, h2, h3⟩ := WkAt.obj r1
    subst e1
    refine ⟨a, dx, _, rfl, l1.gh _ _ h1, hf _ _ _, y, G1, rfl, l1.gh, ⟨r1, by rw [ha]; trivial⟩, fun u G3 H3 l3 r3 => q u G3 H3 (l1.trans l3) (hz ▸ r3)⟩) ht
end
/-! ### an instance that is being made -/
def oIns (C : Addr) (ns : List Str) (ts : List Ty) : Oc := ⟨fun G o => ∃ dx vs, o = .ins C dx (ns.zip vs) ∧ Args G vs ts ∧ ns.length = ts.length, fun e ⟨dx, vs, h1, h2, h3⟩ => ⟨dx, vs, h1, Args.mono e h2, h3⟩⟩
theorem putF_new {f : Str} {v : V} : ∀ {ns : List Str} {vs : List V}, f ∉ ns → ns.length = vs.length → putF f v (ns.zip vs) = (ns ++ [f]).zip (vs ++ [v])
  | [], [], _, _ => rfl
  | n :: ns, u :: vs, h, l => by
    simp only [List.mem_cons, not_or] at h
    show (if n = f then (n, v) :: ns.zip vs else (n, u) :: putF f v (ns.zip vs)) = (n, u) :: (ns ++ [f]).zip (vs ++ [v])
    rw [if_neg (fun z => h.1 z.symm), putF_new h.2 (by simpa using l)]
section
variable {X : Cx} {E : Ent} {Γ : List Slot} {D : Ends} {e o : Expr} {rest : List Stmt} {pos p p2 : Pos} {α : Type} {r : Rp α} {x : α}
/-- self.f = e, a field more -/
theorem bk_fld (i : Nat) {a f : Str} {C : Addr} {ns : List Str} {ts : List Ty} {pq : Option Addr} (cl : Cls X.K C) (na : NoAttr X.K C f) (hg : Γ[i]? = some (.ow (oIns C ns ts) pq)) (he : Ev X Γ e r x) (hn : f ∉ ns) (hl : ns.length < 1000) (k : Bk X E (Γ.set i (.ow (oIns C (ns ++ [f]) (ts ++ [⟨r, x⟩])) pq)) rest D)
    (hN : X.N[i]? = some a := by rfl) (hv : Vis X.env.scope a := by first | exact Or.inl rfl | exact Or.inr (Or.inl rfl) | exact Or.inr (Or.inr rfl)) (hd : (a == ("__debug__" : Str)) = false := by decide) (hcd : (a == ("__classdict__" : Str)) = false := by decide)
    (hs : swapsWith e (some (.Attribute (.Name a p) f p2)) pos.line X.env = pure false := by rfl) : Bk X E Γ (.Assign [.Attribute (.Name a p) f p2] e pos :: rest) D :=
  bk_of (ps_fld (pe_var hN hv hd hcd) WE.pe hs) fun G H σ hh => he E G H σ hh _ fun v G1 H1 l1 r1 => by
    have h1 := hh.step l1
    obtain ⟨q, ob, w1, w2, w3, w4, dx, vs, w5, w6, w7⟩ := h1.ow hg
    subst w5
    refine ⟨_, w1, q, C, dx, _, rfl, w4, cl, na, by rw [List.length_zip]; omega, ?_⟩
    have lv : ns.length = vs.length := by rw [args_length w6]; exact w7
    refine k G1 _ σ (h1.mut hg w1 ⟨dx, vs ++ [v], by rw [putF_new hn lv], args_app (t := ⟨r, x⟩) r1 w6, by simp [w7]⟩)
end
end Hf

namespace Hf
open PySem PySem.Spec PyProof.Rows L2 ClX
/-- the def f reached through its class: C.m(x, ..) -/
structure Unb (K : PySem.W.Frag) (C : Addr) (m : Str) (f : Addr) : Prop where
  rd : ∃ mc, CRead K C mc ∧ PySem.W.findCls K (.ref C) mc m = some (.val (.ref f))
  kp : PySem.W.keepIn K (.ref f) = true
def tUnb (C : Addr) (sp : Sp) (dvs : List V) (E : XK) (ta : TE) (t : TA) : TE := fun σ H Q => ta σ H fun x H1 => x = .ref C ∧ t σ H1 fun vs H2 => sp (vs ++ dvs) H2 Q E
section
variable {X : Cx} {CX : CXT} {k : Nat} {f C : Addr} {fd : FuncData} {ps : List Str} {sp : Sp} {dvs : List V} {ds : List Value} {E : XK} {m : Str} {pos apos : Pos} {e o : Expr} {es : List Expr} {ta : TE} {t : TA} {pl : Sem Bool}
theorem pe_unb (he : PE X o ta) (u : Unb X.K C m f) (F : FnOk X.prog X.w X.K X.mg X.base CX k f fd ps sp) (hr : Room k X.A) (hb : Binds X.K fd ps ds) (hd : Vals dvs ds) (hx : Passes CX X E) (ha : PA X (e :: es) t)
    (hst : starEach (e :: es) X.env = (false, eval e X.env) :: starEach es X.env := by rfl) (hpl : (backTo pos (starEach es X.env)).any (·.1) = false := by rfl)
    (ht : eval (.Call (.Attribute o m apos) (e :: es) [] pos) X.env = (do
      let ov ← eval o X.env
      standAt apos.atName
      let (f, first) ← holding [ov] (getMethod ov m pl)
      callWith pos f first (backTo pos (starEach (e :: es) X.env)) (backToKw pos (keywordEach [] X.env))) := by rfl) :
    PE X (.Call (.Attribute o m apos) (e :: es) [] pos) (tUnb C sp dvs E ta t) := by
  obtain ⟨mc, r, at_⟩ := u.rd
  refine ⟨fun pins s σ H Q I h => PySem.W.methodCall_KW (pl := pl) (thn (he.run pins s σ H _ I h) fun v s1 ⟨x, H1, I1, rx, ex, q⟩ => ?_) ht⟩
  subst ex
  have ev : v = Value.ref C := rx
  subst ev
  refine PySem.W.method_cls I1.kIn r.ga (PySem.W.cls_value I1.kIn r.rd at_ (handed_of (v := .ref f) rfl) ?_)
  have I2 := I1.tok (s1.toks + 1)
  exact PySem.W.callWith_K (first := []) (h₀ := X.base) I2.ok.mod.kin u.kp (thn (ha.run pos pins _ σ H1 _ I2 q) fun us s2 ⟨vs, H2, I3, r3, q2⟩ => ⟨I3.kIn, run_fn F hr hb hd hx I3 r3 q2⟩) hst hpl
end
end Hf

/-! len(set(list of texts)) -/
namespace Hf
open PySem PySem.Spec PyProof.Rows L2 PySem.W PySem.Calls
def dups (l : List Str) : List Str := l.foldl (fun a x => if decide (x ∈ a) = true then a else a ++ [x]) []
theorem dups_snoc (l : List Str) (x : Str) : dups (l ++ [x]) = if decide (x ∈ dups l) = true then dups l else dups l ++ [x] := by
  unfold dups
  rw [List.foldl_append]
  rfl
theorem dups_mem {x : Str} {l : List Str} : x ∈ dups l ↔ x ∈ l := by
  have h : ∀ n, ∀ l : List Str, l.length = n → (x ∈ dups l ↔ x ∈ l) := fun n => by
    induction n with
    | zero => intro l hl; rw [List.length_eq_zero_iff.mp hl]; rfl
    | succ n ih =>
      intro l hl
      obtain ⟨m, z, rfl⟩ : ∃ m z, l = m ++ [z] := ⟨l.dropLast, l.getLast (by intro q; rw [q] at hl; simp at hl), (List.dropLast_concat_getLast _).symm⟩
      have hm : m.length = n := by simp at hl; omega
      have k := ih m hm
      rw [dups_snoc]
      split
      · rename_i q
        have q' : z ∈ dups m := of_decide_eq_true q
        rw [k]
        simp only [List.mem_append, List.mem_singleton]
        constructor
        · exact .inl
        · rintro (y | y)
          · exact y
          · rw [← k, y]; exact q'
      · simp only [List.mem_append, List.mem_singleton, k]
  exact h _ l rfl
section
variable {P : Program} {w : World} {A : Around}
theorem upd_txt {I : Addr} {fp wr : List Addr} {G : Array GenState → Array GenState → Prop} {n : Nat} {Pv : Nat → Value → Prop} {St : Nat → Shared → Prop} {R : Result → Shared → Prop}
    (W : WalksS P w A.in1 I fp wr G n Pv St) (S : Addr) (hf : S ∉ fp) (ks : List Str) (hn : n = ks.length) (hb : ks.length + 1 < scanBound) (hv : ∀ i v, Pv i v → ∃ k t, ks[i]? = some k ∧ v = .str k t) :
    ∀ (d i : Nat) (s : Shared), n - i = d → i ≤ n → St i s → s.heap.SetOf (strKind P w) S (fun j => decide (j ∈ dups (ks.take i))) (dups (ks.take i)).length →
      (∀ u, Moved (S :: wr) G s u → u.heap.SetOf (strKind P w) S (fun j => decide (j ∈ dups ks)) (dups ks).length → R (.ok (.ret .none)) u) →
      codeAny (model P w) A (.builtin "set.update.loop" ⟨[.ref S, .ref I], []⟩) R s := by
  have nw : S ∉ wr := fun h => hf (W.sub _ h)
  have more : ∀ b ∈ wr, b ∈ S :: wr := fun b h => .tail _ h
  have at' : ∀ {g g' : Heap} {f : Str → Bool} {c : Nat}, (∀ o, g.get? S = some o → g'.get? S = some o) → g.SetOf (strKind P w) S f c → g'.SetOf (strKind P w) S f c := fun k ⟨o, es, ep, t, ho, z⟩ => ⟨o, es, ep, t, k o ho, z⟩
  intro d
  induction d with
  | zero =>
    intro i s hd hi st hS hR
    have e : i = n := by omega
    subst e
    refine codeAny_builtin PyProof.Rows.F.entry_set_update_loop ?_
    rw [Around.under_plainId PyProof.Rows.F.plain_set_update_loop _]
    refine (show wpAny _ A.in1 (pyNext (.ref I) >>= _) _ _ s from wpAny_bind (W.done s _ _ st fun u hm => ?_))
    rw [List.take_of_length_le (by omega)] at hS
    exact (show wpAny _ A.in1 (ret Value.none) _ _ u from wpAny_pure (hR u (hm.mono more) (at' (fun o => hm.heap S o nw) hS)))
  | succ d ih =>
    intro i s hd hi st hS hR
    have lt : i < n := by omega
    refine codeAny_builtin PyProof.Rows.F.entry_set_update_loop ?_
    rw [Around.under_plainId PyProof.Rows.F.plain_set_update_loop _]
    refine (show wpAny _ A.in1 (pyNext (.ref I) >>= _) _ _ s from wpAny_bind (W.item i s _ _ lt st fun v u hp st' hm => ?_))
    obtain ⟨z, t, hz, rfl⟩ := hv i v hp
    have hS' := at' (fun o => hm.heap S o nw) hS
    refine (show wpAny _ A.in1 (holding [Value.str z t] (setAdd S (.str z t)) >>= _) _ _ u from wpAny_bind (wpAny_holding ?_))
    unfold setAdd
    have dl : (dups (ks.take i)).length ≤ i := by
      have h : ∀ m, ∀ l : List Str, l.length = m → (dups l).length ≤ m := fun m => by
        induction m with
        | zero => intro l hl; rw [List.length_eq_zero_iff.mp hl]; exact Nat.le_refl _
        | succ m ih2 =>
          intro l hl
          obtain ⟨m', z', rfl⟩ : ∃ m z, l = m ++ [z] := ⟨l.dropLast, l.getLast (by intro q; rw [q] at hl; simp at hl), (List.dropLast_concat_getLast _).symm⟩
          have := ih2 m' (by simp at hl; omega)
          rw [dups_snoc]
          split
          · omega
          · rw [List.length_append, List.length_singleton]; omega
      have := h _ (ks.take i) rfl
      rw [List.length_take] at this
      omega
    refine wpAny_holding (wpAny_bind ((strKind P w).pyHash (k := z) (strKind_is _ _ z t) ?_))
    refine wpAny_setAddHashed_of (knd := strKind P w) (s := { u with toks := u.toks + 1 }) (strKind_is _ _ z t) rfl hS' (by omega) fun g' hsb hS2 => ?_
    have tk : ks.take (i + 1) = ks.take i ++ [z] := by
      rw [List.take_add_one, hz]; rfl
    have hS3 : g'.SetOf (strKind P w) S (fun j => decide (j ∈ dups (ks.take (i + 1)))) (dups (ks.take (i + 1))).length := by
      refine SetOf_congr hS2 (fun j => ?_) ?_
      · rw [tk, dups_snoc]
        split
        · rename_i q
          by_cases y : j = z
          · subst y; simp [q]
          · simp [y]
        · simp
      · rw [tk, dups_snoc]
        split <;> simp
    refine wpAny_pure ⟨plainId_quiet PyProof.Rows.F.plain_set_update_loop _, ih (i + 1) _ (by omega) lt (W.frame _ u _ _ st' (Nat.le_succ _) fun b hb o e => ?_) hS3 fun u2 m2 hS4 => ?_⟩
    · rw [hsb.2 b (fun h => hf (h ▸ hb))]; exact e
    · refine hR u2 (Moved.trans W.gtrans ((hm.mono more).then_heap (Nat.le_succ _) fun b o hb e => ?_) m2) hS4
      rw [hsb.2 b (fun h => hb (h ▸ .head _))]; exact e
end
end Hf

namespace Hf
open PySem PySem.Spec PyProof.Rows L2 PySem.W PySem.Calls
theorem strs_at : ∀ {vs : List Value} {ns : List Str}, StrsAre vs ns → ∀ (i : Nat) (v : Value), vs[i]? = some v → ∃ k t, ns[i]? = some k ∧ v = .str k t
  | _, _, .cons k t h, 0, v, e => by cases e; exact ⟨k, t, rfl, rfl⟩
  | _, _, .cons k t h, i + 1, v, e => strs_at h i v e
  | _, _, .nil, i, v, e => by simp at e
theorem strs_len : ∀ {vs : List Value} {ns : List Str}, StrsAre vs ns → vs.length = ns.length
  | _, _, .nil => rfl
  | _, _, .cons k t h => by rw [List.length_cons, List.length_cons, strs_len h]
theorem setTxt_new {P : Program} {w : World} {g : Heap} {a : Addr} (h : g.get? a = some (nset w)) : g.SetOf (strKind P w) a (fun j => decide (j ∈ dups (([] : List Str)))) (dups ([] : List Str)).length :=
  ⟨_, #[], 0, _, h, ⟨rfl, rfl, rfl⟩, rfl, fun e he => by simp at he, fun k => by simp [dups], by decide, rfl, rfl⟩
section
variable {P : Program} {w : World} {A : Around} {E : Value → Shared → Prop} {s : Shared}
set_option maxHeartbeats 3200000 in
theorem set_of_txts {l : Addr} {items : Array Value} (ns : List Str) {Q : Value → Shared → Prop} (nh : A.handled = none) (hl : s.heap.IsList l items) (it : StrsAre items.toList ns) (fit : ns.length + 1 < scanBound)
    (k : ∀ (g : Heap) (tk : Nat), g.SetOf (strKind P w) s.heap.objs.size (fun j => decide (j ∈ dups ns)) (dups ns).length → (∀ b o, s.heap.get? b = some o → g.get? b = some o) → Q (.ref s.heap.objs.size) { s with heap := g, toks := tk }) :
    wpAny (model P w) A (call (.type "set") [.ref l]) Q E s := by
  have sz : items.size = ns.length := by have q := strs_len it; rw [Array.length_toList] at q; exact q
  have fs := F.called_set
  obtain ⟨mc, mt, hmro⟩ := fs.mro
  have x1 := fs.made; have x2 := fs.sub; have x3 := fs.notType; have x4 := fs.canCreate
  refine wpAny_call (codeAny_of_tree (wpAny_pure (show _ ∧ _ from ⟨Code.quiet_builtin _ (by decide +kernel), codeAny_builtin F.entry_type_call ?_⟩)))
  rw [Around.under_plain (weight_type_call_type "set" [.ref l] []) rfl]
  have x5 := F.typeCall_set_1 (.ref l)
  repeat (any_goals (first | assumption | wp_step))
  refine codeAny_mono (code_set_led1 (.ref l) (E := E) (Q₁ := fun ob u => ob = .ref s.heap.objs.size ∧ u = { s with heap := s.heap.push (nset w) }) ⟨rfl, rfl⟩) fun r u hr => ?_
  match r, hr with
  | .error e, hr => exact hr
  | .ok (.ret ob), hr =>
    obtain ⟨e1, e2⟩ := hr
    subst e1; subst e2
    have hS : (s.heap.push (nset w)).get? s.heap.objs.size = some (nset w) := Heap.get?_push_size _ rfl
    have hT : Shared.TypeIs { s with heap := s.heap.push (nset w) } (.ref s.heap.objs.size) "set" := ⟨_, hS, rfl⟩
    have x6 := fs.init.lookup; have x7 := fs.init.bind (.ref s.heap.objs.size)
    repeat (any_goals (first | assumption | wp_step))
    refine codeAny_mono (codeAny_call_builtin (R := wants (fun r s₂ => r = .none ∧ ∃ g tk, s₂ = { s with heap := g, toks := tk } ∧ g.SetOf (strKind P w) s.heap.objs.size (fun j => decide (j ∈ dups ns)) (dups ns).length ∧
        (∀ b o, s.heap.get? b = some o → g.get? b = some o)) E) fs.init.plain F.entry_set_init (check_set_init_1 hT ?_)) fun r₂ s₂ hr₂ => ?_
    · obtain ⟨⟨ocls, odict, odata, oslots⟩, hol, hcl, nl, hdl⟩ := hl
      simp only at hcl hdl
      subst hcl; subst hdl
      have hl1 : (s.heap.push (nset w)).IsList l items := ⟨_, Heap.get?_push_of_some _ hol, rfl, nl, rfl⟩
      have hol' : (s.heap.push (nset w)).get? l = some { cls := .type "list", dict := odict, data := .seq items nl, slots := oslots } := Heap.get?_push_of_some _ hol
      have y1 := F.sub_list_set; have y2 := F.sub_list_frozenset
      have y3 : (Value.type "list" == Value.type "dict") = false := by decide
      unfold Builtin.«set.__init__» noKeywords Builtin.Frozenset.updateFrom
      generalize hPI : pyIter = PI
      wp_walk
      subst hPI
      refine wpAny_pyIter_list hl1 (wpAny_bind (wpAny_runValue ?_))
      have ls : l < s.heap.objs.size := Heap.lt_size hol
      have pz : (s.heap.push (nset w)).objs.size = s.heap.objs.size + 1 := Heap.size_push ..
      have hh3 : A.in1.in1.in1.handled = none := by simp [nh]
      refine upd_txt ((Walks.list hh3 (s.heap.push (nset w)).objs.size l (by rw [pz]; exact Nat.ne_of_lt (Nat.lt_succ_of_lt ls)) items).toS) s.heap.objs.size
        (by rw [pz]; simp only [List.mem_cons, List.not_mem_nil, or_false, not_or]; exact ⟨Nat.ne_of_lt (Nat.lt_succ_self _), Nat.ne_of_gt ls⟩) ns sz fit (fun i v hv => ?hval) (items.size - 0) 0 _ (by omega) (Nat.zero_le _) ⟨⟨_, Heap.get?_push_size _ rfl, rfl, rfl⟩, hl1.push _⟩ (setTxt_new (Heap.get?_push_of_some _ hS)) fun s' hm hS' => ?_
      case hval =>
        have hi : i < ns.length := by rw [← sz]; exact (Array.getElem?_eq_some_iff.mp hv).1
        exact strs_at it i v (by rw [Array.getElem?_toList]; exact hv)
      obtain ⟨g, g2, d', tk, os'⟩ := s'
      have eg : g2 = s.gens := hm.gens
      have ed : d' = s.drawn := hm.drawn
      have eo : os' = s.os := hm.os
      subst eg; subst ed; subst eo
      refine wpAny_pure (show wpAny _ _ (ret Value.none) _ _ _ from wpAny_pure ⟨rfl, g, tk, rfl, hS', fun b o e => ?_⟩)
      have hb0 : b < s.heap.objs.size := Heap.lt_size e
      exact hm.heap b o (by rw [pz]; simp only [List.mem_cons, List.not_mem_nil, or_false, not_or]; exact ⟨Nat.ne_of_lt hb0, Nat.ne_of_lt (Nat.lt_succ_of_lt hb0)⟩) (Heap.get?_push_of_some _ (Heap.get?_push_of_some _ e))
    · match r₂, hr₂ with
      | .error e, hr₂ => exact hr₂
      | .ok (.ret r), hr₂ =>
        obtain ⟨e1, g, tk, e2, hS', hk'⟩ := hr₂
        subst e1; subst e2
        repeat (any_goals (first | assumption | wp_step))
        exact k _ _ hS' hk'
end
end Hf

namespace Hf
open PySem PySem.Spec PyProof.Rows L2
def tLenTxt (K : PySem.W.Frag) (ta : TE) : TE := fun σ H Q => ta σ H fun x H1 => ∃ (l : Addr) (xs : List Str), x = .ref l ∧ SqL K H1 l (xs.map V.str) ∧ xs.length + 1 < scanBound ∧ Q (.int ((dups xs).length : Nat)) H1
theorem strsAre_vals : ∀ {ys : List Str} {us : List Value}, Vals (ys.map V.str) us → StrsAre us ys
  | [], _, .nil => .nil
  | y :: ys, _, .cons r t => by
    obtain ⟨k, rfl⟩ := r
    exact .cons y k (strsAre_vals t)
section
variable {X : Cx} {Γ : List Slot} {a e : Expr} {ta : TE} {p p2 q pos : Pos} {xs : List Str}
theorem pe_lenTxt (hg : Gl X "len") (hm : X.mg "len" = none) (hg2 : Gl X "set") (hm2 : X.mg "set" = none) (ha : PE X a ta) (hc : X.calm = true := by rfl)
    (na : starEach [a] X.env = (false, eval a X.env) :: starEach [] X.env := by rfl) : PE X (.Call (.Name "len" p) [.Call (.Name "set" p2) [a] [] q] [] pos) (tLenTxt X.K ta) := by
  constructor
  intro pins s σ H Q I h
  refine Call_ (ld_blt I hg hm boot_len (PyProof.Rows.callWith_builtin1 (PyProof.Rows.args_cons (Call_ (ld_blt I hg2 hm2 boot_set ?_)) rfl) rfl rfl))
  refine PyProof.Rows.callWith_type1 (PyProof.Rows.args_cons (thn (ha.run pins s σ H _ I h) fun v s1 ⟨x, H1, I1, r1, l, xs, ex, hq, fit, q1⟩ => PyProof.Rows.args_nil ?_) na) na rfl
  subst ex
  cases r1
  obtain ⟨its, r, pl, hz⟩ := I1.list hq
  refine set_of_txts (P := X.prog) (w := X.w) xs (I1.ok.hd hc) pl.isList (by simpa using strsAre_vals r) fit fun g tk hS hk => ?_
  refine PyProof.Rows.args_nil ?_
  obtain ⟨o, es, ep, t, ho, hex, hd, _, _, hb, hf, hn⟩ := hS
  have sb : scanBound = 4096 := rfl
  have I2 : Inv X pins σ H1 { s1 with heap := g, toks := tk } := I1.kept hk
  exact call_len_set ho hex hd hf (by omega) ⟨.int ((dups xs).length : Nat), H1, I2.tok _, ⟨_, by rw [hn]⟩, q1⟩
theorem ev_lenTxt (hl : xs.length + 1 < scanBound) (h : EvB X Γ e (oLst rStr xs)) (hm : X.mg "len" = none) (hm2 : X.mg "set" = none) (hg : Gl X "len" := by rfl) (hg2 : Gl X "set" := by rfl) (hc : X.calm = true := by rfl)
    (na : starEach [e] X.env = (false, eval e X.env) :: starEach [] X.env := by rfl) : Ev X Γ (.Call (.Name "len" p) [.Call (.Name "set" p2) [e] [] q] [] pos) rInt ((dups xs).length : Int) := fun E G H σ hh Q k =>
  WE.of (pe_lenTxt hg hm hg2 hm2 WE.pe hc na) (h E G H σ hh _ fun p1 o G1 H1 l1 hp ⟨vs, e1, ha⟩ => by
    subst e1
    rw [all2_str ha] at hp
    exact ⟨p1, xs, rfl, .inl (.inl hp), hl, k _ G1 H1 l1 rfl⟩)
end
theorem dups_nodup {l : List Str} (h : l.Nodup) : dups l = l := by
  have k : ∀ n, ∀ l : List Str, l.length = n → l.Nodup → dups l = l := fun n => by
    induction n with
    | zero => intro l hl _; rw [List.length_eq_zero_iff.mp hl]; rfl
    | succ n ih =>
      intro l hl nd
      obtain ⟨m, z, rfl⟩ : ∃ m z, l = m ++ [z] := ⟨l.dropLast, l.getLast (by intro q; rw [q] at hl; simp at hl), (List.dropLast_concat_getLast _).symm⟩
      have hm : m.length = n := by simp at hl; omega
      obtain ⟨n1, _, n3⟩ := List.nodup_append.mp nd
      rw [dups_snoc, ih m hm n1, if_neg]
      simp only [decide_eq_true_eq]
      exact fun y => n3 z y z (by simp) rfl
  exact k _ l rfl h
end Hf

namespace Hf
open PySem PySem.Spec PyProof.Rows L2

/-! ### parameters in any order: one's own objects and what is read -/
inductive Par : Type 1 where
  | ow (c : Oc)
  | ty (t : Ty)
def Fits (G H : Hp) : List V → List Par → List Addr → Prop
  | [], [], [] => True
  | v :: vs, .ty t :: ps, as => t.r.rel G v t.a ∧ Fits G H vs ps as
  | v :: vs, .ow c :: ps, a :: as => (v = .ref a ∧ G a = none ∧ ∃ o, H a = some o ∧ c.rel G o) ∧ Fits G H vs ps as
  | _, _, _ => False
theorem Fits.step {G H G' H' : Hp} (l : Le G H G' H') : ∀ {vs : List V} {ps : List Par} {as : List Addr}, Fits G H vs ps as → Fits G' H' vs ps as
  | [], [], [], _ => trivial
  | [], [], _ :: _, h => h.elim
  | [], _ :: _, _, h => h.elim
  | _ :: _, [], _, h => h.elim
  | v :: vs, .ty t :: ps, as, h => ⟨t.r.mono l.g h.1, Fits.step l h.2⟩
  | v :: vs, .ow c :: ps, [], h => h.elim
  | v :: vs, .ow c :: ps, a :: as, ⟨⟨h1, h2, o, h3, h4⟩, h5⟩ => ⟨⟨h1, l.keepO h3 h2, o, l.h _ _ h3, c.mono l.g h4⟩, Fits.step l h5⟩
theorem Fits.length {G H : Hp} : ∀ {vs : List V} {ps : List Par} {as : List Addr}, Fits G H vs ps as → vs.length = ps.length
  | [], [], [], _ => rfl
  | [], [], _ :: _, h => h.elim
  | [], _ :: _, _, h => h.elim
  | _ :: _, [], _, h => h.elim
  | v :: vs, .ty t :: ps, as, h => congrArg (· + 1) (Fits.length h.2)
  | v :: vs, .ow c :: ps, [], h => h.elim
  | v :: vs, .ow c :: ps, a :: as, h => congrArg (· + 1) (Fits.length h.2)
theorem Fits.mem {G H : Hp} : ∀ {vs : List V} {ps : List Par} {as : List Addr}, Fits G H vs ps as → ∀ a ∈ as, G a = none ∧ ∃ o, H a = some o
  | [], [], [], _, a, m => by simp at m
  | [], [], _ :: _, h, _, _ => h.elim
  | [], _ :: _, _, h, _, _ => h.elim
  | _ :: _, [], _, h, _, _ => h.elim
  | v :: vs, .ty t :: ps, as, h, a, m => Fits.mem h.2 a m
  | v :: vs, .ow c :: ps, [], h, _, _ => h.elim
  | v :: vs, .ow c :: ps, b :: as, ⟨⟨_, h2, o, h3, _⟩, h5⟩, a, m => by
    rcases List.mem_cons.mp m with rfl | m
    · exact ⟨h2, o, h3⟩
    · exact Fits.mem h5 a m
/-- a def that changes what is handed in -/
def MSp {ι α : Type} (Pre : ι → Prop) (pars : ι → List Par) (r : Rp α) (res : ι → α) (post : ι → List Oc) : Sp := fun vs H Q E =>
  ∃ (y : ι) (G : Hp) (as : List Addr), Pre y ∧ Ex G H ∧ as.Nodup ∧ Fits G H vs (pars y) as ∧
    ∀ v G' H', LeE G H (fun p => p ∈ as) G' H' → Ows G' H' as (post y) → r.rel G' v (res y) → Q v H'
def slotsP : List Par → List Addr → List Slot
  | .ty t :: ps, as => .sh t.r t.a :: slotsP ps as
  | .ow c :: ps, a :: as => .ow c (some a) :: slotsP ps as
  | _, _ => []
theorem slotsP_len {G H : Hp} : ∀ {vs : List V} {ps : List Par} {as : List Addr}, Fits G H vs ps as → (slotsP ps as).length = ps.length
  | [], [], [], _ => rfl
  | [], [], _ :: _, h => h.elim
  | [], _ :: _, _, h => h.elim
  | _ :: _, [], _, h => h.elim
  | v :: vs, .ty t :: ps, as, h => congrArg (· + 1) (slotsP_len h.2)
  | v :: vs, .ow c :: ps, [], h => h.elim
  | v :: vs, .ow c :: ps, a :: as, h => congrArg (· + 1) (slotsP_len h.2)
theorem slotsP_get {G H : Hp} : ∀ {vs : List V} {ps : List Par} {as : List Addr} {i : Nat} {s : Slot}, Fits G H vs ps as → (slotsP ps as)[i]? = some s →
    (∃ (α : Type) (r : Rp α) (a : α) (v : V), s = .sh r a ∧ vs[i]? = some v ∧ r.rel G v a) ∨ ∃ c a o, s = .ow c (some a) ∧ vs[i]? = some (.ref a) ∧ a ∈ as ∧ G a = none ∧ H a = some o ∧ c.rel G o
  | [], [], [], i, s, _, e => by simp [slotsP] at e
  | [], [], _ :: _, _, _, h, _ => h.elim
  | [], _ :: _, _, _, _, h, _ => h.elim
  | _ :: _, [], _, _, _, h, _ => h.elim
  | v :: vs, .ty t :: ps, as, 0, s, h, e => by
    simp only [slotsP, List.getElem?_cons_zero, Option.some.injEq] at e
    exact .inl ⟨_, t.r, t.a, v, e.symm, rfl, h.1⟩
  | v :: vs, .ty t :: ps, as, i + 1, s, h, e => by
    simp only [slotsP, List.getElem?_cons_succ] at e
    simpa using slotsP_get h.2 e
  | v :: vs, .ow c :: ps, [], _, _, h, _ => h.elim
  | v :: vs, .ow c :: ps, a :: as, 0, s, h, e => by
    simp only [slotsP, List.getElem?_cons_zero, Option.some.injEq] at e
    obtain ⟨⟨h1, h2, o, h3, h4⟩, _⟩ := h
    exact .inr ⟨c, a, o, e.symm, by simp [h1], by simp, h2, h3, h4⟩
  | v :: vs, .ow c :: ps, a :: as, i + 1, s, h, e => by
    simp only [slotsP, List.getElem?_cons_succ] at e
    rcases slotsP_get h.2 e with ⟨α, r, b, w, k1, k2, k3⟩ | ⟨c', b, o, k1, k2, k3, k4⟩
    · exact .inl ⟨α, r, b, w, k1, by simpa using k2, k3⟩
    · exact .inr ⟨c', b, o, k1, by simpa using k2, List.mem_cons_of_mem _ k3, k4⟩
/-- two places that hold the same own object are one -/
theorem slotsP_sep {G H : Hp} : ∀ {vs : List V} {ps : List Par} {as : List Addr} {i j : Nat} {c d : Oc} {a : Addr}, as.Nodup → Fits G H vs ps as → (slotsP ps as)[i]? = some (.ow c (some a)) → (slotsP ps as)[j]? = some (.ow d (some a)) → i = j
  | [], [], [], i, j, _, _, _, _, _, e, _ => by simp [slotsP] at e
  | [], [], _ :: _, _, _, _, _, _, _, h, _, _ => h.elim
  | [], _ :: _, _, _, _, _, _, _, _, h, _, _ => h.elim
  | _ :: _, [], _, _, _, _, _, _, _, h, _, _ => h.elim
  | v :: vs, .ty t :: ps, as, 0, _, _, _, _, _, _, e, _ => by simp [slotsP] at e
  | v :: vs, .ty t :: ps, as, _, 0, _, _, _, _, _, _, e => by simp [slotsP] at e
  | v :: vs, .ty t :: ps, as, i + 1, j + 1, c, d, a, nd, h, e1, e2 => by
    simp only [slotsP, List.getElem?_cons_succ] at e1 e2
    rw [slotsP_sep nd h.2 e1 e2]
  | v :: vs, .ow c :: ps, [], _, _, _, _, _, _, h, _, _ => h.elim
  | v :: vs, .ow c :: ps, b :: as, 0, 0, _, _, _, _, _, _, _ => rfl
  | v :: vs, .ow c :: ps, b :: as, 0, j + 1, c', d', a, nd, h, e1, e2 => by
    simp only [slotsP, List.getElem?_cons_succ, List.getElem?_cons_zero, Option.some.injEq] at e1 e2
    cases e1
    rcases slotsP_get h.2 e2 with ⟨α, r, x, w, k1, _⟩ | ⟨c', x, o, k1, k2, k3, _⟩
    · cases k1
    · cases k1
      exact absurd k3 (List.nodup_cons.mp nd).1
  | v :: vs, .ow c :: ps, b :: as, i + 1, 0, c', d', a, nd, h, e1, e2 => by
    simp only [slotsP, List.getElem?_cons_succ, List.getElem?_cons_zero, Option.some.injEq] at e1 e2
    cases e2
    rcases slotsP_get h.2 e1 with ⟨α, r, x, w, k1, _⟩ | ⟨c', x, o, k1, k2, k3, _⟩
    · cases k1
    · cases k1
      exact absurd k3 (List.nodup_cons.mp nd).1
  | v :: vs, .ow c :: ps, b :: as, i + 1, j + 1, c', d', a, nd, h, e1, e2 => by
    simp only [slotsP, List.getElem?_cons_succ] at e1 e2
    rw [slotsP_sep (List.nodup_cons.mp nd).2 h.2 e1 e2]
theorem le_mem {G H : Hp} {as : List Addr} (e : Ex G H) (mem : ∀ a ∈ as, G a = none ∧ ∃ o, H a = some o) : LeE G H (fun p => p ∈ as) G H := ⟨.refl _, fun x o q => by
    by_cases m : x ∈ as
    · exact .inr ⟨m, o, q⟩
    · exact .inl ⟨m, q⟩, e, fun x o h1 h2 => (by rw [h1] at h2; cases h2), fun x m => mem x m⟩
theorem holds_startP {G H : Hp} {N : List Str} {vs : List V} {ps : List Par} {as : List Addr} (e : Ex G H) (nd : as.Nodup) (f : Fits G H vs ps as) (hn : ps.length ≤ N.length) :
    Holds { G := G, H := H, M := fun p => p ∈ as } G H (L2.start N vs) (slotsP ps as ++ List.replicate (N.length - ps.length) .no) := by
  have hl := f.length
  have hs := slotsP_len f
  have st : ∀ (i : Nat) (v : V), vs[i]? = some v → (L2.start N vs)[i]? = some (some v) := fun i v q => by
    unfold L2.start
    have lt := (List.getElem?_eq_some_iff.mp q).1
    rw [List.getElem?_append_left (by rw [List.length_map]; exact lt), List.getElem?_map, q]
    rfl
  have get : ∀ (i : Nat) (s : Slot), (slotsP ps as ++ List.replicate (N.length - ps.length) .no)[i]? = some s → (slotsP ps as)[i]? = some s ∨ s = .no := fun i s q => by
    by_cases lt : i < (slotsP ps as).length
    · rw [List.getElem?_append_left lt] at q
      exact .inl q
    · rw [List.getElem?_append_right (by omega)] at q
      have z := List.mem_of_getElem? q
      rw [List.mem_replicate] at z
      exact .inr z.2
  refine ⟨le_mem e f.mem, (fun a o q => by cases q), ?_, fun i s q => ?_, fun i j s t q1 q2 w1 w2 z => ?_⟩
  · unfold L2.start
    simp only [List.length_append, List.length_map, List.length_replicate, hs]
    omega
  · rcases get i s q with q | q
    · rcases slotsP_get f q with ⟨α, r, b, v, k1, k2, k3⟩ | ⟨c, a, o, k1, k2, k3, k4, k5, k6⟩
      · subst k1
        exact ⟨v, st i v k2, k3⟩
      · subst k1
        exact ⟨a, o, st i _ k2, k4, ⟨rfl, k3⟩, k5, k6⟩
    · subst q
      trivial
  · rcases get i s q1 with q1 | q1
    · rcases get j t q2 with q2 | q2
      · rcases slotsP_get f q1 with ⟨α, r, b, v, k1, k2, k3⟩ | ⟨c, a, o, k1, k2, k3, k4, k5, k6⟩
        · subst k1; cases w1
        · rcases slotsP_get f q2 with ⟨α, r, b, v, m1, m2, m3⟩ | ⟨c', a', o', m1, m2, m3, m4, m5, m6⟩
          · subst m1; cases w2
          · subst k1 m1
            rw [st i _ k2, st j _ m2] at z
            cases z
            exact slotsP_sep nd f q1 q2
      · subst q2; cases w2
    · subst q1; cases w1
/-- the slots of is still hold what was handed in -/
def StillI (Γ : List Slot) : List Nat → List Addr → List Oc → Prop
  | [], [], [] => True
  | i :: is, p :: ps, c :: cs => Γ[i]? = some (.ow c (some p)) ∧ StillI Γ is ps cs
  | _, _, _ => False
theorem StillI.ows {E : Ent} {G H : Hp} {σ : L2.St} {Γ : List Slot} (h : Holds E G H σ Γ) : ∀ {is : List Nat} {ps : List Addr} {cs : List Oc}, StillI Γ is ps cs → Ows G H ps cs
  | [], [], [], _ => trivial
  | [], [], _ :: _, s => s.elim
  | [], _ :: _, _, s => s.elim
  | _ :: _, [], _, s => s.elim
  | _ :: _, _ :: _, [], s => s.elim
  | i :: is, p :: ps, c :: cs, ⟨e, s⟩ => by
    obtain ⟨p', o, h1, h2, h3, h4, h5⟩ := h.ow e
    have z : p' = p := h3.1
    subst z
    exact ⟨⟨h2, o, h4, h5⟩, StillI.ows h s⟩
theorem Ows.stepH {G H H' : Hp} (e : Ex H H') : ∀ {ps : List Addr} {cs : List Oc}, Ows G H ps cs → Ows G H' ps cs
  | [], [], _ => trivial
  | _ :: _, _ :: _, ⟨⟨h1, o, h2, h3⟩, t⟩ => ⟨⟨h1, o, e _ _ h2, h3⟩, Ows.stepH e t⟩
theorem LeE.stepH {G0 H0 : Hp} {M : Addr → Prop} {G H H' : Hp} (a : LeE G0 H0 M G H) (e : Ex H H') : LeE G0 H0 M G H' :=
  ⟨a.g, fun x o q => by
    rcases a.h x o q with ⟨n, h⟩ | ⟨n, u, h⟩
    · exact .inl ⟨n, e _ _ h⟩
    · exact .inr ⟨n, u, e _ _ h⟩, a.gh.trans e, a.new, a.m⟩
section
variable {P : Program} {w : World} {K : PySem.W.Frag} {mg : Str → Option Value} {base : Heap} {x qual : Str} {params : Arguments} {body : List Stmt} {scope : Scope} {dvs : List V} {kws : List (Str × V)} {f : Addr} {fd : FuncData}
def nOwn : List Par → Nat
  | [] => 0
  | .ow _ :: ps => nOwn ps + 1
  | .ty _ :: ps => nOwn ps
theorem Fits.nOwn {G H : Hp} : ∀ {vs : List V} {ps : List Par} {as : List Addr}, Fits G H vs ps as → as.length = nOwn ps
  | [], [], [], _ => rfl
  | [], [], _ :: _, h => h.elim
  | [], _ :: _, _, h => h.elim
  | _ :: _, [], _, h => h.elim
  | v :: vs, .ty t :: ps, as, h => Fits.nOwn (ps := ps) h.2
  | v :: vs, .ow c :: ps, [], h => h.elim
  | v :: vs, .ow c :: ps, a :: as, h => congrArg (· + 1) (Fits.nOwn h.2)
theorem fn_par {N ps : List Str} {k : Nat} {ι α : Type} {Pre : ι → Prop} {pars : ι → List Par} {r : Rp α} {res : ι → α} {post : ι → List Oc} (F : FunD K x qual params body scope dvs kws f fd) (S : FnScope N ps scope) (hl : ∀ y, (pars y).length = ps.length)
    (hb : ∀ (y : ι), Pre y → ∀ (cdv : Value) (A : Around) (outer : List Env) (s : Shared) (H : Hp) (E0 : XK) (G : Hp) (D : Ends) (qs : List Addr), qs.length = nOwn (pars y) → Room k (A.deeper (envOfC qual scope s.heap.objs.size f cdv)) →
      RetN { G := G, H := H, M := fun p => p ∈ qs } D qs (post y) r (res y) → (∀ σ G' H', LeE G H (fun p => p ∈ qs) G' H' → Ows G' H' qs (post y) → r.rel G' .non (res y) → D.nx σ H') →
      Bk (cxOf (CXL P w) P w K mg base N qual scope f cdv A outer s H E0) { G := G, H := H, M := fun p => p ∈ qs } (slotsP (pars y) qs ++ List.replicate (N.length - ps.length) .no) body D) :
    FnOk P w K mg base (CXL P w) (k + 1) f fd ps (MSp Pre pars r res post) := by
  refine F.ok S (fun vs H Q E ⟨y, G, as, _, _, _, fi, _⟩ => by rw [fi.length, hl]) fun cdv A outer s H vs Q E hr ⟨y, G, as, hp, e, nd, fi, hq⟩ => ⟨_, WB.pss, ?_⟩
  have hN : (pars y).length ≤ N.length := by
    rw [hl]
    have z := congrArg List.length S.pre
    rw [List.length_take] at z
    omega
  have h := holds_startP (N := N) e nd fi hN
  rw [hl] at h
  exact hb y hp cdv A outer s H E G _ as fi.nOwn hr (fun v G' H' l o rv => hq v G' H' l o rv) (fun σ G' H' l o rv => hq _ G' H' l o rv) G H _ h
end

/-! ### arguments -/
inductive Src where
  | sl (i : Nat)
  | tmp
/-- where the own arguments come from: a slot, or new since H0 -/
def SrcOk (H0 : Hp) (σ : L2.St) (Γ : List Slot) : List Src → List Addr → Prop
  | [], [] => True
  | .sl i :: ss, a :: as => (σ[i]? = some (some (.ref a)) ∧ ∃ c q, Γ[i]? = some (.ow c q)) ∧ SrcOk H0 σ Γ ss as
  | .tmp :: ss, a :: as => H0 a = none ∧ SrcOk H0 σ Γ ss as
  | _, _ => False
def setSrc : List Slot → List Src → List Oc → List Slot
  | Γ, .sl i :: ss, c :: cs => setSrc (updO Γ i c) ss cs
  | Γ, .tmp :: ss, _ :: cs => setSrc Γ ss cs
  | Γ, _, _ => Γ
def slOf : List Src → List Nat
  | [] => []
  | .sl i :: ss => i :: slOf ss
  | .tmp :: ss => slOf ss
def adOf : List Src → List Addr → List Addr
  | .sl _ :: ss, a :: as => a :: adOf ss as
  | .tmp :: ss, _ :: as => adOf ss as
  | _, _ => []
def ocOf : List Src → List Oc → List Oc
  | .sl _ :: ss, a :: as => a :: ocOf ss as
  | .tmp :: ss, _ :: as => ocOf ss as
  | _, _ => []
def EvP (X : Cx) (Γ : List Slot) (es : List Expr) (ps : List Par) (ss : List Src) : Prop := ∀ (E : Ent) (G H : Hp) (σ : L2.St), Holds E G H σ Γ → ∀ Q : List V → Hp → Prop,
  (∀ vs as G' H', Le G H G' H' → as.Nodup → Fits G' H' vs ps as → SrcOk H σ Γ ss as → Q vs H') → WA X es σ H Q
theorem SrcOk.back {H0 H1 : Hp} {σ : L2.St} {Γ : List Slot} (e : Ex H0 H1) : ∀ {ss : List Src} {as : List Addr}, SrcOk H1 σ Γ ss as → SrcOk H0 σ Γ ss as
  | [], [], _ => trivial
  | [], _ :: _, h => h.elim
  | .sl _ :: _, [], h => h.elim
  | .tmp :: _, [], h => h.elim
  | .sl i :: ss, a :: as, h => ⟨h.1, SrcOk.back e h.2⟩
  | .tmp :: ss, a :: as, h => ⟨Evl.fresh_back e h.1, SrcOk.back e h.2⟩
theorem SrcOk.mem {E : Ent} {G H : Hp} {σ : L2.St} {Γ : List Slot} (hh : Holds E G H σ Γ) : ∀ {ss : List Src} {as : List Addr} {a : Addr}, SrcOk H σ Γ ss as → a ∈ as → H a = none ∨ ∃ i ∈ slOf ss, σ[i]? = some (some (.ref a)) ∧ (∃ c q, Γ[i]? = some (.ow c q)) ∧ ∃ o, H a = some o
  | [], [], _, _, m => by simp at m
  | [], _ :: _, _, h, _ => h.elim
  | .sl _ :: _, [], _, h, _ => h.elim
  | .tmp :: _, [], _, h, _ => h.elim
  | .sl i :: ss, b :: as, a, ⟨⟨h1, c, q, h2⟩, h3⟩, m => by
    rcases List.mem_cons.mp m with rfl | m
    · obtain ⟨p, o, w1, w2, w3, w4, w5⟩ := hh.ow h2
      rw [h1] at w1
      cases w1
      exact .inr ⟨i, by simp [slOf], h1, ⟨c, q, h2⟩, o, w4⟩
    · rcases SrcOk.mem hh h3 m with k | ⟨j, k1, k2⟩
      · exact .inl k
      · exact .inr ⟨j, by simp [slOf, k1], k2⟩
  | .tmp :: ss, b :: as, a, ⟨h1, h3⟩, m => by
    rcases List.mem_cons.mp m with rfl | m
    · exact .inl h1
    · rcases SrcOk.mem hh h3 m with k | ⟨j, k1, k2⟩
      · exact .inl k
      · exact .inr ⟨j, by simp [slOf, k1], k2⟩
theorem SrcOk.own {H0 : Hp} {σ : L2.St} {Γ : List Slot} : ∀ {ss : List Src} {as : List Addr}, SrcOk H0 σ Γ ss as → OwnAt σ (slOf ss) (adOf ss as)
  | [], [], _ => trivial
  | [], _ :: _, h => h.elim
  | .sl _ :: _, [], h => h.elim
  | .tmp :: _, [], h => h.elim
  | .sl i :: ss, b :: as, h => ⟨h.1.1, SrcOk.own h.2⟩
  | .tmp :: ss, b :: as, h => SrcOk.own (ss := ss) h.2
theorem SrcOk.slots {H0 : Hp} {σ : L2.St} {Γ : List Slot} : ∀ {ss : List Src} {as : List Addr}, SrcOk H0 σ Γ ss as → ∃ cs, SlotsAre Γ (slOf ss) cs
  | [], [], _ => ⟨[], trivial⟩
  | [], _ :: _, h => h.elim
  | .sl _ :: _, [], h => h.elim
  | .tmp :: _, [], h => h.elim
  | .sl i :: ss, b :: as, ⟨⟨_, c, q, h2⟩, h3⟩ => by
    obtain ⟨cs, h⟩ := SrcOk.slots h3
    exact ⟨c :: cs, ⟨q, h2⟩, h⟩
  | .tmp :: ss, b :: as, h => SrcOk.slots (ss := ss) h.2
theorem srcOws {H0 G H : Hp} {σ : L2.St} {Γ : List Slot} : ∀ {ss : List Src} {as : List Addr} {cs : List Oc}, SrcOk H0 σ Γ ss as → Ows G H as cs → Ows G H (adOf ss as) (ocOf ss cs)
  | [], [], [], _, _ => trivial
  | [], [], _ :: _, _, h => h.elim
  | [], _ :: _, _, h, _ => h.elim
  | .sl _ :: _, [], _, h, _ => h.elim
  | .tmp :: _, [], _, h, _ => h.elim
  | .sl i :: ss, b :: as, [], _, h => h.elim
  | .tmp :: ss, b :: as, [], _, h => h.elim
  | .sl i :: ss, b :: as, c :: cs, h, o => ⟨o.1, srcOws h.2 o.2⟩
  | .tmp :: ss, b :: as, c :: cs, h, o => srcOws (ss := ss) h.2 o.2
theorem setSrc_eq : ∀ {ss : List Src} {cs : List Oc} {Γ : List Slot}, setSrc Γ ss cs = setOws Γ (slOf ss) (ocOf ss cs)
  | [], _, _ => by simp [setSrc, slOf, setOws]
  | .sl i :: ss, [], Γ => by simp [setSrc, slOf, ocOf, setOws]
  | .tmp :: ss, [], Γ => by
    have : ∀ (ss : List Src) (Γ : List Slot), setOws Γ (slOf ss) [] = Γ := fun ss Γ => by cases h : slOf ss <;> simp [setOws]
    simp [setSrc, slOf, ocOf, this]
  | .sl i :: ss, c :: cs, Γ => by
    simp only [setSrc, slOf, ocOf, setOws]
    exact setSrc_eq
  | .tmp :: ss, c :: cs, Γ => by
    simp only [setSrc, slOf, ocOf]
    exact setSrc_eq
end Hf

namespace Hf
open PySem PySem.Spec PyProof.Rows L2
theorem Holds.callS {E : Ent} {G0 H0 G H G' H' : Hp} {σ : L2.St} {Γ : List Slot} {ss : List Src} {cs : List Oc} {as : List Addr} (h0 : Holds E G0 H0 σ Γ) (h : Holds E G H σ Γ) (nd : (slOf ss).Nodup) (sa : SrcOk H0 σ Γ ss as)
    (l : LeE G H (fun p => p ∈ as) G' H') (ow : Ows G' H' as cs) : Holds E G' H' σ (setSrc Γ ss cs) := by
  rw [setSrc_eq]
  obtain ⟨os, so⟩ := sa.slots
  have oa := sa.own
  have ow' := srcOws sa ow
  have memo : ∀ p ∈ as, ∀ (j : Nat) (c : Oc) (q : Option Addr), Γ[j]? = some (.ow c q) → σ[j]? = some (some (.ref p)) → j ∈ slOf ss := fun p m j c q e1 e2 => by
    rcases sa.mem h0 m with z | ⟨i, k1, k2, ⟨c2, q2, k3⟩, _⟩
    · obtain ⟨p', o, w1, w2, w3, w4, w5⟩ := h0.ow e1
      rw [e2] at w1
      cases w1
      rw [z] at w4
      cases w4
    · exact h.sep i j _ _ k3 e1 rfl rfl (by rw [k2, e2]) ▸ k1
  have out : ∀ p, p ∉ as → ∀ o, H p = some o → H' p = some o := fun p n o e => by
    rcases l.h p o e with ⟨_, w⟩ | ⟨m, _⟩
    · exact w
    · exact absurd m n
  have gn : ∀ p, G p = none → (∃ o, H p = some o) → G' p = none := fun p g ⟨o, e⟩ => by
    cases q : G' p with
    | none => rfl
    | some u => rw [l.new p u q g] at e; cases e
  refine ⟨⟨h.le.g.trans l.g, fun a o e => ?_, l.gh, fun a o e1 e2 => ?_, h.le.m⟩, h.fl.trans l.g, by rw [setOws_len]; exact h.len, fun j s e => ?_, fun j k s t e1 e2 w1 w2 z => ?_⟩
  · rcases h.le.h a o e with ⟨n, w⟩ | ⟨m, u, w⟩
    · rcases l.h a o w with ⟨_, w2⟩ | ⟨m2, _⟩
      · exact .inl ⟨n, w2⟩
      · rcases sa.mem h0 m2 with z | ⟨i, k1, k2, ⟨c, q, k3⟩, _⟩
        · rw [h0.le.fresh z] at e; cases e
        · obtain ⟨p, o2, x1, x2, x3, x4, x5⟩ := h.ow k3
          rw [k2] at x1
          cases x1
          rcases x3.or with y | y
          · exact absurd y n
          · rw [y] at e; cases e
    · rcases l.h a u w with ⟨_, w2⟩ | ⟨_, w2⟩
      · exact .inr ⟨m, u, w2⟩
      · exact .inr ⟨m, w2⟩
  · cases q : G a with
    | some u => exact h.le.new a u q e2
    | none =>
      have z := l.new a o e1 q
      exact h.le.fresh z
  · rcases setOws_get nd so oa ow' e with ⟨n, k⟩ | ⟨c, c', q, p, o, k1, k2, k3, k4, k5, k6, k7, k8⟩
    · have w := h.ok j s k
      cases s with
      | no => trivial
      | sh r a =>
        obtain ⟨v, w1, w2⟩ := w
        exact ⟨v, w1, r.mono l.g w2⟩
      | ow c q =>
        obtain ⟨p, o, w1, w2, w3, w4, w5⟩ := w
        have np : p ∉ as := fun m => n (memo p m j c q k w1)
        exact ⟨p, o, w1, gn p w2 ⟨o, w4⟩, w3, out p np o w4, c.mono l.g w5⟩
    · subst k3
      obtain ⟨p1, o1, w1, w2, w3, w4, w5⟩ := h.ow k2
      rw [k4] at w1
      cases w1
      exact ⟨p, o, k4, k6, w3, k7, k8⟩
  · have back : ∀ (j : Nat) (s : Slot), (setOws Γ (slOf ss) (ocOf ss cs))[j]? = some s → s.isOw = true → ∃ s', Γ[j]? = some s' ∧ s'.isOw = true := fun j s e w => by
      rcases setOws_get nd so oa ow' e with ⟨n, k⟩ | ⟨c, c', q, p, o, k1, k2, _⟩
      · exact ⟨s, k, w⟩
      · exact ⟨_, k2, rfl⟩
    obtain ⟨s', q1, q2⟩ := back j s e1 w1
    obtain ⟨t', q3, q4⟩ := back k t e2 w2
    exact h.sep j k s' t' q1 q3 q2 q4 z
section
variable {X : Cx} {E : Ent} {Γ Γ' Γ1 Γ2 : List Slot} {D : Ends} {e f g o : Expr} {es : List Expr} {rest : List Stmt} {pos p p2 apos cpos : Pos} {α β γ ι : Type} {r : Rp α} {x : α} {s : Rp β} {y : β} {ps : List Par} {ss : List Src} {k j : Nat}
theorem ep_nil : EvP X Γ [] [] [] := fun E G H σ hh Q q => WA.of pa_nil (q [] [] G H (.refl hh.le.gh) List.nodup_nil trivial trivial)
theorem ep_ty {t : Ty} (ha : Ev X Γ e t.r t.a) (hr : EvP X Γ es ps ss) (hs : starEach (e :: es) X.env = (false, eval e X.env) :: starEach es X.env := by rfl) : EvP X Γ (e :: es) (.ty t :: ps) ss := fun E G H σ hh Q q =>
  WA.of (pa_cons WE.pe WA.pa hs) (ha E G H σ hh _ fun v G1 H1 l1 r1 => hr E G1 H1 σ (hh.step l1) _ fun vs as G2 H2 l2 nd f2 s2 => q (v :: vs) as G2 H2 (l1.trans l2) nd ⟨t.r.mono l2.g r1, f2⟩ (s2.back l1.h))
/-- a new object -/
theorem ep_tmp {c : Oc} (ha : EvO X Γ e c) (hr : EvP X Γ es ps ss) (hs : starEach (e :: es) X.env = (false, eval e X.env) :: starEach es X.env := by rfl) : EvP X Γ (e :: es) (.ow c :: ps) (.tmp :: ss) := fun E G H σ hh Q q =>
  WA.of (pa_cons WE.pe WA.pa hs) (ha E G H σ hh _ fun a ob G1 H1 n l1 g1 h1 c1 => hr E G1 H1 σ (hh.step l1) _ fun vs as G2 H2 l2 nd f2 s2 => by
    have na : a ∉ as := fun m => by
      rcases s2.mem (hh.step l1) m with z | ⟨i, k1, k2, ⟨c2, q2, k3⟩, _⟩
      · rw [z] at h1; cases h1
      · obtain ⟨p, o, w1, w2, w3, w4, w5⟩ := hh.ow k3
        rw [k2] at w1
        cases w1
        rw [n] at w4
        cases w4
    exact q (.ref a :: vs) (a :: as) G2 H2 (l1.trans l2) (List.nodup_cons.mpr ⟨na, nd⟩) ⟨⟨rfl, l2.keepO h1 g1, ob, l2.h _ _ h1, c.mono l2.g c1⟩, f2⟩ ⟨n, s2.back l1.h⟩)
/-- an object of one's own by its name -/
theorem ep_own (i : Nat) {a : Str} {c : Oc} {pq : Option Addr} (hr : EvP X Γ es ps ss) (ni : i ∉ slOf ss := by decide) (hg : Γ[i]? = some (.ow c pq) := by rfl) (hN : X.N[i]? = some a := by rfl) (hv : Vis X.env.scope a := by first | exact Or.inl rfl | exact Or.inr (Or.inl rfl) | exact Or.inr (Or.inr rfl)) (hd : (a == ("__debug__" : Str)) = false := by decide)
    (hcd : (a == ("__classdict__" : Str)) = false := by decide) (hs : starEach ((.Name a p) :: es) X.env = (false, eval (.Name a p) X.env) :: starEach es X.env := by rfl) : EvP X Γ ((.Name a p) :: es) (.ow c :: ps) (.sl i :: ss) := fun E G H σ hh Q q =>
  WA.of (pa_cons (pe_var hN hv hd hcd) WA.pa hs) (by
    obtain ⟨l, ob, h1, h2, h3, h4, h5⟩ := hh.ow hg
    refine ⟨_, h1, hr E G H σ hh _ fun vs as G1 H1 l1 nd f1 s1 => ?_⟩
    have na : l ∉ as := fun m => by
      rcases s1.mem hh m with z | ⟨j, k1, k2, ⟨c2, q2, k3⟩, _⟩
      · rw [z] at h4; cases h4
      · exact ni (hh.sep i j _ _ hg k3 rfl rfl (by rw [h1, k2]) ▸ k1)
    exact q (.ref l :: vs) (l :: as) G1 H1 l1 (List.nodup_cons.mpr ⟨na, nd⟩) ⟨⟨rfl, l1.keepO h4 h2, ob, l1.h _ _ h4, c.mono l1.g h5⟩, f1⟩ ⟨⟨h1, c, pq, hg⟩, s1⟩)
/-- f(e, ..) -/
theorem em_callP {fn : Str} {Pre : ι → Prop} {pars : ι → List Par} {res : ι → α} {post : ι → List Oc} {z : α} (h : Has X.prog X.w X.K X.mg X.base fn k (MSp Pre pars r res post)) (hr : Room j X.A) (hk : k ≤ j) (y : ι) (hp : Pre y)
    (ha : EvP X Γ (e :: es) (pars y) ss) (nd : (slOf ss).Nodup := by decide) (hz : res y = z := by rfl) (hΓ : setSrc Γ ss (post y) = Γ' := by rfl) (hg : Gl X fn := by rfl) (hdb : (fn == ("__debug__" : Str)) = false := by decide)
    (he : starEach (e :: es) X.env = (false, eval e X.env) :: starEach es X.env := by rfl) (hpl : (backTo pos (starEach es X.env)).any (·.1) = false := by rfl) : EvM X Γ Γ' (.Call (.Name fn p) (e :: es) [] pos) r z := fun E G H σ hh Q q =>
  we_call h hr hk (ha E G H σ hh _ fun vs as G1 H1 l1 n1 f1 s1 => by
    have h1 := hh.step l1
    refine ⟨y, G1, as, hp, l1.gh, n1, f1, fun v G2 H2 l2 w2 r2 => ?_⟩
    exact q v G2 H2 (l1.g.trans l2.g) (hΓ ▸ hh.callS h1 nd s1 l2 w2) (hz ▸ r2)) hg hdb he hpl
end
/-! ### an object that is frozen is worth x -/
def Frz (c : Oc) {α : Type} (r : Rp α) (x : α) : Prop := ∀ (G : Hp) (a : Addr) (o : HO), G a = none → c.rel G o → r.rel (upd G a o) (.ref a) x
theorem frz_lst {α : Type} {r : Rp α} {as : List α} : Frz (oLst r as) (rLst r) as := fun G a o n ⟨vs, e, h⟩ => by
  subst e
  exact ⟨a, vs, rfl, upd_same, h.mono (Evl.Ex.new n)⟩
/-! ### a new instance -/
/-- C(e, ..): the __init__ at f, its level -/
structure HasI (P : Program) (w : World) (K : PySem.W.Frag) (mg : Str → Option Value) (base : Heap) (x : Str) (C : Addr) (k : Nat) (sp : Sp) : Prop where
  ex : ∃ (f : Addr) (fd : FuncData) (ps : List Str) (spF : Sp) (dvs : List V) (ds : List Value), mg x = some (.ref C) ∧ Mk K C f ∧ Binds K fd ps ds ∧ Vals dvs ds ∧ FnOk P w K mg base (CXL P w) k f fd ps spF ∧ ∀ vs H Q, sp vs H Q E0 → spF (vs ++ dvs) H Q E0
section
variable {X : Cx} {E : Ent} {Γ Γ' Γ1 Γ2 : List Slot} {D : Ends} {e f g o : Expr} {es : List Expr} {rest : List Stmt} {pos p p2 apos cpos : Pos} {α β γ ι : Type} {r : Rp α} {x : α} {s : Rp β} {y : β} {ps : List Par} {ss : List Src} {k j : Nat}
theorem em_make {fn : Str} {C : Addr} {Pre : ι → Prop} {pars : ι → List Par} {post : ι → List Oc} {c : ι → Oc} {z : α} (h : HasI X.prog X.w X.K X.mg X.base fn C k (MSp Pre (fun y => .ow (oIns C [] []) :: pars y) rNon (fun _ => ()) (fun y => c y :: post y))) (hr : Room j X.A) (hk : k + 1 ≤ j) (y : ι) (hp : Pre y)
    (ha : EvP X Γ (e :: es) (pars y) ss) (fz : Frz (c y) r z) (nd : (slOf ss).Nodup := by decide) (hΓ : setSrc Γ ss (post y) = Γ' := by rfl) (hg : Gl X fn := by rfl) (hdb : (fn == ("__debug__" : Str)) = false := by decide)
    (he : starEach (e :: es) X.env = (false, eval e X.env) :: starEach es X.env := by rfl) (hpl : (backTo pos (starEach es X.env)).any (·.1) = false := by rfl) : EvM X Γ Γ' (.Call (.Name fn p) (e :: es) [] pos) r z := fun E G H σ hh Q q => by
  obtain ⟨f0, fd, ps0, spF, dvs, ds, hm, mk, hb, hd, F, hi⟩ := h.ex
  refine WE.of (pe_make mk F (hr.mono hk) hg hm hb hd passL WA.pa hdb he hpl) ?_
  refine ha E G H σ hh _ fun vs as G1 H1 l1 n1 f1 s1 a dx na nx ne => hi (.ref a :: vs) _ _ ?_
  have hh1 := hh.step l1
  have g1a : G1 a = none := Evl.fresh_back l1.gh na
  have l2 : Le G1 H1 G1 (upd (upd H1 dx (.own a)) a (.ins C dx [])) := by
    have z1 : Le G1 H1 G1 (upd H1 dx (.own a)) := (Le.refl l1.gh).addO nx
    exact z1.addO (by rw [upd_ne (fun w => ne w.symm)]; exact na)
  have mas : ∀ b ∈ as, ∃ o, H1 b = some o := fun b m => (f1.mem b m).2
  have naa : a ∉ as := fun m => by obtain ⟨o, w⟩ := mas a m; rw [na] at w; cases w
  refine ⟨y, G1, a :: as, hp, l2.gh, List.nodup_cons.mpr ⟨naa, n1⟩, ⟨⟨rfl, g1a, _, upd_same, dx, [], rfl, trivial, rfl⟩, f1.step l2⟩, fun v G3 H3 l3 w3 r3 => ⟨r3, ?_⟩⟩
  obtain ⟨⟨ga, oa, ha3, ca⟩, w3'⟩ := w3
  have hh2 := hh1.step l2
  -- the call changes a and as; a is new
  have hh3 : Holds E G3 H3 σ (setSrc Γ ss (post y)) := by
    have s2 : SrcOk H σ Γ (.tmp :: ss) (a :: as) := ⟨Evl.fresh_back l1.h na, s1⟩
    exact hh.callS (ss := .tmp :: ss) (cs := c y :: post y) hh2 (by simpa [slOf] using nd) s2 l3 ⟨⟨ga, oa, ha3, ca⟩, w3'⟩
  have fr : ∀ (i : Nat) (c0 : Oc) (q0 : Option Addr), Γ[i]? = some (.ow c0 q0) → σ[i]? ≠ some (some (V.ref a)) := fun i c0 q0 e1 e2 => by
    obtain ⟨p', o', w1, _, _, w4, _⟩ := hh1.ow e1
    rw [e2] at w1
    cases w1
    rw [na] at w4
    cases w4
  have gx : Ex G1 (upd G3 a oa) := l3.g.trans (Evl.Ex.new ga)
  -- it is frozen
  refine q _ (upd G3 a oa) H3 (l1.g.trans gx) ?_ (fz G3 a oa ga ca)
  subst hΓ
  have lf : LeE E.G E.H E.M (upd G3 a oa) H3 := ⟨hh3.le.g.trans (Evl.Ex.new ga), hh3.le.h, fun b u z => by
    by_cases w : b = a
    · subst w; rw [upd_same] at z; cases z; exact ha3
    · rw [upd_ne w] at z; exact hh3.le.gh b u z, fun b u z1 z2 => by
    by_cases w : b = a
    · subst w; exact hh1.le.fresh na
    · rw [upd_ne w] at z1; exact hh3.le.new b u z1 z2, hh3.le.m⟩
  refine ⟨lf, hh3.fl.trans (Evl.Ex.new ga), hh3.len, fun i sl e => ?_, hh3.sep⟩
  have w := hh3.ok i sl e
  cases sl with
  | no => trivial
  | sh r' a' =>
    obtain ⟨v', w1, w2⟩ := w
    exact ⟨v', w1, r'.mono (Evl.Ex.new ga) w2⟩
  | ow c' q' =>
    obtain ⟨p', o', w1, w2, w3, w4, w5⟩ := w
    have np : p' ≠ a := fun z => by
      subst z
      obtain ⟨os, so⟩ := s1.slots
      have z2 := setSrc_eq (ss := ss) (cs := post y) (Γ := Γ)
      rw [z2] at e
      rcases setOws_get nd so s1.own (srcOws s1 w3') e with ⟨_, k⟩ | ⟨c2, c3, q2, p2, o2, _, k2, _⟩
      · exact fr i _ _ k w1
      · exact fr i _ _ k2 w1
    exact ⟨p', o', w1, by rw [upd_ne np]; exact w2, w3, w4, c'.mono (Evl.Ex.new ga) w5⟩
end
end Hf

namespace Hf
open PySem PySem.Spec PyProof.Rows L2

/-! ### fields of an instance that is being made -/
theorem args_set {G : Hp} {v : V} {t : Ty} (h : t.r.rel G v t.a) : ∀ {vs : List V} {ts : List Ty} (i : Nat), Args G vs ts → Args G (vs.set i v) (ts.set i t)
  | [], [], _, _ => trivial
  | [], _ :: _, _, k => k.elim
  | _ :: _, [], _, k => k.elim
  | _ :: _, _ :: _, 0, k => ⟨h, k.2⟩
  | _ :: _, _ :: _, i + 1, k => ⟨k.1, args_set h i k.2⟩
theorem putF_old {f : Str} {v : V} : ∀ {ns : List Str} {vs : List V} {i : Nat}, ns.Nodup → ns[i]? = some f → ns.length = vs.length → putF f v (ns.zip vs) = ns.zip (vs.set i v)
  | [], [], i, _, h, _ => by simp at h
  | n :: ns, u :: vs, 0, nd, h, l => by
    simp only [List.getElem?_cons_zero, Option.some.injEq] at h
    subst h
    show (if n = n then (n, v) :: ns.zip vs else (n, u) :: putF n v (ns.zip vs)) = _
    rw [if_pos rfl]
    rfl
  | n :: ns, u :: vs, i + 1, nd, h, l => by
    simp only [List.getElem?_cons_succ] at h
    have ne : n ≠ f := fun z => (List.nodup_cons.mp nd).1 (z ▸ List.mem_of_getElem? h)
    show (if n = f then (n, v) :: ns.zip vs else (n, u) :: putF f v (ns.zip vs)) = (n, u) :: ns.zip (vs.set i v)
    rw [if_neg ne, putF_old (List.nodup_cons.mp nd).2 h (by simpa using l)]
section
variable {X : Cx} {E : Ent} {Γ Γ' Γ1 Γ2 : List Slot} {D : Ends} {e f g o : Expr} {es : List Expr} {rest : List Stmt} {pos p p2 apos cpos : Pos} {α β γ ι : Type} {r : Rp α} {x : α} {s : Rp β} {y : β} {ps : List Par} {ss : List Src} {k j : Nat}
/-- self.f = e, a field that is there -/
theorem bk_fldO (i n : Nat) {a f : Str} {C : Addr} {ns : List Str} {ts : List Ty} {pq : Option Addr} (cl : Cls X.K C) (na : NoAttr X.K C f) (hg : Γ[i]? = some (.ow (oIns C ns ts) pq)) (he : Ev X Γ e r x) (hn : ns[n]? = some f) (nd : ns.Nodup) (hl : ns.length < 1000) (k : Bk X E (Γ.set i (.ow (oIns C ns (ts.set n ⟨r, x⟩)) pq)) rest D)
    (hN : X.N[i]? = some a := by rfl) (hv : Vis X.env.scope a := by first | exact Or.inl rfl | exact Or.inr (Or.inl rfl) | exact Or.inr (Or.inr rfl)) (hd : (a == ("__debug__" : Str)) = false := by decide) (hcd : (a == ("__classdict__" : Str)) = false := by decide)
    (hs : swapsWith e (some (.Attribute (.Name a p) f p2)) pos.line X.env = pure false := by rfl) : Bk X E Γ (.Assign [.Attribute (.Name a p) f p2] e pos :: rest) D :=
  bk_of (ps_fld (pe_var hN hv hd hcd) WE.pe hs) fun G H σ hh => he E G H σ hh _ fun v G1 H1 l1 r1 => by
    have h1 := hh.step l1
    obtain ⟨q, ob, w1, w2, w3, w4, dx, vs, w5, w6, w7⟩ := h1.ow hg
    subst w5
    refine ⟨_, w1, q, C, dx, _, rfl, w4, cl, na, by rw [List.length_zip]; omega, ?_⟩
    have lv : ns.length = vs.length := by rw [args_length w6]; exact w7
    refine k G1 _ σ (h1.mut hg w1 ⟨dx, vs.set n v, by rw [putF_old nd hn lv], args_set (t := ⟨r, x⟩) r1 n w6, by simp [w7]⟩)
/-- self.f of an instance that is being made -/
theorem ev_fldO (i n : Nat) {a f : Str} {C : Addr} {ns : List Str} {ts : List Ty} {pq : Option Addr} {t : Ty} (cl : Cls X.K C) (na : NoAttr X.K C f) (hg : Γ[i]? = some (.ow (oIns C ns ts) pq)) (hn : ns[n]? = some f) (nd : ns.Nodup) (ht : ts[n]? = some t)
    (hN : X.N[i]? = some a := by rfl) (hv : Vis X.env.scope a := by first | exact Or.inl rfl | exact Or.inr (Or.inl rfl) | exact Or.inr (Or.inr rfl)) (hd : (a == ("__debug__" : Str)) = false := by decide) (hcd : (a == ("__classdict__" : Str)) = false := by decide)
    (hb : attributeBase (.Name a p) f X.env (eval (.Name a p) X.env) = eval (.Name a p) X.env := by rfl) : Ev X Γ (.Attribute (.Name a p) f pos) t.r t.a := fun E G H σ hh Q q =>
  WE.of (pe_fld (pe_var hN hv hd hcd) hb) (by
    obtain ⟨l, ob, w1, w2, w3, w4, dx, vs, w5, w6, w7⟩ := hh.ow hg
    subst w5
    obtain ⟨v, v1, v2⟩ := args_get w6 ht
    refine ⟨_, w1, l, C, dx, _, v, rfl, w4, cl, na, ?_, q v G H (.refl hh.le.gh) v2⟩
    have lk : ∀ {ns : List Str} {vs : List V} {n : Nat}, ns.Nodup → ns[n]? = some f → vs[n]? = some v → (ns.zip vs).lookup f = some v := fun {ns} => by
      induction ns with
      | nil => intro vs n _ h; simp at h
      | cons a ns ih =>
        intro vs n nd h1 h2
        cases vs with
        | nil => simp at h2
        | cons u vs =>
          cases n with
          | zero =>
            simp only [List.getElem?_cons_zero, Option.some.injEq] at h1 h2
            subst h1 h2
            simp [List.lookup]
          | succ n =>
            simp only [List.getElem?_cons_succ] at h1 h2
            have ne : (f == a) = false := by
              rw [beq_eq_false_iff_ne]
              exact fun z => (List.nodup_cons.mp nd).1 (z ▸ List.mem_of_getElem? h1)
            simp only [List.zip_cons_cons, List.lookup, ne]
            exact ih (List.nodup_cons.mp nd).2 h1 h2
    exact lk nd hn v1)
/-- from here on an object of one's own is only looked at, to the end of the def -/
theorem bk_look (i : Nat) {c : Oc} {q : Addr} (hg : Γ[i]? = some (.ow c (some q))) (fz : Frz c r x) (l : Γ1.length = Γ.length) (w : ∀ (j : Nat) (s : Slot), Γ1[j]? = some s → s = .no ∨ (j = i ∧ s = .sh r x) ∨ (s.isOw = false ∧ Γ[j]? = some s))
    (hD : ∀ G H σ, Holds E G H σ Γ → ∀ σ' H', Ex H H' → D.nx σ' H') (k : ∀ E1 : Ent, (∀ σ' G' H', LeE E1.G E1.H E1.M G' H' → D.nx σ' H') → Bk X E1 Γ1 rest D) : Bk X E Γ rest D := fun G H σ hh => by
  obtain ⟨p, ob, h1, h2, h3, h4, h5⟩ := hh.ow hg
  have gx : Ex G (upd G p ob) := Evl.Ex.new h2
  have gh : Ex (upd G p ob) H := fun a u z => by
    by_cases e : a = p
    · subst e; rw [upd_same] at z; cases z; exact h4
    · rw [upd_ne e] at z; exact hh.le.gh a u z
  refine k { G := upd G p ob, H := H } (fun σ' G' H' le => hD G H σ hh σ' H' (le.le fun _ z => z).h) (upd G p ob) H σ ⟨LeE.start gh, (fun a u z => by cases z), by rw [l]; exact hh.len, fun j s e => ?_, fun j1 j2 s t e1 e2 o1 o2 z => ?_⟩
  · rcases w j s e with rfl | ⟨rfl, rfl⟩ | ⟨o1, e'⟩
    · trivial
    · exact ⟨_, h1, fz G p ob h2 h5⟩
    · have z := hh.ok j s e'
      cases s with
      | no => trivial
      | sh r' a' =>
        obtain ⟨v, z1, z2⟩ := z
        exact ⟨v, z1, r'.mono gx z2⟩
      | ow c' q' => cases o1
  · rcases w j1 s e1 with rfl | ⟨rfl, rfl⟩ | ⟨n1, _⟩
    · cases o1
    · cases o1
    · rw [n1] at o1; cases o1
/-- xs.extend(e) -/
theorem bk_extend (i : Nat) {a : Str} {pq : Option Addr} {as bs : List α} (hg : Γ[i]? = some (.ow (oLst r as) pq)) (he : EvB X Γ e (oLst r bs)) (hl : as.length + bs.length ≤ sizeLine) (k : Bk X E (Γ.set i (.ow (oLst r (as ++ bs)) pq)) rest D)
    (hpe : PE X (.Call (.Attribute (.Name a p) "extend" apos) [e] [] cpos) (tBM X.K "list" rExtend (tVar i) (tCons (WE X e) tNil)) := by exact pe_bm PySem.F.plainAttrs_list PySem.F.slot_list_extend PySem.F.type_list_extend mt_extend (pv _) (pa_cons WE.pe pa_nil))
    (hs : swapsWith (.Call (.Attribute (.Name a p) "extend" apos) [e] [] cpos) none pos.line X.env = pure false := by rfl) : Bk X E Γ (.Expr (.Call (.Attribute (.Name a p) "extend" apos) [e] [] cpos) pos :: rest) D :=
  bk_of (ps_expr hpe hs) fun G H σ hh => by
    obtain ⟨q, o, h1, h2, h3, h4, vs, h5, h6⟩ := hh.ow hg
    subst h5
    refine ⟨_, h1, .inl ⟨rfl, vs, .inl (.inl h4)⟩, he E G H σ hh _ fun b ob G1 H1 l1 hb ⟨ws, e2, h7⟩ => ?_⟩
    subst e2
    have hh1 := hh.step l1
    refine ⟨q, b, vs, ws, rfl, rfl, l1.h _ _ h4, hb, by rw [h6.length, h7.length]; exact hl, ?_⟩
    exact k G1 _ σ (hh1.mut hg h1 ⟨_, rfl, (h6.mono l1.g).append h7⟩)
/-- xs.clear(), xs.reverse() -/
theorem bk_clear (i : Nat) {a : Str} {pq : Option Addr} {as : List α} (hg : Γ[i]? = some (.ow (oLst r as) pq)) (k : Bk X E (Γ.set i (.ow (oLst r []) pq)) rest D)
    (hpe : PE X (.Call (.Attribute (.Name a p) "clear" apos) [] [] cpos) (tBM X.K "list" rClear (tVar i) tNil) := by exact pe_bm0 PySem.F.plainAttrs_list PySem.F.slot_list_clear PySem.F.type_list_clear mt_clear (pv _))
    (hs : swapsWith (.Call (.Attribute (.Name a p) "clear" apos) [] [] cpos) none pos.line X.env = pure false := by rfl) : Bk X E Γ (.Expr (.Call (.Attribute (.Name a p) "clear" apos) [] [] cpos) pos :: rest) D :=
  bk_of (ps_expr hpe hs) fun G H σ hh => by
    obtain ⟨q, o, h1, h2, h3, h4, vs, h5, h6⟩ := hh.ow hg
    subst h5
    exact ⟨_, h1, .inl ⟨rfl, vs, .inl (.inl h4)⟩, q, vs, rfl, rfl, h4, k G _ σ (hh.mut hg h1 ⟨_, rfl, .nil⟩)⟩
theorem bk_reverse (i : Nat) {a : Str} {pq : Option Addr} {as : List α} (hg : Γ[i]? = some (.ow (oLst r as) pq)) (k : Bk X E (Γ.set i (.ow (oLst r as.reverse) pq)) rest D)
    (hpe : PE X (.Call (.Attribute (.Name a p) "reverse" apos) [] [] cpos) (tBM X.K "list" rReverse (tVar i) tNil) := by exact pe_bm0 PySem.F.plainAttrs_list PySem.F.slot_list_reverse PySem.F.type_list_reverse mt_reverse (pv _))
    (hs : swapsWith (.Call (.Attribute (.Name a p) "reverse" apos) [] [] cpos) none pos.line X.env = pure false := by rfl) : Bk X E Γ (.Expr (.Call (.Attribute (.Name a p) "reverse" apos) [] [] cpos) pos :: rest) D :=
  bk_of (ps_expr hpe hs) fun G H σ hh => by
    obtain ⟨q, o, h1, h2, h3, h4, vs, h5, h6⟩ := hh.ow hg
    subst h5
    exact ⟨_, h1, .inl ⟨rfl, vs, .inl (.inl h4)⟩, q, vs, rfl, rfl, h4, k G _ σ (hh.mut hg h1 ⟨_, rfl, h6.reverse⟩)⟩
/-- e.clear() of a new list -/
theorem bk_clearT {as : List α} (he : EvO X Γ e (oLst r as)) (k : Bk X E Γ rest D)
    (hpe : PE X (.Call (.Attribute e "clear" apos) [] [] cpos) (tBM X.K "list" rClear (WE X e) tNil) := by exact pe_bm0 PySem.F.plainAttrs_list PySem.F.slot_list_clear PySem.F.type_list_clear mt_clear WE.pe)
    (hs : swapsWith (.Call (.Attribute e "clear" apos) [] [] cpos) none pos.line X.env = pure false := by rfl) : Bk X E Γ (.Expr (.Call (.Attribute e "clear" apos) [] [] cpos) pos :: rest) D :=
  bk_of (ps_expr hpe hs) fun G H σ hh => he E G H σ hh _ fun q o G1 H1 n l1 g1 h1 ⟨vs, e1, h6⟩ => by
    subst e1
    refine ⟨.inl ⟨rfl, vs, .inl (.inl h1)⟩, q, vs, rfl, rfl, h1, ?_⟩
    have hh1 := hh.step l1
    -- the list is new: nothing of ours stands there
    refine k G1 _ σ ⟨⟨hh1.le.g, fun a u z => ?_, fun a u z => ?_, hh1.le.new, hh1.le.m⟩, hh1.fl, hh1.len, fun i s z => ?_, hh1.sep⟩
    · have ne : a ≠ q := fun w => by subst w; rw [hh.le.fresh n] at z; cases z
      rw [upd_ne ne]
      exact hh1.le.h a u z
    · have ne : a ≠ q := fun w => by subst w; rw [g1] at z; cases z
      rw [upd_ne ne]
      exact hh1.le.gh a u z
    · have w := hh1.ok i s z
      cases s with
      | no => trivial
      | sh r a => exact w
      | ow c q2 =>
        obtain ⟨p2, o2, w1, w2, w3, w4, w5⟩ := w
        obtain ⟨p3, o3, y1, y2, y3, y4, y5⟩ := hh.ow z
        rw [w1] at y1
        cases y1
        have ne : p2 ≠ q := fun w => by subst w; rw [n] at y4; cases y4
        exact ⟨p2, o2, w1, w2, w3, by rw [upd_ne ne]; exact w4, w5⟩
/-- xs[i] = e -/
theorem bk_setAt (i : Nat) {a : Str} {pq : Option Addr} {as : List α} {n : Int} (hg : Γ[i]? = some (.ow (oLst r as) pq)) (he : Ev X Γ e r x) (hi : Ev X Γ f rInt n) (hb : 0 ≤ n ∧ n < (as.length : Int)) (k : Bk X E (Γ.set i (.ow (oLst r (as.set n.toNat x)) pq)) rest D)
    (hpg : PG X (.Subscript (.Name a p) f p2) (gSub (tVar i) (WE X f) rSetL) := by exact pg_sub (pv _) WE.pe set_list)
    (hs : swapsWithSole [.Subscript (.Name a p) f p2] e pos.line X.env = pure false := by rfl) (hw : swappedStores [.Subscript (.Name a p) f p2] e X.env = pure none := by rfl) (h1 : (assignEach [.Subscript (.Name a p) f p2] X.env).map (·.2) = [assign (.Subscript (.Name a p) f p2) X.env] := by rfl) : Bk X E Γ (.Assign [.Subscript (.Name a p) f p2] e pos :: rest) D :=
  bk_of (ps_asg WE.pe hpg hs hw h1) fun G H σ hh => he E G H σ hh _ fun v G1 H1 l1 r1 => by
    have hh1 := hh.step l1
    obtain ⟨q, o, h1, h2, h3, h4, vs, h5, h6⟩ := hh1.ow hg
    subst h5
    refine ⟨_, h1, hi E G1 H1 σ hh1 _ fun w G2 H2 l2 r2 => ?_⟩
    refine ⟨q, vs, n, n.toNat, rfl, r2, l2.h _ _ h4, ?_, ?_⟩
    · unfold ixN
      rw [if_pos hb.1, if_pos (by rw [h6.length]; exact hb.2)]
    · exact k G2 _ σ ((hh1.step l2).mut hg h1 ⟨_, rfl, (h6.mono l2.g).set (r.mono l2.g r1) _⟩)
end
end Hf

namespace Hf
open PySem PySem.Spec PyProof.Rows L2 ClX

/-! ### a text walked; a sign in a text -/
def signs (u : Str) : List Str := u.cps.toList.map fun c => (⟨#[c]⟩ : Str)
section
variable {X : Cx} {E : Ent} {Γ Γ' Γ1 Γ2 : List Slot} {D : Ends} {e f g o : Expr} {es : List Expr} {rest : List Stmt} {pos p p2 apos cpos : Pos} {α β γ ι : Type} {r : Rp α} {x : α} {s : Rp β} {y : β} {ps : List Par} {ss : List Src} {k j : Nat} {u v : Str} {i : Int} {as : List α}
theorem ei_str {tg : Expr} (h : Ev X Γ e rStr u) : EvI X Γ tg e rStr (signs u) := ⟨_, pi_str WE.pe, fun E G H σ hh R q => h E G H σ hh _ fun v G1 H1 l1 r1 => ⟨u, r1, q _ G1 H1 l1 fun i G2 H2 g1 g2 => ⟨fun a ea => by
    unfold signs at ea
    rw [List.getElem?_map] at ea
    cases hc : u.cps.toList[i]? with
    | none => rw [hc] at ea; cases ea
    | some c =>
      rw [hc] at ea
      cases ea
      have hc' : u.cps[i]? = some c := by rw [← Array.getElem?_toList]; exact hc
      have lt : i < u.cps.size := (Array.getElem?_eq_some_iff.mp hc').1
      refine ⟨lt, fun x H' ⟨e1, c', e2, e3⟩ => ?_⟩
      subst e1
      rw [hc'] at e2
      cases e2
      exact ⟨G2, .refl g2, e3⟩, fun le => by
    have z : (signs u).length = u.cps.size := by simp [signs]
    rw [z] at le
    exact le⟩⟩⟩
/-- s in t, s one sign -/
def inS (u v : Str) : Bool := match u.cps.toList with
  | [c] => decide (c ∈ v.cps.toList)
  | _ => false
theorem gv_inS (h1 : u.cps.size = 1) : Gives (fun x y H Q => ∃ (c : Nat) (z : Str), x = .str ⟨#[c]⟩ ∧ y = .str z ∧ Q (.bl (decide (c ∈ z.cps.toList))) H) rStr u rStr v rBool (inS u v) := fun G H a b e ha hb Q q => by
  obtain ⟨⟨l⟩⟩ := u
  match l, h1 with
  | [c], _ => exact ⟨c, v, ha, hb, q _ G H (.refl e) rfl⟩
theorem ev_inS (h1 : u.cps.size = 1) (ha : Ev X Γ e rStr u) (hb : Ev X Γ f rStr v) (hm : behindInMarks .In f = false := by rfl) : Ev X Γ (.Compare e [.In] [f] pos) rBool (inS u v) := ev_cmpR op_in_sign ha hb (gv_inS h1) hm
theorem signs_one {z : Str} (h : z ∈ signs u) : z.cps.size = 1 := by
  obtain ⟨c, _, rfl⟩ := List.mem_map.mp h
  rfl
/-! ### is not None -/
theorem gv_notN {o : Option α} (n : NN r) : Gives (fun x y H Q => y = V.non ∧ Q (.bl (!decide (x = V.non))) H) (rOpt r) o rNon () rBool (!o.isNone) := fun G H a b e h1 h2 Q q => by
  refine ⟨h2, ?_⟩
  cases o with
  | none =>
    have z : a = .non := h1
    subst z
    exact q _ G H (.refl e) rfl
  | some v =>
    rw [decide_eq_false (n.nn G a v h1)]
    exact q _ G H (.refl e) rfl
theorem ev_notN {o : Option α} (n : NN r) (ha : Ev X Γ e (rOpt r) o) (hb : Ev X Γ f rNon ()) : Ev X Γ (.Compare e [.IsNot] [f] pos) rBool (!o.isNone) := ev_cmpR op_notN ha hb (gv_notN n)
theorem et_notN {o : Option α} (n : NN r) (ha : Ev X Γ e (rOpt r) o) (hb : Ev X Γ f rNon ()) : EvT X Γ (.Compare e [.IsNot] [f] pos) (!o.isNone) := et_cmpR op_notN ha hb (gv_notN n)
/-! ### xs * n -/
def repL (as : List α) (n : Int) : List α := (List.replicate n.toNat as).flatten
theorem All2.rep {G : Hp} {vs : List V} (h : All2 r G vs as) : ∀ n : Nat, All2 r G (List.replicate n vs).flatten (List.replicate n as).flatten
  | 0 => .nil
  | n + 1 => by
    rw [List.replicate_succ, List.replicate_succ, List.flatten_cons, List.flatten_cons]
    exact h.append (All2.rep h n)
theorem eo_rep (h : EvB X Γ e (oLst r as)) (h2 : Ev X Γ f rInt i) (hl : -(2 ^ 63) ≤ i ∧ i < 2 ^ 63 ∧ as.length * i.toNat ≤ sizeLine) : EvO X Γ (.BinOp e .Mult f pos) (oLst r (repL as i)) := fun E G H σ hh Q q =>
  WE.of (pe_op op_rep WE.pe WE.pe) (h E G H σ hh _ fun p o G1 H1 l1 hp ⟨vs, e1, ha⟩ => h2 E G1 H1 σ (hh.step l1) _ fun w G2 H2 l2 r2 => by
    subst e1
    exact ⟨p, i, vs, rfl, r2, l2.h _ _ hp, hl.1, hl.2.1, by rw [ha.length]; exact hl.2.2, fun p3 n => q p3 _ G2 _ (Evl.fresh_back (l1.trans l2).h n) ((l1.trans l2).addO n) (Evl.fresh_back l2.gh n) upd_same ⟨_, rfl, (ha.mono l2.g).rep _⟩⟩)
/-! ### zip of two lists -/
theorem ei_zip {elts : List Expr} {kk : Nat} {tpos : Pos} {bs : List β} (h : Ev X Γ e (rLst r) as) (h2 : Ev X Γ f (rLst s) bs) (hm : X.mg "zip" = none) (hg : Gl X "zip" := by rfl)
    (he : starEach [e, f] X.env = (false, eval e X.env) :: starEach [f] X.env := by rfl) (he2 : starEach [f] X.env = (false, eval f X.env) :: starEach [] X.env := by rfl) (hpl : (backTo pos (starEach [f] X.env)).any (·.1) = false := by rfl) :
    EvI X Γ (.Tuple elts kk tpos) (.Call (.Name "zip" p) [e, f] [] pos) (rT2 X.K r s) (as.zip bs) := ⟨_, pi_zip hg hm (pa_cons WE.pe (pa_cons WE.pe pa_nil he2) he) he hpl, fun E G H σ hh R q => h E G H σ hh _ fun v G1 H1 l1 ⟨p1, vs, e1, hp, ha⟩ => h2 E G1 H1 σ (hh.step l1) _ fun v2 G2 H2 l2 ⟨p2, ws, e2, hp2, hb⟩ => by
  have hp' : G2 p1 = some (.lst vs) := l2.g _ _ hp
  refine ⟨p1, p2, vs, ws, by rw [e1, e2], .inl (.inl (l2.gh _ _ hp')), .inl (.inl (l2.gh _ _ hp2)), q _ G2 H2 (l1.trans l2) fun i G3 H3 g1 g2 => ⟨fun a ea => ?_, fun le => ?_⟩⟩
  · have hx : ∃ x y, as[i]? = some x ∧ bs[i]? = some y ∧ a = (x, y) := by
      rw [List.getElem?_zip_eq_some] at ea
      exact ⟨a.1, a.2, ea.1, ea.2, rfl⟩
    obtain ⟨x, y, ex, ey, rfl⟩ := hx
    obtain ⟨v1, ev1, rv1⟩ := ha.get ex
    obtain ⟨w1, ew1, rw1⟩ := hb.get ey
    have hq1 : SqL X.K H3 p1 vs := .inl (.inl (g2 _ _ (g1 _ _ hp')))
    have hq2 : SqL X.K H3 p2 ws := .inl (.inl (g2 _ _ (g1 _ _ hp2)))
    refine ⟨⟨vs, ws, v1, w1, hq1, hq2, ev1, ew1⟩, fun z H' ⟨T, x', y', e3, n, e4, e5, e6⟩ => ?_⟩
    have e7 := e5 vs hq1
    have e8 := e6 ws hq2
    rw [ev1] at e7
    rw [ew1] at e8
    cases e7; cases e8
    subst e3 e4
    have n2 := Evl.fresh_back g2 n
    exact ⟨upd G3 T (.tup [v1, w1]), (Le.refl g2).add n, T, _, _, rfl, .inl (.inl upd_same), r.mono ((l2.g.trans g1).trans (Evl.Ex.new n2)) rv1, s.mono (g1.trans (Evl.Ex.new n2)) rw1⟩
  · refine ⟨vs, ws, .inl (.inl (g2 _ _ (g1 _ _ hp'))), .inl (.inl (g2 _ _ (g1 _ _ hp2))), ?_⟩
    rw [ha.length, hb.length]
    rw [List.length_zip] at le
    omega⟩
/-! ### a method by its class -/
structure HasU (P : Program) (w : World) (K : PySem.W.Frag) (mg : Str → Option Value) (base : Heap) (x : Str) (C : Addr) (m : Str) (k : Nat) (sp : Sp) : Prop where
  ex : ∃ (f : Addr) (fd : FuncData) (ps : List Str) (spF : Sp) (dvs : List V) (ds : List Value), mg x = some (.ref C) ∧ Unb K C m f ∧ Binds K fd ps ds ∧ Vals dvs ds ∧ FnOk P w K mg base (CXL P w) k f fd ps spF ∧ ∀ vs H Q, sp vs H Q E0 → spF (vs ++ dvs) H Q E0
theorem em_unb {cn m : Str} {C : Addr} {Pre : ι → Prop} {pars : ι → List Par} {res : ι → α} {post : ι → List Oc} {z : α} {pl : Sem Bool} (h : HasU X.prog X.w X.K X.mg X.base cn C m k (MSp Pre pars r res post)) (hr : Room j X.A) (hk : k ≤ j) (y : ι) (hp : Pre y)
    (ha : EvP X Γ (e :: es) (pars y) ss) (nd : (slOf ss).Nodup := by decide) (hz : res y = z := by rfl) (hΓ : setSrc Γ ss (post y) = Γ' := by rfl) (hg : Gl X cn := by rfl) (hdb : (cn == ("__debug__" : Str)) = false := by decide)
    (he : starEach (e :: es) X.env = (false, eval e X.env) :: starEach es X.env := by rfl) (hpl : (backTo pos (starEach es X.env)).any (·.1) = false := by rfl)
    (ht : eval (.Call (.Attribute (.Name cn p) m apos) (e :: es) [] pos) X.env = (do
      let ov ← eval (.Name cn p) X.env
      standAt apos.atName
      let (f, first) ← holding [ov] (getMethod ov m pl)
      callWith pos f first (backTo pos (starEach (e :: es) X.env)) (backToKw pos (keywordEach [] X.env))) := by rfl) : EvM X Γ Γ' (.Call (.Attribute (.Name cn p) m apos) (e :: es) [] pos) r z := fun E G H σ hh Q q => by
  obtain ⟨f0, fd, ps0, spF, dvs, ds, hm, u, hb, hd, F, hi⟩ := h.ex
  refine WE.of (pe_unb (pe_glob (v := .ref C) hg hm rfl hdb) u F (hr.mono hk) hb hd passL WA.pa he hpl ht) ?_
  refine ⟨rfl, ?_⟩
  refine ha E G H σ hh _ fun vs as G1 H1 l1 n1 f1 s1 => hi vs _ _ ?_
  have h1 := hh.step l1
  refine ⟨y, G1, as, hp, l1.gh, n1, f1, fun v G2 H2 l2 w2 r2 => ?_⟩
  exact q v G2 H2 (l1.g.trans l2.g) (hΓ ▸ hh.callS h1 nd s1 l2 w2) (hz ▸ r2)
/-! ### isinstance of an own class -/
def KindV (K : PySem.W.Frag) (r : Rp α) (x : α) (t : Value) : Prop := ∀ G v, r.rel G v x → TyX K G v t
theorem ev_isiC {t : Value} {C : Addr} {c : Str} {b : Bool} (h : Ev X Γ e r x) (kd : KindV X.K r x t) (hk : PySem.W.kitOne X.K t (.ref C) = some b) (hm : X.mg "isinstance" = none) (hmc : X.mg c = some (.ref C)) (hg : Gl X "isinstance" := by rfl) (hgc : Gl X c := by rfl) (hd : (c == ("__debug__" : Str)) = false := by decide)
    (hs1 : starEach (e :: [.Name c p2]) X.env = (false, eval e X.env) :: starEach [.Name c p2] X.env := by rfl) (hs2 : starEach (.Name c p2 :: []) X.env = (false, eval (.Name c p2) X.env) :: starEach [] X.env := by rfl) (hpl : (backTo pos (starEach [.Name c p2] X.env)).any (·.1) = false := by rfl) :
    Ev X Γ (.Call (.Name "isinstance" p) [e, .Name c p2] [] pos) rBool b := fun E G H σ hh Q q =>
  WE.of (pe_callB call_isi hg hm (by decide +kernel) (pa_cons WE.pe (pa_cons (pe_glob (v := .ref C) hgc hmc rfl hd) pa_nil hs2) hs1) (he := hs1) (hpl := hpl)) (h E G H σ hh _ fun v G1 H1 l1 r1 => ⟨v, .ref C, t, .ref C, b, rfl, .own C, tyX_mono l1.gh (kd G1 v r1), hk, q _ G1 H1 l1 rfl⟩)
/-! ### try whose body never raises -/
theorem bk_try {h₀ : ExceptHandler} {hs : List ExceptHandler} {body : List Stmt} (hb : Bk X.nox E Γ body (thenD X rest D)) : Bk X E Γ (.Try body (h₀ :: hs) [] [] pos :: rest) D :=
  bk_of (ps_try_thru0 WB.pss) fun G H σ hh => hb G H σ hh
end
end Hf

namespace Hf
open PySem PySem.Spec PyProof.Rows L2 ClX

/-! ### works: frozen when made -/
abbrev wkNs : List Str := ["called", "held", "many"]
abbrev wkTs (K : PySem.W.Frag) (c : WC) (n : Str) (ps : List (Int × Pl)) (s : Option Int) : List Ty := [⟨rStr, n⟩, ⟨rLst (rT2 K rInt (rWk K c)), ps⟩, ⟨rOpt rInt, s⟩]
abbrev oWk (K : PySem.W.Frag) (c : WC) (w : Pl) (n : Str) (ps : List (Int × Pl)) (s : Option Int) : Oc := oIns (c.of w) wkNs (wkTs K c n ps s)
theorem rOpt_oV {G : Hp} {v : V} {s : Option Int} (h : (rOpt rInt).rel G v s) : v = oV s := by
  cases s with
  | none => exact h
  | some i => exact h
theorem frz_wk {K : PySem.W.Frag} {c : WC} {w : Pl} : Frz (oWk K c w w.name w.parts w.steps) (rWk K c) w := fun G a o n ⟨dx, vs, e, h, _⟩ => by
  match vs, h with
  | [v1, v2, v3], ⟨h1, h2, h3, _⟩ =>
    obtain ⟨p, us, e2, hp, ha⟩ := h2
    have e1 : v1 = .str w.name := h1
    have e3 : v3 = oV w.steps := rOpt_oV h3
    have gx : Ex G (upd G a o) := Evl.Ex.new n
    subst e1 e2 e3 e
    cases w with
    | leaf nm s =>
      cases ha
      exact .leaf upd_same (gx _ _ hp)
    | lot row nm ps => exact .lot upd_same (gx _ _ hp) (ptAt_all.mpr (ha.mono gx))
/-! ### depth, names -/
namespace Pl
mutual
def depth : Pl → Nat
  | .leaf _ _ => 1
  | .lot _ _ ps => 1 + depths ps
def depths : List (Int × Pl) → Nat
  | [] => 0
  | (_, w) :: ps => max (depth w) (depths ps)
end
mutual
def names : Pl → List Str
  | .leaf n _ => [n]
  | .lot _ n ps => n :: namess ps
def namess : List (Int × Pl) → List Str
  | [] => []
  | (_, w) :: ps => names w ++ namess ps
end
mutual
/-- all works in it, each elder ahead of its parts -/
def all : Pl → List Pl
  | .leaf n s => [.leaf n s]
  | .lot r n ps => .lot r n ps :: alls ps
def alls : List (Int × Pl) → List Pl
  | [] => []
  | (_, w) :: ps => all w ++ alls ps
end
theorem depth_pos : ∀ w : Pl, 0 < w.depth
  | .leaf _ _ => by simp [depth]
  | .lot _ _ _ => by simp only [depth]; omega
theorem depths_mem {q : Int × Pl} : ∀ {ps : List (Int × Pl)}, q ∈ ps → q.2.depth ≤ depths ps
  | (i, w) :: ps, h => by
    rcases List.mem_cons.mp h with rfl | h
    · show w.depth ≤ max w.depth (depths ps)
      omega
    · have := depths_mem h
      show _ ≤ max w.depth (depths ps)
      omega
theorem part_depth {q : Int × Pl} {w : Pl} (h : q ∈ w.parts) : q.2.depth < w.depth := by
  cases w with
  | leaf n s => simp [parts] at h
  | lot r n ps =>
    have := depths_mem (show q ∈ ps from h)
    show _ < 1 + depths ps
    omega
theorem depth_eq (w : Pl) : w.depth = 1 + depths w.parts := by
  cases w with
  | leaf n s => simp [depth, parts, depths]
  | lot r n ps => simp [depth, parts]
theorem names_eq (w : Pl) : w.names = w.name :: namess w.parts := by
  cases w with
  | leaf n s => simp [names, parts, namess, name]
  | lot r n ps => simp [names, parts, name]
theorem all_eq (w : Pl) : w.all = w :: alls w.parts := by
  cases w with
  | leaf n s => simp [all, parts, alls]
  | lot r n ps => simp [all, parts]
theorem namess_eq : ∀ (ps : List (Int × Pl)), namess ps = ps.flatMap (fun q => q.2.names)
  | [] => by simp [namess]
  | (i, w) :: ps => by simp [namess, namess_eq ps]
theorem alls_eq : ∀ (ps : List (Int × Pl)), alls ps = ps.flatMap (fun q => q.2.all)
  | [] => by simp [alls]
  | (i, w) :: ps => by simp [alls, alls_eq ps]
theorem depths_max : ∀ (ps : List (Int × Pl)), (depths ps : Int) = maxL ([0] ++ ps.map fun q => (q.2.depth : Int))
  | [] => by simp [depths, maxL]
  | (i, w) :: ps => by
    have ih := depths_max ps
    have step : ∀ (l : List Int) (a b : Int), l.foldl max (max a b) = max b (l.foldl max a) := fun l => by
      induction l with
      | nil => intro a b; simp only [List.foldl_nil]; omega
      | cons c l ih => intro a b; simp only [List.foldl_cons]; rw [show max (max a b) c = max (max a c) b by omega, ih]
    show ((max w.depth (depths ps) : Nat) : Int) = List.foldl max 0 ((w.depth : Int) :: ps.map fun q => (q.2.depth : Int))
    have ih' : (depths ps : Int) = List.foldl max 0 (ps.map fun q => (q.2.depth : Int)) := ih
    rw [List.foldl_cons, step, ← ih']
    omega
end Pl
/-! ### == of plain works -/
def pdOpt : Option Int → PyData
  | none => .none
  | some i => .int i
mutual
def pdPl : Pl → PyData
  | .leaf n s => .tuple [.str "leaf", .str n, pdOpt s]
  | .lot row n ps => .tuple [.str (Pl.lot row n []).kind, .str n, .list (pdPs ps)]
def pdPs : List (Int × Pl) → List PyData
  | [] => []
  | (i, w) :: ps => .tuple [.int i, pdPl w] :: pdPs ps
end
def NOk (u : Str) : Prop := PyData.strOk u = true
mutual
def Pl.Ok : Pl → Prop
  | .leaf n _ => NOk n
  | .lot _ n ps => NOk n ∧ Pl.Oks ps
def Pl.Oks : List (Int × Pl) → Prop
  | [] => True
  | (_, w) :: ps => Pl.Ok w ∧ Pl.Oks ps
end
mutual
theorem pdPl_lay : ∀ (w : Pl), w.Ok → PyData.canLay0 (pdPl w) = true ∧ PyData.depth (pdPl w) ≤ 3 * w.depth
  | .leaf n s, h => by
    have hn : PyData.strOk n = true := h
    have hl : PyData.strOk "leaf" = true := by decide +kernel
    cases s <;> simp [pdPl, pdOpt, PyData.canLay0, PyData.canLayAll0, PyData.depth, PyData.depthAll, hn, hl, Pl.depth]
  | .lot row n ps, h => by
    have hn : PyData.strOk n = true := h.1
    have hk : PyData.strOk (Pl.lot row n []).kind = true := by
      cases row
      · exact (by decide +kernel : PyData.strOk "bundle" = true)
      · exact (by decide +kernel : PyData.strOk "row" = true)
    obtain ⟨h1, h2⟩ := pdPs_lay ps h.2
    refine ⟨by simp [pdPl, PyData.canLay0, PyData.canLayAll0, hn, hk, h1], ?_⟩
    simp only [pdPl, PyData.depth, PyData.depthAll, Pl.depth]
    omega
theorem pdPs_lay : ∀ (ps : List (Int × Pl)), Pl.Oks ps → PyData.canLayAll0 (pdPs ps) = true ∧ PyData.depthAll (pdPs ps) ≤ 3 * Pl.depths ps + 1
  | [], _ => by simp [pdPs, PyData.canLayAll0, PyData.depthAll]
  | (i, w) :: ps, h => by
    obtain ⟨h1, h2⟩ := pdPl_lay w h.1
    obtain ⟨h3, h4⟩ := pdPs_lay ps h.2
    refine ⟨by simp [pdPs, PyData.canLayAll0, PyData.canLay0, h1, h3], ?_⟩
    simp only [pdPs, PyData.depthAll, PyData.depth, Pl.depths]
    omega
end
mutual
theorem dp_pl {K : PySem.W.Frag} {G : Hp} : ∀ (w : Pl) (v : V), PlAt K G v w → Dp K G v (pdPl w)
  | .leaf n s, _, h => by
    cases h with
    | leaf h1 =>
      refine .tup h1 (.cons (.str _) (.cons (.str _) (.cons ?_ .nil)))
      cases s with
      | none => exact .non
      | some i => exact .int i
  | .lot row n ps, _, h => by
    cases h with
    | lot h1 h2 h3 =>
      have e : (Pl.lot row n ps).kind = (Pl.lot row n []).kind := by cases row <;> rfl
      rw [e] at h1
      exact .tup h1 (.cons (.str _) (.cons (.str _) (.cons (.lst (.inl (.inl h2)) (dp_ps ps _ h3)) .nil)))
theorem dp_ps {K : PySem.W.Frag} {G : Hp} : ∀ (ps : List (Int × Pl)) (vs : List V), PpAt K G vs ps → DpAll K G vs (pdPs ps)
  | [], _, h => by cases h; exact .nil
  | (i, w) :: ps, _, h => by
    cases h with
    | cons h1 h2 h3 => exact .cons (.tup h1 (.cons (.int _) (.cons (dp_pl w _ h2) .nil))) (dp_ps ps _ h3)
end
theorem eqv_pl {K : PySem.W.Frag} {w : Pl} (h : w.Ok) (hd : w.depth ≤ 20) : Eqv K (rPl K) w (pdPl w) := ⟨fun G v k => dp_pl w v k, by
  obtain ⟨h1, h2⟩ := pdPl_lay w h
  unfold SeqAt.shaped
  rw [h1]
  exact decide_eq_true (by omega)⟩
theorem eqv_pls {K : PySem.W.Frag} {ps : List (Int × Pl)} (h : Pl.Oks ps) (hd : Pl.depths ps ≤ 20) : Eqv K (rLst (rT2 K rInt (rPl K))) ps (.list (pdPs ps)) := ⟨fun G v ⟨p, vs, e, k, a⟩ => by
  subst e
  exact .lst (.inl (.inl k)) (dp_ps ps vs (ppAt_all.mpr a)), by
  obtain ⟨h1, h2⟩ := pdPs_lay ps h
  unfold SeqAt.shaped
  simp only [PyData.canLay0, h1, PyData.depth, Bool.true_and]
  exact decide_eq_true (by omega)⟩
theorem eqv_opt {K : PySem.W.Frag} {s : Option Int} : Eqv K (rOpt rInt) s (pdOpt s) := ⟨fun G v k => by
  cases s with
  | none =>
    have e : v = .non := k
    subst e
    exact .non
  | some i =>
    have e : v = .int i := k
    subst e
    exact .int i, by cases s <;> rfl⟩
theorem pdOpt_eqv {a b : Option Int} : PyData.eqv (pdOpt a) (pdOpt b) = decide (a = b) := by
  cases a <;> cases b <;> simp [pdOpt, PyData.eqv]
  rename_i x y
  by_cases h : x = y <;> simp [h]
mutual
theorem pdPl_eqv : ∀ (a b : Pl), PyData.eqv (pdPl a) (pdPl b) = true → a = b
  | .leaf n s, .leaf m t, h => by
    simp only [pdPl, PyData.eqv, PyData.eqvAll, pdOpt_eqv, Bool.and_true, Bool.and_eq_true, decide_eq_true_eq, beq_iff_eq] at h
    obtain ⟨_, h1, h2⟩ := h
    rw [h1, h2]
  | .leaf n s, .lot r m ps, h => by
    cases r <;> cases s <;> simp [pdPl, PyData.eqv, PyData.eqvAll, pdOpt] at h
  | .lot r m ps, .leaf n s, h => by
    cases r <;> cases s <;> simp [pdPl, PyData.eqv, PyData.eqvAll, pdOpt] at h
  | .lot r n ps, .lot q m qs, h => by
    simp only [pdPl, PyData.eqv, PyData.eqvAll, Bool.and_true, Bool.and_eq_true, decide_eq_true_eq, beq_iff_eq] at h
    obtain ⟨h0, h1, h2⟩ := h
    have hr : r = q := by
      cases r <;> cases q
      · rfl
      · exact absurd (show ("bundle" : Str) = "row" from h0) (by decide +kernel)
      · exact absurd (show ("row" : Str) = "bundle" from h0) (by decide +kernel)
      · rfl
    rw [hr, h1, pdPs_eqv ps qs h2]
theorem pdPs_eqv : ∀ (a b : List (Int × Pl)), PyData.eqvAll (pdPs a) (pdPs b) = true → a = b
  | [], [], _ => rfl
  | [], (j, w) :: b, h => by simp [pdPs, PyData.eqvAll] at h
  | (i, w) :: a, [], h => by simp [pdPs, PyData.eqvAll] at h
  | (i, w) :: a, (j, z) :: b, h => by
    simp only [pdPs, PyData.eqv, PyData.eqvAll, Bool.and_true, Bool.and_eq_true, decide_eq_true_eq, beq_iff_eq] at h
    obtain ⟨⟨h1, h2⟩, h3⟩ := h
    rw [h1, pdPl_eqv w z h2, pdPs_eqv a b h3]
end
mutual
theorem pdPl_refl : ∀ (a : Pl), PyData.eqv (pdPl a) (pdPl a) = true
  | .leaf n s => by simp [pdPl, PyData.eqv, PyData.eqvAll, pdOpt_eqv]
  | .lot r n ps => by simp [pdPl, PyData.eqv, PyData.eqvAll, pdPs_refl ps]
theorem pdPs_refl : ∀ (a : List (Int × Pl)), PyData.eqvAll (pdPs a) (pdPs a) = true
  | [] => by simp [pdPs, PyData.eqvAll]
  | (i, w) :: a => by simp [pdPs, PyData.eqv, PyData.eqvAll, pdPl_refl w, pdPs_refl a]
end
theorem dpAll_bools {K : PySem.W.Frag} {G : Hp} : ∀ {ns : List Bool}, DpAll K G (ns.map V.bl) (ns.map PyData.bool)
  | [] => .nil
  | b :: l => .cons (.bl b) dpAll_bools
theorem eqv_bools {K : PySem.W.Frag} {ns : List Bool} : Eqv K (rLst rBool) ns (.list (ns.map .bool)) := ⟨fun G v ⟨p, vs, e, h, h2⟩ => by
  subst e
  refine .lst (.inl (.inl h)) ?_
  rw [all2_bool h2]
  exact dpAll_bools, by
  have z : ∀ l : List Bool, PyData.canLayAll0 (l.map .bool) = true := fun l => by
    induction l with
    | nil => rfl
    | cons a l ih => simp [PyData.canLayAll0, PyData.canLay0, ih]
  have d : ∀ l : List Bool, PyData.depthAll (l.map PyData.bool) ≤ 1 := fun l => by
    induction l with
    | nil => simp [PyData.depthAll]
    | cons a l ih => simp [PyData.depthAll, PyData.depth]; omega
  unfold SeqAt.shaped
  have := d ns
  simp only [PyData.canLay0, z, PyData.depth, Bool.true_and]
  exact decide_eq_true (by omega)⟩
theorem bools_eqv {a b : List Bool} : PyData.eqv (.list (a.map .bool)) (.list (b.map .bool)) = decide (a = b) := by
  have k : ∀ a b : List Bool, PyData.eqvAll (a.map .bool) (b.map .bool) = decide (a = b) := fun a => by
    induction a with
    | nil => intro b; cases b <;> simp [PyData.eqvAll]
    | cons x a ih =>
      intro b
      cases b with
      | nil => simp [PyData.eqvAll]
      | cons y b =>
        simp only [List.map_cons, PyData.eqvAll, PyData.eqv, ih, List.cons.injEq, Bool.decide_and]
        cases x <;> cases y <;> rfl
  simp only [PyData.eqv, k]
/-- an empty list of anything -/
theorem eqv_nil {K : PySem.W.Frag} {α : Type} {r : Rp α} : Eqv K (rLst r) ([] : List α) (.list []) := ⟨fun G v ⟨p, vs, e, h, h2⟩ => by
  subst e
  cases h2
  exact .lst (.inl (.inl h)) .nil, rfl⟩
end Hf

namespace Hf
open PySem PySem.Spec PyProof.Rows L2 ClX

/-! ### plain works taken apart and put together -/
theorem PlAt.three {K : PySem.W.Frag} {G : Hp} {v : V} {w : Pl} (h : PlAt K G v w) : ∃ a z, v = .ref a ∧ SqT K G a [.str w.kind, .str w.name, z] ∧ (w.isLeaf = true → z = oV w.steps) ∧ (w.isLeaf = false → ∃ p vs, z = .ref p ∧ G p = some (.lst vs) ∧ All2 (rT2 K rInt (rPl K)) G vs w.parts) := by
  cases h with
  | leaf h1 => exact ⟨_, _, rfl, h1, fun _ => rfl, fun z => by simp [Pl.isLeaf] at z⟩
  | lot h1 h2 h3 => exact ⟨_, _, rfl, h1, fun z => by simp [Pl.isLeaf] at z, fun _ => ⟨_, _, rfl, h2, ppAt_all.mp h3⟩⟩
/-- the classes of works, by their names -/
abbrev cW (K : PySem.W.Frag) : WC := ⟨He.ga K "Leaf", He.ga K "Row", He.ga K "Bundle"⟩
def Pl.isRow : Pl → Bool
  | .lot true _ _ => true
  | _ => false
def Pl.isBun : Pl → Bool
  | .lot false _ _ => true
  | _ => false
structure WcTy (K : PySem.W.Frag) (c : WC) (W : Addr) : Prop where
  ha : ∀ w, PySem.W.findIn K (.ref (c.of w)) "__class__" = some (some (.builtin "object.__class__"))
  hn : PySem.W.specialIn K (.builtin "object.__class__") "__get__" = some (some (.builtin "getset_descriptor.__get__"))
  ht : PySem.W.takesIn K (.builtin "object.__class__") = some true
  hm : ∀ w, PySem.W.mroIn K (c.of w) (.type "object") = some true
  work : ∀ w, PySem.W.kitOne K (.ref (c.of w)) (.ref W) = some true
  leaf : ∀ w, PySem.W.kitOne K (.ref (c.of w)) (.ref c.L) = some w.isLeaf
  row : ∀ w, PySem.W.kitOne K (.ref (c.of w)) (.ref c.R) = some w.isRow
  bun : ∀ w, PySem.W.kitOne K (.ref (c.of w)) (.ref c.B) = some w.isBun
theorem kind_wk {K : PySem.W.Frag} {c : WC} {W : Addr} {w : Pl} (ok : WcOk K c) (t : WcTy K c W) : KindV K (rWk K c) w (.ref (c.of w)) := fun G v h => by
  obtain ⟨a, dx, hd, vs, e1, h1, h2, h3⟩ := WkAt.obj h
  subst e1
  exact .base (.ins h1 (ok.cls w) (t.ha w) t.hn t.ht (t.hm w))
section
variable {X : Cx} {E : Ent} {Γ Γ' Γ1 Γ2 : List Slot} {D : Ends} {e f g o : Expr} {es : List Expr} {rest : List Stmt} {pos p p2 apos cpos : Pos} {α β γ ι : Type} {r : Rp α} {x : α} {s : Rp β} {y : β} {ps : List Par} {ss : List Src} {k j : Nat} {u v n : Str} {i : Int} {as : List α} {w : Pl} {c : WC} {m : Str} {pl : Sem Bool}
theorem ev_pl0 {k : Nat} (h : Ev X Γ e (rPl X.K) w) : Ev X Γ (.Subscript e (.Constant (.int 0) k p2) pos) rStr w.kind := fun E G H σ hh Q q =>
  WE.of (pe_ix ix_tup WE.pe pe_int (plain_of rfl)) (h E G H σ hh _ fun v G1 H1 l1 r1 => by
    obtain ⟨a, z, e1, h1, _, _⟩ := PlAt.three r1
    exact ⟨a, _, 0, _, e1, rfl, Evl.ex_t l1.gh h1, rfl, q _ G1 H1 l1 rfl⟩)
theorem ev_pl1 {k : Nat} (h : Ev X Γ e (rPl X.K) w) : Ev X Γ (.Subscript e (.Constant (.int 1) k p2) pos) rStr w.name := fun E G H σ hh Q q =>
  WE.of (pe_ix ix_tup WE.pe pe_int (plain_of rfl)) (h E G H σ hh _ fun v G1 H1 l1 r1 => by
    obtain ⟨a, z, e1, h1, _, _⟩ := PlAt.three r1
    exact ⟨a, _, 1, _, e1, rfl, Evl.ex_t l1.gh h1, rfl, q _ G1 H1 l1 rfl⟩)
theorem ev_pl2s {k : Nat} (hw : w.isLeaf = true) (h : Ev X Γ e (rPl X.K) w) : Ev X Γ (.Subscript e (.Constant (.int 2) k p2) pos) (rOpt rInt) w.steps := fun E G H σ hh Q q =>
  WE.of (pe_ix ix_tup WE.pe pe_int (plain_of rfl)) (h E G H σ hh _ fun v G1 H1 l1 r1 => by
    obtain ⟨a, z, e1, h1, h2, _⟩ := PlAt.three r1
    refine ⟨a, _, 2, _, e1, rfl, Evl.ex_t l1.gh h1, rfl, q _ G1 H1 l1 ?_⟩
    rw [h2 hw]
    cases w.steps <;> rfl)
theorem ev_pl2p {k : Nat} (hw : w.isLeaf = false) (h : Ev X Γ e (rPl X.K) w) : Ev X Γ (.Subscript e (.Constant (.int 2) k p2) pos) (rLst (rT2 X.K rInt (rPl X.K))) w.parts := fun E G H σ hh Q q =>
  WE.of (pe_ix ix_tup WE.pe pe_int (plain_of rfl)) (h E G H σ hh _ fun v G1 H1 l1 r1 => by
    obtain ⟨a, z, e1, h1, _, h2⟩ := PlAt.three r1
    exact ⟨a, _, 2, _, e1, rfl, Evl.ex_t l1.gh h1, rfl, q _ G1 H1 l1 (h2 hw)⟩)
theorem Ev.plLeaf {s : Option Int} (h : Ev X Γ e (rT3 X.K rStr rStr (rOpt rInt)) ("leaf", n, s)) : Ev X Γ e (rPl X.K) (.leaf n s) := fun E G H σ hh Q q => h E G H σ hh _ fun v G1 H1 l1 ⟨a, x, y, z, e1, h1, h2, h3, h4⟩ => q v G1 H1 l1 (by
  have e2 : x = .str "leaf" := h2
  have e3 : y = .str n := h3
  have e4 : z = oV s := rOpt_oV h4
  subst e1 e2 e3 e4
  exact .leaf h1)
theorem Ev.plLot {row : Bool} {ks : Str} {ps : List (Int × Pl)} (hk : ks = (Pl.lot row n ps).kind) (h : Ev X Γ e (rT3 X.K rStr rStr (rLst (rT2 X.K rInt (rPl X.K)))) (ks, n, ps)) : Ev X Γ e (rPl X.K) (.lot row n ps) := fun E G H σ hh Q q => h E G H σ hh _ fun v G1 H1 l1 ⟨a, x, y, z, e1, h1, h2, h3, p, vs, e4, h4, h5⟩ => q v G1 H1 l1 (by
  have e2 : x = .str ks := h2
  have e3 : y = .str n := h3
  subst e1 e2 e3 e4 hk
  exact .lot h1 h4 (ppAt_all.mpr h5))
/-! ### a method that hands back a new list -/
def HasVO (P : Program) (w : World) (K : PySem.W.Frag) (mg : Str → Option Value) (base : Heap) (c : WC) (m : Str) (k : Nat) {ι : Type} (self : ι → Pl) (Pre : ι → Prop) (args : ι → List Ty) (oc : ι → Oc) : Prop :=
  ∀ y, Pre y → HasM P w K mg base (c.of (self y)) m k (OSp (fun z => z = y) (fun z => ⟨rWk K c, self z⟩ :: args z) oc)
theorem eo_vm0 {self : ι → Pl} {Pre : ι → Prop} {args : ι → List Ty} {oc : ι → Oc} {z : Oc} (h : HasVO X.prog X.w X.K X.mg X.base c m k self Pre args oc) (hr : Room j X.A) (hk : k ≤ j) (y : ι) (hp : Pre y) (ho : Ev X Γ o (rWk X.K c) (self y)) (ha : args y = []) (hz : oc y = z := by rfl)
    (hf : ∀ n hd v, (wkF n hd v).lookup m = none := by intro _ _ _; rfl)
    (ht : eval (.Call (.Attribute o m apos) [] [] pos) X.env = (do
      let ov ← eval o X.env
      standAt apos.atName
      let (f, first) ← holding [ov] (getMethod ov m pl)
      callWith pos f first (backTo pos (starEach [] X.env)) (backToKw pos (keywordEach [] X.env))) := by rfl) : EvO X Γ (.Call (.Attribute o m apos) [] [] pos) z := fun E G H σ hh Q q =>
  we_meth0 (h y hp) hr hk (ho E G H σ hh _ fun v G1 H1 l1 r1 => by
    obtain ⟨a, dx, hd, vs, e1, h1, h2, h3⟩ := WkAt.obj r1
    subst e1
    refine ⟨a, dx, _, rfl, l1.gh _ _ h1, hf _ _ _, y, G1, rfl, l1.gh, ⟨r1, by rw [ha]; trivial⟩, fun p ob G3 H3 n l3 g3 h3 c3 => q p ob G3 H3 (Evl.fresh_back l1.h n) (l1.trans l3) g3 h3 (hz ▸ c3)⟩) ht
/-! ### C(e, k = v) -/
structure HasK (P : Program) (w : World) (K : PySem.W.Frag) (mg : Str → Option Value) (base : Heap) (x : Str) (C : Addr) (ks : List Str) (k : Nat) (sp : Sp) : Prop where
  ex : ∃ (f : Addr) (fd : FuncData) (ps : List Str) (g : List Value → List Value → List Value) (gV : List V → List V → List V), mg x = some (.ref C) ∧ Mk K C f ∧ KBn K fd ps 2 ks g gV ∧ FnOk P w K mg base (CXL P w) k f fd ps sp ∧ ∀ a u z, gV [a, u] [z] = [a, u, z]
theorem ev_makeK {fn kw : Str} {C : Addr} {kpos : Pos} {Pre : ι → Prop} {t1 t2 : ι → Ty} {oc : ι → Oc} {z : α} (h : HasK X.prog X.w X.K X.mg X.base fn C [kw] k (MSp Pre (fun y => [.ow (oIns C [] []), .ty (t1 y), .ty (t2 y)]) rNon (fun _ => ()) (fun y => [oc y]))) (hr : Room j X.A) (hk : k + 1 ≤ j) (y : ι) (hp : Pre y)
    (ha : Ev X Γ e (t1 y).r (t1 y).a) (hb : Ev X Γ f (t2 y).r (t2 y).a) (fz : Frz (oc y) r z) (hg : Gl X fn := by rfl) (hdb : (fn == ("__debug__" : Str)) = false := by decide)
    (hall : (backToKw pos (keywordEach [⟨some kw, f, kpos⟩] X.env)).all (·.1.isSome) = true := by rfl) (hks : (backToKw pos (keywordEach [⟨some kw, f, kpos⟩] X.env)).filterMap (·.1) = [kw] := by rfl)
    (he : starEach (e :: []) X.env = (false, eval e X.env) :: starEach [] X.env := by rfl)
    (hpl : ((backTo pos (starEach (e :: []) X.env)).any (·.1) || (backToKw pos (keywordEach [⟨some kw, f, kpos⟩] X.env)).any (·.1.isNone)) = false := by rfl) : Ev X Γ (.Call (.Name fn p) [e] [⟨some kw, f, kpos⟩] pos) r z := fun E G H σ hh Q q => by
  obtain ⟨f0, fd, ps0, g, gV, hm, mk, kb, F, hgv⟩ := h.ex
  refine WE.of (pe_makeN (n := 1) mk F (hr.mono hk) hg hm kb passL (pa_cons WE.pe pa_nil he) (pk_cons WE.pe pk_nil) hall hks hdb he hpl) ?_
  refine ha E G H σ hh _ fun v G1 H1 l1 r1 => hb E G1 H1 σ (hh.step l1) _ fun u G2 H2 l2 r2 => ⟨rfl, rfl, fun a dx na nx ne => ?_⟩
  rw [hgv]
  have l := l1.trans l2
  have g2a : G2 a = none := Evl.fresh_back l2.gh na
  have l3 : Le G2 H2 G2 (upd (upd H2 dx (.own a)) a (.ins C dx [])) := by
    have z1 : Le G2 H2 G2 (upd H2 dx (.own a)) := (Le.refl l2.gh).addO nx
    exact z1.addO (by rw [upd_ne (fun w => ne w.symm)]; exact na)
  refine ⟨y, G2, [a], hp, l3.gh, by simp, ⟨⟨rfl, g2a, _, upd_same, dx, [], rfl, trivial, rfl⟩, (t1 y).r.mono l2.g r1, r2, trivial⟩, fun v3 G3 H3 l4 w4 r3 => ⟨r3, ?_⟩⟩
  obtain ⟨⟨ga, oa, ha3, ca⟩, _⟩ := w4
  refine q _ (upd G3 a oa) H3 ⟨(l.g.trans l4.g).trans (Evl.Ex.new ga), fun b o z => ?_, fun b o z => ?_, fun b o z1 z2 => ?_⟩ (fz G3 a oa ga ca)
  · have ne : b ≠ a := fun w => by subst w; rw [Evl.fresh_back l.h na] at z; cases z
    rcases l4.h b o (l3.h _ _ (l.h _ _ z)) with ⟨_, w⟩ | ⟨m, _⟩
    · exact w
    · simp only [List.mem_singleton] at m
      exact absurd m ne
  · by_cases w : b = a
    · subst w; rw [upd_same] at z; cases z; exact ha3
    · rw [upd_ne w] at z; exact l4.gh b o z
  · by_cases w : b = a
    · subst w; exact Evl.fresh_back l.h na
    · rw [upd_ne w] at z1
      cases q : G2 b with
      | some o2 => exact l.new b o2 q z2
      | none => exact Evl.fresh_back (l.h.trans l3.h) (l4.new b o z1 q)
end
end Hf

namespace Hf
open PySem PySem.Spec PyProof.Rows L2 ClX

theorem RetN.eqP {E : Ent} {D : Ends} {ps : List Addr} {post post' : List Oc} {α : Type} {r : Rp α} {a a' : α} (h : RetN E D ps post r a) (q : a = a') (q2 : post = post') : RetN E D ps post' r a' := q ▸ q2 ▸ h
theorem leaf_of {w : Pl} {b : Bool} (h : decide (w.kind = ("leaf" : Str)) = b) : w.isLeaf = b := by
  subst h
  cases w with
  | leaf n s => exact (decide_eq_true rfl).symm
  | lot r n ps =>
    cases r
    · exact (decide_eq_false (show ¬ ("bundle" : Str) = "leaf" by decide +kernel)).symm
    · exact (decide_eq_false (show ¬ ("row" : Str) = "leaf" by decide +kernel)).symm
theorem leaf_ne {w : Pl} {b : Bool} (h : (!decide (w.kind = ("leaf" : Str))) = b) : w.isLeaf = !b := by
  have z := leaf_of (w := w) rfl
  rw [z, ← h, Bool.not_not]
theorem row_of {w : Pl} {b : Bool} (h : decide (w.kind = ("row" : Str)) = b) : w.isRow = b := by
  subst h
  cases w with
  | leaf n s => exact (decide_eq_false (show ¬ ("leaf" : Str) = "row" by decide +kernel)).symm
  | lot r n ps =>
    cases r
    · exact (decide_eq_false (show ¬ ("bundle" : Str) = "row" by decide +kernel)).symm
    · exact (decide_eq_true rfl).symm
theorem bun_of {w : Pl} {b : Bool} (h : decide (w.kind = ("bundle" : Str)) = b) : w.isBun = b := by
  subst h
  cases w with
  | leaf n s => exact (decide_eq_false (show ¬ ("leaf" : Str) = "bundle" by decide +kernel)).symm
  | lot r n ps =>
    cases r
    · exact (decide_eq_true rfl).symm
    · exact (decide_eq_false (show ¬ ("row" : Str) = "bundle" by decide +kernel)).symm
section
variable {X : Cx} {E : Ent} {Γ Γ' Γ1 Γ2 : List Slot} {D : Ends} {e f g o : Expr} {es : List Expr} {rest : List Stmt} {pos p p2 apos cpos : Pos} {α β γ ι : Type} {r : Rp α} {x : α} {s : Rp β} {y : β} {ps : List Par} {ss : List Src} {k j : Nat} {u v n : Str} {i : Int} {as : List α} {c : WC} {m : Str} {pl : Sem Bool}
theorem bk_retP {is : List Nat} {ps : List Addr} {post : List Oc} (he : EvM X Γ Γ' e r x) (k : RetN E D ps post r x) (hs : StillI Γ' is ps post) : Bk X E Γ (.Return (some e) pos :: rest) D :=
  bk_of (ps_ret WE.pe) fun G H σ hh => he E G H σ hh _ fun v G1 H1 g1 h1 r1 => k v G1 H1 h1.le (StillI.ows h1 hs) r1
theorem bk_retE (he : EvM X Γ Γ' e r x) (k : RetOk E D r x) : Bk X E Γ (.Return (some e) pos :: rest) D :=
  bk_of (ps_ret WE.pe) fun G H σ hh => he E G H σ hh _ fun v G1 H1 g1 h1 r1 => k v G1 H1 h1.le r1
theorem em_ifE {p : Bool} {x' : α} (h : EvT X Γ e p) (h1 : p = true → EvM X Γ Γ' f r x) (h2 : p = false → EvM X Γ Γ' g r x') : EvM X Γ Γ' (.IfExp e f g pos) r (if p = true then x else x') := fun E G H σ hh Q k => WE.of (pe_ifExp WT.pt WE.pe WE.pe) (h E G H σ hh _ fun G1 H1 l1 => by
  cases p with
  | true =>
    rw [if_pos rfl] at k ⊢
    exact h1 rfl E G1 H1 σ (hh.step l1) Q fun a G2 H2 l2 h2 r2 => k a G2 H2 (l1.g.trans l2) h2 r2
  | false =>
    rw [if_neg Bool.false_ne_true] at k ⊢
    exact h2 rfl E G1 H1 σ (hh.step l1) Q fun a G2 H2 l2 h2 r2 => k a G2 H2 (l1.g.trans l2) h2 r2)
theorem EvM.eq {x' : α} (h : EvM X Γ Γ' e r x) (q : x = x') : EvM X Γ Γ' e r x' := q ▸ h
/-- C(e, ..) of new things and of what is only read -/
theorem ev_make {fn : Str} {C : Addr} {Pre : ι → Prop} {pars : ι → List Par} {post : ι → List Oc} {c : ι → Oc} {z : α} (h : HasI X.prog X.w X.K X.mg X.base fn C k (MSp Pre (fun y => .ow (oIns C [] []) :: pars y) rNon (fun _ => ()) (fun y => c y :: post y))) (hr : Room j X.A) (hk : k + 1 ≤ j) (y : ι) (hp : Pre y)
    (ha : EvP X Γ (e :: es) (pars y) ss) (fz : Frz (c y) r z) (nd : slOf ss = [] := by decide) (hg : Gl X fn := by rfl) (hdb : (fn == ("__debug__" : Str)) = false := by decide)
    (he : starEach (e :: es) X.env = (false, eval e X.env) :: starEach es X.env := by rfl) (hpl : (backTo pos (starEach es X.env)).any (·.1) = false := by rfl) : Ev X Γ (.Call (.Name fn p) (e :: es) [] pos) r z := fun E G H σ hh Q q => by
  obtain ⟨f0, fd, ps0, spF, dvs, ds, hm, mk, hb, hd, F, hi⟩ := h.ex
  refine WE.of (pe_make mk F (hr.mono hk) hg hm hb hd passL WA.pa hdb he hpl) ?_
  refine ha E G H σ hh _ fun vs as G1 H1 l1 n1 f1 s1 a dx na nx ne => hi (.ref a :: vs) _ _ ?_
  have g1a : G1 a = none := Evl.fresh_back l1.gh na
  have l2 : Le G1 H1 G1 (upd (upd H1 dx (.own a)) a (.ins C dx [])) := by
    have z1 : Le G1 H1 G1 (upd H1 dx (.own a)) := (Le.refl l1.gh).addO nx
    exact z1.addO (by rw [upd_ne (fun w => ne w.symm)]; exact na)
  have naa : a ∉ as := fun m => by obtain ⟨o, w⟩ := (f1.mem a m).2; rw [na] at w; cases w
  have fresh : ∀ b ∈ as, H b = none := fun b m => by
    rcases s1.mem hh m with z | ⟨i, k1, _⟩
    · exact z
    · rw [nd] at k1; simp at k1
  refine ⟨y, G1, a :: as, hp, l2.gh, List.nodup_cons.mpr ⟨naa, n1⟩, ⟨⟨rfl, g1a, _, upd_same, dx, [], rfl, trivial, rfl⟩, f1.step l2⟩, fun v G3 H3 l3 w3 r3 => ⟨r3, ?_⟩⟩
  obtain ⟨⟨ga, oa, ha3, ca⟩, _⟩ := w3
  refine q _ (upd G3 a oa) H3 ⟨(l1.g.trans l3.g).trans (Evl.Ex.new ga), fun b o z => ?_, fun b o z => ?_, fun b o z1 z2 => ?_⟩ (fz G3 a oa ga ca)
  · rcases l3.h b o (l2.h _ _ (l1.h _ _ z)) with ⟨_, w⟩ | ⟨m, _⟩
    · exact w
    · rcases List.mem_cons.mp m with rfl | m
      · rw [Evl.fresh_back l1.h na] at z; cases z
      · rw [fresh b m] at z; cases z
  · by_cases w : b = a
    · subst w; rw [upd_same] at z; cases z; exact ha3
    · rw [upd_ne w] at z; exact l3.gh b o z
  · by_cases w : b = a
    · subst w; exact Evl.fresh_back l1.h na
    · rw [upd_ne w] at z1
      cases q : G1 b with
      | some o2 => exact l1.new b o2 q z2
      | none => exact Evl.fresh_back (l1.h.trans l2.h) (l3.new b o z1 q)
end
/-! ### recursion: what is never asked holds -/
section
variable {P : Program} {w : World} {K : PySem.W.Frag} {mg : Str → Option Value} {base : Heap} {CX : CXT} {f : Addr} {fd : FuncData} {ps : List Str} {k : Nat} {sp : Sp} {c : WC} {m : Str}
theorem fn_vac (h : ∀ vs H Q E, ¬ sp vs H Q E) : FnOk P w K mg base CX k f fd ps sp :=
  ⟨fun vs H Q E z => (h vs H Q E z).elim, fun A outer s H args us vs Q E _ _ _ _ z => (h vs H Q E z).elim⟩
theorem HasV.mk {ι α : Type} {self : ι → Pl} {Pre : ι → Prop} {args : ι → List Ty} {r : Rp α} {res : ι → α} (cl : ∀ w, Cls K (c.of w)) (hm : ∀ w, Meth K (c.of w) m f) (hb : Binds K fd ps []) (F : FnOk P w K mg base (CXL P w) k f fd ps (PSp Pre (fun z => ⟨rWk K c, self z⟩ :: args z) r res)) : HasV P w K mg base c m k self Pre args r res := fun y hp =>
  (HasM.mk0 (cl _) (hm _) hb F).sub (Nat.le_refl _) fun vs H Q ⟨z, G, e, h⟩ => ⟨z, G, e ▸ hp, h⟩
theorem HasVO.mk {ι : Type} {self : ι → Pl} {Pre : ι → Prop} {args : ι → List Ty} {oc : ι → Oc} (cl : ∀ w, Cls K (c.of w)) (hm : ∀ w, Meth K (c.of w) m f) (hb : Binds K fd ps []) (F : FnOk P w K mg base (CXL P w) k f fd ps (OSp Pre (fun z => ⟨rWk K c, self z⟩ :: args z) oc)) : HasVO P w K mg base c m k self Pre args oc := fun y hp =>
  (HasM.mk0 (cl _) (hm _) hb F).sub (Nat.le_refl _) fun vs H Q ⟨z, G, e, h⟩ => ⟨z, G, e ▸ hp, h⟩
end
end Hf

namespace Hf
open PySem PySem.Spec PyProof.Rows L2 ClX
theorem nn_wk {K : PySem.W.Frag} {c : WC} : NN (rWk K c) := ⟨fun G v a h => by obtain ⟨p, _, _, _, e, _⟩ := WkAt.obj h; rw [e]; simp⟩
theorem nn_pl {K : PySem.W.Frag} : NN (rPl K) := ⟨fun G v a h => by obtain ⟨p, _, e, _⟩ := PlAt.three h; rw [e]; simp⟩
section
variable {X : Cx} {E : Ent} {Γ Γ' Γ1 Γ2 : List Slot} {D : Ends} {e f g o : Expr} {es : List Expr} {rest : List Stmt} {pos p p2 apos cpos : Pos} {α β γ ι : Type} {r : Rp α} {x : α} {as : List α}
/-- xs.pop(0) of a list that isn't empty -/
theorem em_popH (i : Nat) {d : α} {a : Str} {pq : Option Addr} {k : Nat} {cp : Pos} (hn : as ≠ []) (hg : Γ[i]? = some (.ow (oLst r as) pq))
    (hpe : PE X (.Call (.Attribute (.Name a p) "pop" apos) [.Constant (.int 0) k cp] [] cpos) (tBM X.K "list" rPopAt (tVar i) (tCons (WE X (.Constant (.int 0) k cp)) tNil)) := by exact pe_bm PySem.F.plainAttrs_list PySem.F.slot_list_pop PySem.F.type_list_pop mt_popAt (pv _) (pa_cons WE.pe pa_nil)) :
    EvM X Γ (Γ.set i (.ow (oLst r as.tail) pq)) (.Call (.Attribute (.Name a p) "pop" apos) [.Constant (.int 0) k cp] [] cpos) r (as.headD d) := by
  cases as with
  | nil => exact absurd rfl hn
  | cons b l => exact em_pop0 (x := b) (as := l) i hg hpe
theorem bk_setMg (i : Nat) {a : Str} {p : Pos} (nd : X.N.Nodup) (he : EvM X Γ Γ' e r x) (k : ∀ y, y = x → Bk X E (Γ'.set i (.sh r y)) rest D) (hi : X.N[i]? = some a := by rfl) (hx : Loc X.env.scope a := by first | exact Or.inl rfl | exact Or.inr rfl)
    (hs : swapsWith e (some (.Name a p)) pos.line X.env = pure false := by rfl) (hf : X.fn a = true ∨ X.env.scope.names.lookup a = some .local := by first | exact .inl rfl | exact .inr rfl) : Bk X E Γ (.Assign [.Name a p] e pos :: rest) D := bk_setM i nd he (k x rfl) hi hx hs hf
end
end Hf

namespace Hf
open PySem PySem.Spec PyProof.Rows L2 ClX

/-! ### an object of one's own that an expression only looks at -/
def notTup : HO → Prop
  | .tup _ => False
  | .frz _ _ => False
  | _ => True
/-- what r tells does not hang on a list, a dict, an instance -/
def Thin {α : Type} (r : Rp α) (x : α) : Prop := ∀ (G : Hp) (p : Addr) (o : HO) (v : V), notTup o → r.rel (upd G p o) v x → r.rel G v x
theorem thin_int {i : Int} : Thin rInt i := fun _ _ _ _ _ h => h
theorem thin_bool {i : Bool} : Thin rBool i := fun _ _ _ _ _ h => h
theorem thin_str {i : Str} : Thin rStr i := fun _ _ _ _ _ h => h
theorem thin_non {i : Unit} : Thin rNon i := fun _ _ _ _ _ h => h
theorem thin_opt {α : Type} {r : Rp α} (h : ∀ x, Thin r x) {o : Option α} : Thin (rOpt r) o := fun G p ob v n k => by
  cases o with
  | none => exact k
  | some a => exact h a G p ob v n k
theorem sqT_thin {K : PySem.W.Frag} {G : Hp} {p : Addr} {o : HO} {a : Addr} {vs : List V} (n : notTup o) (h : SqT K (upd G p o) a vs) : SqT K G a vs := by
  rcases h with (h | ⟨ob, h⟩) | h
  · by_cases e : a = p
    · subst e; rw [upd_same] at h; cases h; exact n.elim
    · rw [upd_ne e] at h; exact .inl (.inl h)
  · by_cases e : a = p
    · subst e; rw [upd_same] at h; cases h; exact n.elim
    · rw [upd_ne e] at h; exact .inl (.inr ⟨ob, h⟩)
  · exact .inr h
theorem thin_T2 {K : PySem.W.Frag} {α β : Type} {r : Rp α} {s : Rp β} {x : α × β} (h1 : Thin r x.1) (h2 : Thin s x.2) : Thin (rT2 K r s) x := fun G p o v n ⟨a, y, z, e, k1, k2, k3⟩ => ⟨a, y, z, e, sqT_thin n k1, h1 G p o y n k2, h2 G p o z n k3⟩
def Oc.flat (c : Oc) : Prop := ∀ G o, c.rel G o → notTup o
theorem flat_lst {α : Type} {r : Rp α} {as : List α} : (oLst r as).flat := fun G o ⟨vs, e, _⟩ => by subst e; trivial
theorem flat_ins {C : Addr} {ns : List Str} {ts : List Ty} : (oIns C ns ts).flat := fun G o ⟨dx, vs, e, _⟩ => by subst e; trivial
def cutG (G : Hp) (p : Addr) : Hp := fun a => if a = p then none else G a
theorem cutG_upd {G : Hp} {p : Addr} {o : HO} (h : G p = some o) : upd (cutG G p) p o = G := by
  funext a
  by_cases e : a = p
  · subst e; rw [upd_same, h]
  · rw [upd_ne e]; unfold cutG; rw [if_neg e]
theorem look_holds {E : Ent} {G H : Hp} {σ : L2.St} {Γ Γ1 : List Slot} {α : Type} {r : Rp α} {x : α} {c : Oc} {q : Option Addr} {i : Nat} (hh : Holds E G H σ Γ) (hg : Γ[i]? = some (.ow c q)) (fz : Frz c r x) (l : Γ1.length = Γ.length)
    (w : ∀ (j : Nat) (s : Slot), Γ1[j]? = some s → s = .no ∨ (j = i ∧ s = .sh r x) ∨ (s.isOw = false ∧ Γ[j]? = some s)) :
    ∃ p o, H p = some o ∧ G p = none ∧ c.rel G o ∧ Holds { G := upd G p o, H := H } (upd G p o) H σ Γ1 := by
  obtain ⟨p, ob, h1, h2, h3, h4, h5⟩ := hh.ow hg
  have gx : Ex G (upd G p ob) := Evl.Ex.new h2
  have gh : Ex (upd G p ob) H := fun a u z => by
    by_cases e : a = p
    · subst e; rw [upd_same] at z; cases z; exact h4
    · rw [upd_ne e] at z; exact hh.le.gh a u z
  refine ⟨p, ob, h4, h2, h5, LeE.start gh, (fun a u z => by cases z), by rw [l]; exact hh.len, fun j s e => ?_, fun j1 j2 s t e1 e2 o1 o2 z => ?_⟩
  · rcases w j s e with rfl | ⟨rfl, rfl⟩ | ⟨o1, e'⟩
    · trivial
    · exact ⟨_, h1, fz G p ob h2 h5⟩
    · have z := hh.ok j s e'
      cases s with
      | no => trivial
      | sh r' a' =>
        obtain ⟨v, z1, z2⟩ := z
        exact ⟨v, z1, r'.mono gx z2⟩
      | ow c' q' => cases o1
  · rcases w j1 s e1 with rfl | ⟨rfl, rfl⟩ | ⟨n1, _⟩
    · cases o1
    · cases o1
    · rw [n1] at o1; cases o1
theorem look_le {G H G' H' : Hp} {p : Addr} {o : HO} (hp : H p = some o) (hn : G p = none) (l : Le (upd G p o) H G' H') : Le G H (cutG G' p) H' ∧ G' p = some o := by
  have gp : G' p = some o := l.g p o upd_same
  refine ⟨⟨fun a u z => ?_, l.h, fun a u z => ?_, fun a u z1 z2 => ?_⟩, gp⟩
  · have ne : a ≠ p := fun w => by subst w; rw [hn] at z; cases z
    unfold cutG
    rw [if_neg ne]
    exact l.g a u (by rw [upd_ne ne]; exact z)
  · unfold cutG at z
    split at z
    · cases z
    · exact l.gh a u z
  · unfold cutG at z1
    split at z1
    · cases z1
    · rename_i ne
      exact l.new a u z1 (by rw [upd_ne ne]; exact z2)
section
variable {X : Cx} {E : Ent} {Γ Γ' Γ1 Γ2 : List Slot} {D : Ends} {e f g o : Expr} {es : List Expr} {rest : List Stmt} {pos p p2 apos cpos : Pos} {α β γ ι : Type} {r : Rp α} {x : α} {s : Rp β} {y : β} {as : List α}
theorem ev_look (i : Nat) {c : Oc} {q : Option Addr} (hg : Γ[i]? = some (.ow c q)) (fl : c.flat) (fz : Frz c r x) (l : Γ1.length = Γ.length) (w : ∀ (j : Nat) (s : Slot), Γ1[j]? = some s → s = .no ∨ (j = i ∧ s = .sh r x) ∨ (s.isOw = false ∧ Γ[j]? = some s))
    (th : Thin s y) (he : Ev X Γ1 e s y) : Ev X Γ e s y := fun E G H σ hh Q k => by
  obtain ⟨p, o, h1, h2, h3, h4⟩ := look_holds hh hg fz l w
  refine he _ _ _ σ h4 Q fun v G' H' l' r' => ?_
  obtain ⟨l2, gp⟩ := look_le h1 h2 l'
  refine k v (cutG G' p) H' l2 (th _ p o v (fl _ _ h3) ?_)
  rw [cutG_upd gp]
  exact r'
theorem et_look (i : Nat) {c : Oc} {q : Option Addr} {b : Bool} (hg : Γ[i]? = some (.ow c q)) (fz : Frz c r x) (l : Γ1.length = Γ.length) (w : ∀ (j : Nat) (s : Slot), Γ1[j]? = some s → s = .no ∨ (j = i ∧ s = .sh r x) ∨ (s.isOw = false ∧ Γ[j]? = some s))
    (he : EvT X Γ1 e b) : EvT X Γ e b := fun E G H σ hh Q k => by
  obtain ⟨p, o, h1, h2, h3, h4⟩ := look_holds hh hg fz l w
  exact he _ _ _ σ h4 Q fun G' H' l' => k (cutG G' p) H' (look_le h1 h2 l').1
/-- how the slots are seen: lists alike but at i, where the own thing is read; other own things left out -/
def lookS (Γ : List Slot) (i : Nat) (s : Slot) : List Slot := (Γ.map fun t => match t with | .ow _ _ => Slot.no | t => t).set i s
theorem lookS_len {i : Nat} {s : Slot} : (lookS Γ i s).length = Γ.length := by simp [lookS]
theorem lookS_ok {i : Nat} : ∀ (j : Nat) (s : Slot), (lookS Γ i (.sh r x))[j]? = some s → s = .no ∨ (j = i ∧ s = .sh r x) ∨ (s.isOw = false ∧ Γ[j]? = some s) := fun j s h => by
  unfold lookS at h
  rcases get_set h with ⟨rfl, rfl⟩ | ⟨n, h⟩
  · exact .inr (.inl ⟨rfl, rfl⟩)
  · rw [List.getElem?_map] at h
    cases e : Γ[j]? with
    | none => rw [e] at h; cases h
    | some t =>
      rw [e] at h
      cases t with
      | no => cases h; exact .inl rfl
      | sh r' a => cases h; exact .inr (.inr ⟨rfl, rfl⟩)
      | ow c q => cases h; exact .inl rfl
theorem ev_lookS (i : Nat) {c : Oc} {q : Option Addr} (hg : Γ[i]? = some (.ow c q)) (fl : c.flat) (fz : Frz c r x) (th : Thin s y) (he : Ev X (lookS Γ i (.sh r x)) e s y) : Ev X Γ e s y := ev_look i hg fl fz lookS_len lookS_ok th he
theorem et_lookS (i : Nat) {c : Oc} {q : Option Addr} {b : Bool} (hg : Γ[i]? = some (.ow c q)) (fz : Frz c r x) (he : EvT X (lookS Γ i (.sh r x)) e b) : EvT X Γ e b := et_look i hg fz lookS_len lookS_ok he
theorem bk_lookS (i : Nat) {c : Oc} {q : Addr} (hg : Γ[i]? = some (.ow c (some q))) (fz : Frz c r x) (hD : ∀ G H σ, Holds E G H σ Γ → ∀ σ' H', Ex H H' → D.nx σ' H')
    (k : ∀ E1 : Ent, (∀ σ' G' H', LeE E1.G E1.H E1.M G' H' → D.nx σ' H') → Bk X E1 (lookS Γ i (.sh r x)) rest D) : Bk X E Γ rest D := bk_look i hg fz lookS_len lookS_ok hD k
end
/-! ### what makes a work -/
def letters : Str := "abcdefghijklmnopqrstuvwxyz"
def isNameB (name : Str) : Bool := (true && ((decide ((1 : Int) ≤ (name.length : Int)) && decide ((name.length : Int) ≤ (8 : Int))) && ((signs name).map fun q => inS q letters).all id))
def arePartsB (parts : List (Int × Pl)) : Bool := (decide (1 ≤ parts.length ∧ parts.length ≤ 6)) && parts.all fun q => isNum q.1 1 100
structure LotOk (row : Bool) (n : Str) (ps : List (Int × Pl)) : Prop where
  name : isNameB n = true
  parts : arePartsB ps = true
  nodup : (Pl.lot row n ps).names.Nodup
  count : (Pl.lot row n ps).names.length ≤ 20
  deep : (Pl.lot row n ps).depth ≤ 5
def StOk (s : Option Int) : Prop := ∀ i, s = some i → isNum i 1 1000 = true
end Hf

namespace Hf
open PySem PySem.Spec PyProof.Rows L2 ClX
/-! ### a value that is known itself; a list that is new since G0 -/
def rEx {α : Type} (r : Rp α) (v0 : V) : Rp α := ⟨fun G v a => v = v0 ∧ r.rel G v a, fun e ⟨h, k⟩ => ⟨h, r.mono e k⟩⟩
def rNw (G0 : Hp) {α : Type} (r : Rp α) : Rp (List α) := ⟨fun G v as => ∃ p vs, v = .ref p ∧ G0 p = none ∧ G p = some (.lst vs) ∧ All2 r G vs as, fun e ⟨p, vs, h, h0, k, a⟩ => ⟨p, vs, h, h0, e _ _ k, a.mono e⟩⟩
section
variable {X : Cx} {E : Ent} {Γ Γ' Γ1 Γ2 : List Slot} {D : Ends} {e f g o : Expr} {es : List Expr} {rest : List Stmt} {pos p p2 apos cpos : Pos} {α β γ ι : Type} {r : Rp α} {x : α} {s : Rp β} {y : β} {as : List α} {v0 v1 : V}
theorem Ev.ex (h : Ev X Γ e (rEx r v0) x) : Ev X Γ e r x := fun E G H σ hh Q q => h E G H σ hh Q fun v G' H' l k => q v G' H' l k.2
theorem Ev.nw {G0 : Hp} (h : Ev X Γ e (rNw G0 r) as) : Ev X Γ e (rLst r) as := fun E G H σ hh Q q => h E G H σ hh Q fun v G' H' l ⟨p, vs, h1, h0, h2, h3⟩ => q v G' H' l ⟨p, vs, h1, h2, h3⟩
/-- from here on the first two slots' values are known themselves -/
theorem bk_open2 {rest' : List Slot} (hΓ : Γ = .sh r x :: .sh s y :: rest') (ho : ∀ t ∈ rest', t = .no)
    (k : ∀ (E1 : Ent) (v0 v1 : V), (∀ G' H', LeE E1.G E1.H E1.M G' H' → LeE E.G E.H E.M G' H') → (∀ a, ¬ E1.M a) → r.rel E1.G v0 x → s.rel E1.G v1 y → Bk X E1 (.sh (rEx r v0) x :: .sh (rEx s v1) y :: rest') rest D) : Bk X E Γ rest D := fun G H σ hh => by
  subst hΓ
  obtain ⟨v0, a1, a2⟩ := hh.sh (i := 0) rfl
  obtain ⟨v1, b1, b2⟩ := hh.sh (i := 1) rfl
  refine k { G := G, H := H } v0 v1 (fun G' H' l => hh.le.step (l.le fun _ z => z)) (fun _ z => z) a2 b2 G H σ ⟨LeE.start hh.le.gh, (fun a o z => by cases z), hh.len, fun i t e => ?_, fun i j t u e1 e2 o1 o2 z => ?_⟩
  · match i, e with
    | 0, e => cases e; exact ⟨v0, a1, rfl, a2⟩
    | 1, e => cases e; exact ⟨v1, b1, rfl, b2⟩
    | i + 2, e =>
      have z := ho t (List.mem_of_getElem? (by simpa using e))
      subst z
      trivial
  · match i, e1 with
    | 0, e1 => cases e1; cases o1
    | 1, e1 => cases e1; cases o1
    | i + 2, e1 =>
      have z := ho t (List.mem_of_getElem? (by simpa using e1))
      subst z
      cases o1
/-- x = e, a new list that is frozen; that it is new is kept -/
theorem bk_setN (i : Nat) {a : Str} {p : Pos} (nd : X.N.Nodup) (he : EvO X Γ e (oLst r as)) (k : Bk X E (Γ.set i (.sh (rNw E.G r) as)) rest D) (hi : X.N[i]? = some a := by rfl) (hx : Loc X.env.scope a := by first | exact Or.inl rfl | exact Or.inr rfl)
    (hs : swapsWith e (some (.Name a p)) pos.line X.env = pure false := by rfl) (hf : X.fn a = true ∨ X.env.scope.names.lookup a = some .local := by first | exact .inl rfl | exact .inr rfl) : Bk X E Γ (.Assign [.Name a p] e pos :: rest) D :=
  bk_of (ps_set nd hi hx WE.pe hs hf) fun G H σ hh => he E G H σ hh _ fun q o G1 H1 n l1 g1 h1 ⟨vs, e1, c1⟩ => by
    subst e1
    have g0 : E.G q = none := Evl.fresh_back (hh.le.g.trans hh.le.gh) n
    exact k (upd G1 q (.lst vs)) H1 _ ((hh.step (l1.frz h1 n g1)).set_sh ⟨q, vs, rfl, g0, upd_same, c1.mono (Evl.Ex.new g1)⟩)
/-- the new list is one's own again: what the first two slots hold is older -/
theorem bk_reown (i : Nat) {n : Nat} (hm : ∀ a, ¬ E.M a) (h0 : Γ[0]? = some (.sh (rEx r v0) x)) (h1 : Γ[1]? = some (.sh (rEx s v1) y)) {as : List γ} {t : Rp γ} (hi : Γ[i + 2]? = some (.sh (rNw E.G t) as)) (r0 : r.rel E.G v0 x) (r1 : s.rel E.G v1 y) (hl : Γ.length = n + 2) (hin : i < n)
    (k : ∀ (E1 : Ent) (p : Addr) (vs : List V), (∀ G' H', LeE E1.G E1.H E1.M G' H' → LeE E.G E.H E.M G' H') → Bk X E1 (.sh r x :: .sh s y :: (List.replicate n Slot.no).set i (.ow (oLst rV vs) (some p))) rest D) : Bk X E Γ rest D := fun G H σ hh => by
  obtain ⟨w0, a1, a2, _⟩ := hh.sh h0
  obtain ⟨w1, b1, b2, _⟩ := hh.sh h1
  obtain ⟨w2, c1, p, vs, c2, c3, c4, c5⟩ := hh.sh hi
  subst a2 b2 c2
  have hp : H p = some (.lst vs) := hh.le.gh _ _ c4
  have e0 : E.H p = none := hh.le.new p _ c4 c3
  have all : ∀ vs : List V, All2 rV E.G vs vs := fun vs => by
    induction vs with
    | nil => exact .nil
    | cons v l ih => exact .cons rfl ih
  refine k { G := E.G, H := H, M := fun a => a = p } p vs (fun G' H' l => ⟨l.g, fun a o z => ?_, l.gh, fun a o z1 z2 => ?_, fun a z => absurd z (hm a)⟩) E.G H σ ⟨⟨.refl _, fun a o z => ?_, hh.le.g.trans hh.le.gh, fun a o z1 z2 => ?_, fun a z => ?_⟩, (fun a o z => by cases z), ?_, fun j u e => ?_, fun j1 j2 u u' e1 e2 o1 o2 z => ?_⟩
  · have ne : a ≠ p := fun w => by subst w; rw [e0] at z; cases z
    have hz : H a = some o := by
      rcases hh.le.h a o z with ⟨_, w⟩ | ⟨m, _⟩
      · exact w
      · exact absurd m (hm a)
    rcases l.h a o hz with ⟨_, w⟩ | ⟨m, _⟩
    · exact .inl ⟨hm a, w⟩
    · exact absurd m ne
  · exact hh.le.fresh (l.new a o z1 z2)
  · by_cases w : a = p
    · exact .inr ⟨w, o, z⟩
    · exact .inl ⟨w, z⟩
  · change E.G a = some o at z1
    change E.G a = none at z2
    rw [z1] at z2
    cases z2
  · subst z
    exact ⟨c3, _, hp⟩
  · rw [hh.len, hl]
    simp
  · match j, e with
    | 0, e => cases e; exact ⟨_, a1, r0⟩
    | 1, e => cases e; exact ⟨_, b1, r1⟩
    | j + 2, e =>
      simp only [List.getElem?_cons_succ] at e
      rcases get_set e with ⟨rfl, rfl⟩ | ⟨ne, e⟩
      · exact ⟨p, _, c1, c3, ⟨rfl, rfl⟩, hp, vs, rfl, all vs⟩
      · have z := List.mem_of_getElem? e
        rw [List.mem_replicate] at z
        rw [z.2]
        trivial
  · have only : ∀ (j : Nat) (u : Slot), (Slot.sh r x :: Slot.sh s y :: (List.replicate n Slot.no).set i (.ow (oLst rV vs) (some p)))[j]? = some u → u.isOw = true → j = i + 2 := fun j u e o => by
      match j, e with
      | 0, e => cases e; cases o
      | 1, e => cases e; cases o
      | j + 2, e =>
        simp only [List.getElem?_cons_succ] at e
        rcases get_set e with ⟨rfl, rfl⟩ | ⟨ne, e⟩
        · rfl
        · have z := List.mem_of_getElem? e
          rw [List.mem_replicate] at z
          rw [z.2] at o
          cases o
    rw [only j1 u e1 o1, only j2 u' e2 o2]
end
end Hf

namespace Hf
open PySem PySem.Spec PyProof.Rows L2

/-! ### cells, numbers -/
theorem cell_ne {l : List Int} (h : PyData.eqv (pdInts l) (pdInts []) = false) : 0 < (l.length : Int) := by
  rw [pdInts_eqv] at h
  cases l with
  | nil => simp at h
  | cons a l => simp
theorem ifB_t {α : Type} {p : Bool} {x y : α} (h : p = true) : x = if p = true then x else y := (if_pos h).symm
theorem ifB_f {α : Type} {p : Bool} {x y : α} (h : p = false) : y = if p = true then x else y := (if_neg (by rw [h]; simp)).symm
theorem range_mem {n : Nat} {x : Int} (h : x ∈ rangeL 0 n) : 0 ≤ x ∧ x < (n : Int) := by
  obtain ⟨i, hi, rfl⟩ := List.mem_map.mp h
  have := List.mem_range.mp hi
  omega
theorem range_k {n : Nat} {x : Int} (h : x ∈ rangeL 0 n) : 0 ≤ x := (range_mem h).1
theorem range_at {n i : Nat} {x : Int} (h : (rangeL 0 n)[i]? = some x) : i < n ∧ x = (i : Int) := by
  have lt : i < n := by
    have z := (List.getElem?_eq_some_iff.mp h).1
    simpa [rangeL] using z
  refine ⟨lt, ?_⟩
  rw [rangeL, List.getElem?_map, List.getElem?_range lt] at h
  have z : x = 0 + (i : Int) := (Option.some.inj h).symm
  omega
def restOf (cell : Int) : Int := if decide (cell < 1000000000000000000) = true then ((cell % 2147483647) * 48271 + 12345) ^ (5 : Int).toNat / 1013 else cell
def numStep (s : Int × List Int) (b : Int) : Int × List Int := (s.1 / b, s.2 ++ [s.1 % b])
def numbersL (cell : Int) (bounds : List Int) : List Int := (bounds.foldl numStep (restOf cell, [])).2
theorem num_fold : ∀ (bs : List Int) (s : Int × List Int), (bs.foldl numStep s).2.length = s.2.length + bs.length
  | [], s => by simp
  | b :: bs, s => by
    rw [List.foldl_cons, num_fold bs]
    simp [numStep]
    omega
theorem num_len {bs : List Int} (h : bs.length ≤ 1000) {i : Nat} {b : Int} (m : bs[i]? = some b) {s : Int × List Int} {r : Int} (e : s = (bs.take i).foldl numStep (r, [])) : s.2.length + 1 ≤ 100000 := by
  rw [e, num_fold]
  simp only [List.length_nil, List.length_take]
  omega
theorem restOf_nn (c : Int) : 0 ≤ restOf c := by
  unfold restOf
  split
  · refine Int.ediv_nonneg ?_ (by decide)
    refine Int.pow_nonneg ?_
    have := Int.emod_nonneg c (by decide : (2147483647 : Int) ≠ 0)
    omega
  · rename_i h
    simp at h
    omega
/-! ### digits of works: three each -/
def Al : List Int → Prop
  | [] => True
  | a :: b :: c :: l => (0 ≤ a ∧ a < 4) ∧ (0 ≤ b ∧ b < 5) ∧ (0 ≤ c ∧ c < 8) ∧ Al l
  | _ => False
theorem Al.append : ∀ {l m : List Int}, Al l → Al m → Al (l ++ m)
  | [], _, _, h => h
  | [_], _, h, _ => h.elim
  | [_, _], _, h, _ => h.elim
  | a :: b :: c :: l, m, h, k => ⟨h.1, h.2.1, h.2.2.1, Al.append h.2.2.2 k⟩
theorem Al.three {l : List Int} (h : Al l) (n : l ≠ []) : ∃ a b c m, l = a :: b :: c :: m ∧ (0 ≤ a ∧ a < 4) ∧ (0 ≤ b ∧ b < 5) ∧ (0 ≤ c ∧ c < 8) ∧ Al m := by
  match l, h, n with
  | a :: b :: c :: m, h, _ => exact ⟨a, b, c, m, rfl, h⟩
theorem al_nine (c : Int) : Al (numbersL c (repL [4, 5, 8] 3)) := by
  have e : numbersL c (repL [4, 5, 8] 3) = [restOf c % 4, restOf c / 4 % 5, restOf c / 4 / 5 % 8, restOf c / 4 / 5 / 8 % 4, restOf c / 4 / 5 / 8 / 4 % 5, restOf c / 4 / 5 / 8 / 4 / 5 % 8,
      restOf c / 4 / 5 / 8 / 4 / 5 / 8 % 4, restOf c / 4 / 5 / 8 / 4 / 5 / 8 / 4 % 5, restOf c / 4 / 5 / 8 / 4 / 5 / 8 / 4 / 5 % 8] := rfl
  rw [e]
  generalize restOf c = r
  have m4 : ∀ x : Int, 0 ≤ x % 4 ∧ x % 4 < 4 := fun x => by omega
  have m5 : ∀ x : Int, 0 ≤ x % 5 ∧ x % 5 < 5 := fun x => by omega
  have m8 : ∀ x : Int, 0 ≤ x % 8 ∧ x % 8 < 8 := fun x => by omega
  exact ⟨m4 _, m5 _, m8 _, m4 _, m5 _, m8 _, m4 _, m5 _, m8 _, trivial⟩
/-! ### the work that is drawn -/
def pickSt : List (Option Int) := [(none : Option Int), (some (1 : Int)), (some (2 : Int)), (some (3 : Int)), (some (5 : Int)), (some (7 : Int)), (some (12 : Int)), (some (1000 : Int))]
def wgt (dg : List Int) : Int := if decide ((dg.getD ((2 : Int)).toNat 0) = (7 : Int)) = true then ((1 : Int) + ((dg.getD ((0 : Int)).toNat 0) * (33 : Int))) else ((1 : Int) + (dg.getD ((0 : Int)).toNat 0))
def stepW (f : List Int → List Str → Pl × List Int × List Str) (s : List (Int × Pl) × List Int × List Str) (_k : Int) : List (Int × Pl) × List Int × List Str :=
  if (decide ((1 : Int) < (s.2.2.length : Int)) && decide ((6 : Int) < (s.2.1.length : Int))) = true then
    (s.1 ++ [((if wgt s.2.1 < (100 : Int) then wgt s.2.1 else (100 : Int)), (f s.2.1 s.2.2).1)], (f s.2.1 s.2.2).2.1, (f s.2.1 s.2.2).2.2) else s
def manyW (dg : List Int) : Int := if decide ((dg.tail.headD 0) < (4 : Int)) = true then ((1 : Int) + (dg.tail.headD 0)) else (6 : Int)
def partsW (f : List Int → List Str → Pl × List Int × List Str) (dg : List Int) (nm : List Str) : List (Int × Pl) × List Int × List Str := (rangeL 0 (manyW dg).toNat).foldl (stepW f) ([], dg.tail.tail.tail, nm.tail)
/-- whether it is a leaf at once -/
def leafW (deep : Int) (dg : List Int) (nm : List Str) : Bool :=
  (decide (deep = (0 : Int)) || (decide ((dg.headD 0) < (2 : Int)) || (decide ((nm.tail.length : Int) < (3 : Int)) || decide ((dg.tail.tail.tail.length : Int) < (12 : Int)))))
def workL : Nat → List Int → List Str → Pl × List Int × List Str
  | 0, dg, nm => (.leaf (nm.headD Str.empty) (pickSt.getD (dg.tail.tail.headD 0).toNat none), dg.tail.tail.tail, nm.tail)
  | d + 1, dg, nm =>
    if leafW ((d : Int) + 1) dg nm = true then (.leaf (nm.headD Str.empty) (pickSt.getD (dg.tail.tail.headD 0).toNat none), dg.tail.tail.tail, nm.tail)
    else if (partsW (workL d) dg nm).1 = [] then (.leaf (nm.headD Str.empty) (some 3), (partsW (workL d) dg nm).2.1, (partsW (workL d) dg nm).2.2)
    else (.lot (decide ((dg.headD 0) % 2 = 0)) (nm.headD Str.empty) (partsW (workL d) dg nm).1, (partsW (workL d) dg nm).2.1, (partsW (workL d) dg nm).2.2)
mutual
def Pl.Fit : Pl → Prop
  | .leaf _ s => StOk s
  | .lot _ _ ps => arePartsB ps = true ∧ Pl.Fits ps
def Pl.Fits : List (Int × Pl) → Prop
  | [] => True
  | (_, w) :: ps => Pl.Fit w ∧ Pl.Fits ps
end
theorem Pl.fits_mem : ∀ {ps : List (Int × Pl)}, Pl.Fits ps ↔ ∀ q ∈ ps, q.2.Fit
  | [] => by simp [Pl.Fits]
  | (i, w) :: ps => by
    simp only [Pl.Fits, Pl.fits_mem (ps := ps), List.mem_cons, forall_eq_or_imp]
theorem Pl.fits_app {ps qs : List (Int × Pl)} (h : Pl.Fits ps) (k : Pl.Fits qs) : Pl.Fits (ps ++ qs) := by
  rw [Pl.fits_mem] at *
  intro q m
  rcases List.mem_append.mp m with m | m
  · exact h q m
  · exact k q m
theorem namess_app (ps qs : List (Int × Pl)) : Pl.namess (ps ++ qs) = Pl.namess ps ++ Pl.namess qs := by
  rw [Pl.namess_eq, Pl.namess_eq, Pl.namess_eq, List.flatMap_append]
theorem depths_app (ps qs : List (Int × Pl)) : Pl.depths (ps ++ qs) = max (Pl.depths ps) (Pl.depths qs) := by
  induction ps with
  | nil => simp [Pl.depths]
  | cons q ps ih => obtain ⟨i, w⟩ := q; simp only [List.cons_append, Pl.depths, ih]; omega
theorem pick_ok {i : Int} (h : 0 ≤ i ∧ i < 8) : StOk (pickSt.getD i.toNat none) := by
  have : i = 0 ∨ i = 1 ∨ i = 2 ∨ i = 3 ∨ i = 4 ∨ i = 5 ∨ i = 6 ∨ i = 7 := by omega
  rcases this with rfl | rfl | rfl | rfl | rfl | rfl | rfl | rfl <;> intro j hj <;> revert hj <;> simp [pickSt] <;> (try (rintro rfl; decide))
/-- what a drawn work is like -/
structure WOk (d : Nat) (nm : List Str) (r : Pl × List Int × List Str) : Prop where
  al : Al r.2.1
  names : r.1.names ++ r.2.2 = nm
  depth : r.1.depth ≤ d + 1
  fit : r.1.Fit
structure PtOk (d : Nat) (i : Nat) (nm : List Str) (s : List (Int × Pl) × List Int × List Str) : Prop where
  al : Al s.2.1
  names : Pl.namess s.1 ++ s.2.2 = nm
  depth : Pl.depths s.1 ≤ d + 1
  fit : Pl.Fits s.1
  len : s.1.length ≤ i
  wg : s.1.all (fun q => isNum q.1 1 100) = true
theorem wgt_pos {dg : List Int} (h : Al dg) (n : dg ≠ []) : 1 ≤ wgt dg := by
  obtain ⟨a, b, c, m, rfl, h1, h2, h3, _⟩ := h.three n
  show 1 ≤ if decide (c = 7) = true then 1 + a * 33 else 1 + a
  split <;> omega
theorem step_ok {d i : Nat} {nm : List Str} {s : List (Int × Pl) × List Int × List Str} {k : Int} (ih : ∀ dg nm, Al dg → dg ≠ [] → nm ≠ [] → WOk d nm (workL d dg nm)) (h : PtOk d i nm s) : PtOk d (i + 1) nm (stepW (workL d) s k) := by
  unfold stepW
  split
  · rename_i c
    simp at c
    have n1 : s.2.1 ≠ [] := fun z => by rw [z] at c; simp at c
    have n2 : s.2.2 ≠ [] := fun z => by rw [z] at c; simp at c
    have W := ih s.2.1 s.2.2 h.al n1 n2
    have wp := wgt_pos h.al n1
    refine ⟨W.al, ?_, ?_, Pl.fits_app h.fit ⟨W.fit, trivial⟩, by simp; exact h.len, ?_⟩
    · rw [namess_app, ← h.names]
      simp only [Pl.namess, List.append_nil, List.append_assoc]
      rw [W.names]
    · rw [depths_app]
      have := h.depth
      have := W.depth
      simp only [Pl.depths]
      omega
    · rw [List.all_append, h.wg]
      simp only [List.all_cons, List.all_nil, Bool.and_true, Bool.true_and, isNum, Bool.and_eq_true, decide_eq_true_eq]
      split <;> omega
  · exact ⟨h.al, h.names, h.depth, h.fit, by have := h.len; omega, h.wg⟩
theorem fold_ok {d : Nat} {nm : List Str} (ih : ∀ dg nm, Al dg → dg ≠ [] → nm ≠ [] → WOk d nm (workL d dg nm)) : ∀ (l : List Int) (i : Nat) (s : List (Int × Pl) × List Int × List Str), PtOk d i nm s → PtOk d (i + l.length) nm (l.foldl (stepW (workL d)) s)
  | [], i, s, h => h
  | k :: l, i, s, h => by
    rw [List.foldl_cons, List.length_cons, show i + (l.length + 1) = (i + 1) + l.length by omega]
    exact fold_ok ih l (i + 1) _ (step_ok ih h)
theorem manyW_le {dg : List Int} (h : Al dg) (n : dg ≠ []) : 1 ≤ manyW dg ∧ manyW dg ≤ 6 := by
  obtain ⟨a, b, c, m, rfl, h1, h2, h3, _⟩ := h.three n
  show 1 ≤ (if decide (b < 4) = true then 1 + b else 6) ∧ (if decide (b < 4) = true then 1 + b else 6) ≤ 6
  simp only [decide_eq_true_eq]
  split <;> omega
theorem work_ok : ∀ (d : Nat) (dg : List Int) (nm : List Str), Al dg → dg ≠ [] → nm ≠ [] → WOk d nm (workL d dg nm)
  | 0, dg, nm, h, n1, n2 => by
    obtain ⟨a, b, c, m, rfl, h1, h2, h3, h4⟩ := h.three n1
    cases nm with
    | nil => exact absurd rfl n2
    | cons x nm => exact ⟨h4, by simp [workL, Pl.names], by simp [workL, Pl.depth], pick_ok h3⟩
  | d + 1, dg, nm, h, n1, n2 => by
    have hm := manyW_le h n1
    have hP : PtOk d (0 + (rangeL 0 (manyW dg).toNat).length) nm.tail (partsW (workL d) dg nm) := by
      refine fold_ok (work_ok d) _ 0 _ ?_
      obtain ⟨a, b, c, m, rfl, h1, h2, h3, h4⟩ := h.three n1
      exact ⟨h4, by simp [Pl.namess], by simp [Pl.depths], trivial, Nat.le_refl _, rfl⟩
    obtain ⟨a, b, c, m, rfl, h1, h2, h3, h4⟩ := h.three n1
    cases nm with
    | nil => exact absurd rfl n2
    | cons x nm =>
      unfold workL
      split
      · exact ⟨h4, by simp [Pl.names], by simp [Pl.depth], pick_ok h3⟩
      · split
        · rename_i e
          have k := hP.names
          rw [e] at k
          refine ⟨hP.al, ?_, by simp [Pl.depth], fun j hj => ?_⟩
          · simp only [Pl.names, List.headD_cons, List.cons_append, List.nil_append]
            simpa [Pl.namess] using k
          · have e3 : (3 : Int) = j := Option.some.inj hj
            rw [← e3]
            decide
        · rename_i e
          have lp : 0 < (partsW (workL d) (a :: b :: c :: m) (x :: nm)).1.length := List.length_pos_iff.mpr e
          have ll := hP.len
          have lr : (rangeL 0 (manyW (a :: b :: c :: m)).toNat).length = (manyW (a :: b :: c :: m)).toNat := by simp [rangeL]
          refine ⟨hP.al, ?_, ?_, ?_, hP.fit⟩
          · have k := hP.names
            simp only [Pl.names, List.headD_cons, List.cons_append]
            rw [k]
            rfl
          · have := hP.depth
            simp only [Pl.depth]
            omega
          · unfold arePartsB
            rw [hP.wg, Bool.and_true]
            exact decide_eq_true (by omega)
end Hf

namespace Hf
open PySem PySem.Spec PyProof.Rows L2 ClX
section
variable {X : Cx} {E : Ent} {Γ Γ' Γ1 Γ2 : List Slot} {D : Ends} {e f g o elt tg iter : Expr} {es : List Expr} {rest : List Stmt} {pos p p2 apos cpos spos : Pos} {α β γ ι : Type} {r : Rp α} {x : α} {s : Rp β} {y : β} {as : List α}
theorem bk_forget (i : Nat) (k : Bk X E (Γ.set i .no) rest D) : Bk X E Γ rest D := fun G H σ hh => k G H σ (hh.forget i)
/-- x = [e for ..], a list that will change -/
theorem bk_setLcm (i : Nat) {y : Str} {py : Pos} {scope : Scope} {U : α → List Slot → List Slot} {val : α → β} (own : List (Str × Nat)) (nd : X.N.Nodup) (hi : EvI X Γ tg iter r as) (ok : BlkOk X.N X.env.scope scope own) (ht : ∀ q, TgOk (blkX X scope q) tg r U (own.map (·.2)))
    (hv : ∀ q, ∀ a ∈ as, Ev (blkX X scope q) (U a (wipeS Γ (own.map (·.2)))) elt s (val a)) (hl : as.length ≤ 100000)
    (k : Bk X E (Γ.set i (.ow (oLst s (as.map val)))) rest D) (hy : X.N[i]? = some y := by rfl) (hyl : X.env.scope.names.lookup y = some .local := by rfl)
    (hsw : swapsWith (.ListComp elt [⟨tg, iter, [], 0⟩] scope pos) (some (.Name y py)) spos.line X.env = pure true := by exact sw_true rfl rfl rfl (by decide +kernel))
    (hc : X.calm = true := by rfl) (hs : ∀ x, foldedSetIterable iter X.env x = pure x := by intro _; rfl) : Bk X E Γ (.Assign [.Name y py] (.ListComp elt [⟨tg, iter, [], 0⟩] scope pos) spos :: rest) D :=
  bk_setLc (keep := fun _ => true) (val := val) i own nd hi ok ht (fun q a m => ets_nil) (fun q a m _ => hv q a m) hl (by rw [filter_tt]; exact k) hy hyl hsw hc hs
end
/-! ### plans -/
def NameOk (n : Str) : Prop := isNameB n = true ∧ n.length ≤ 1000 ∧ NOk n
structure PlanOk (w : Pl) : Prop where
  fit : w.Fit
  names : ∀ n ∈ w.names, NameOk n
  nodup : w.names.Nodup
  count : w.names.length ≤ 20
  deep : w.depth ≤ 5
theorem names_sub {q : Int × Pl} {w : Pl} (h : q ∈ w.parts) : List.Sublist q.2.names w.names := by
  rw [Pl.names_eq w, Pl.namess_eq]
  refine List.Sublist.cons _ ?_
  obtain ⟨a, b, e⟩ := List.append_of_mem h
  rw [e, List.flatMap_append, List.flatMap_cons]
  exact (List.sublist_append_left _ _).trans (List.sublist_append_right _ _)
theorem PlanOk.part {w : Pl} {q : Int × Pl} (h : PlanOk w) (m : q ∈ w.parts) : PlanOk q.2 := by
  have s := names_sub m
  refine ⟨?_, fun n k => h.names n (s.subset k), h.nodup.sublist s, Nat.le_trans s.length_le h.count, by have := Pl.part_depth m; have := h.deep; omega⟩
  have f := h.fit
  cases w with
  | leaf n s => simp [Pl.parts] at m
  | lot r n ps => exact Pl.fits_mem.mp f.2 q m
theorem PlanOk.name {w : Pl} (h : PlanOk w) : NameOk w.name := h.names _ (by rw [Pl.names_eq]; exact List.mem_cons_self)
theorem PlanOk.lot {w : Pl} (h : PlanOk w) {row : Bool} (hr : w = .lot row w.name w.parts) : LotOk row w.name w.parts ∧ w.name.length ≤ 1000 := by
  refine ⟨⟨h.name.1, ?_, ?_, ?_, ?_⟩, h.name.2.1⟩
  · have f := h.fit
    rw [hr] at f
    exact f.1
  · rw [← hr]; exact h.nodup
  · rw [← hr]; exact h.count
  · rw [← hr]; exact h.deep
theorem PlanOk.steps {w : Pl} (h : PlanOk w) : StOk w.steps := by
  have f := h.fit
  cases w with
  | leaf n s => exact f
  | lot r n ps => intro i hi; simp [Pl.steps] at hi
theorem all_ok : ∀ {w : Pl}, (∀ n ∈ w.names, NOk n) → w.Ok := fun {w} => by
  have key : ∀ (d : Nat) (w : Pl), w.depth ≤ d → (∀ n ∈ w.names, NOk n) → w.Ok := fun d => by
    induction d with
    | zero => intro w h; have := Pl.depth_pos w; omega
    | succ d ih =>
      intro w hd hn
      cases w with
      | leaf n s => exact hn n (by simp [Pl.names])
      | lot r n ps =>
        refine ⟨hn n (by simp [Pl.names]), ?_⟩
        have k : ∀ l : List (Int × Pl), (∀ q ∈ l, q.2.Ok) → Pl.Oks l := fun l => by
          induction l with
          | nil => intro _; trivial
          | cons q l ih => intro h; exact ⟨h q List.mem_cons_self, ih fun z m => h z (List.mem_cons_of_mem _ m)⟩
        refine k ps fun q m => ih q.2 ?_ fun n hn' => hn n ?_
        · have := Pl.part_depth (w := .lot r n ps) m
          omega
        · exact (names_sub (w := .lot r _ ps) m).subset hn'
  exact key w.depth w (Nat.le_refl _)
theorem PlanOk.ok {w : Pl} (h : PlanOk w) : w.Ok := all_ok fun n m => (h.names n m).2.2
theorem PlanOk.few {w : Pl} (h : PlanOk w) : w.parts.length ≤ 6 := by
  have f := h.fit
  cases w with
  | leaf n s => simp [Pl.parts]
  | lot r n ps =>
    have := f.1
    unfold arePartsB at this
    have := of_decide_eq_true (Bool.and_eq_true_iff.mp this).1
    exact this.2
/-! ### the names -/
def namesL : List Str := ["a", "row", "leaf", "did", "found", "b", "bundle", "again", "knows", "c", "d", "e", "f", "g", "h", "zzzzzzzz", "j", "k", "l", "m"]
theorem namesL_ok : ∀ n ∈ namesL, NameOk n := by
  have h : (namesL.all fun n => isNameB n && (decide (n.length ≤ 1000) && PyData.strOk n)) = true := by decide +kernel
  intro n m
  have := List.all_eq_true.mp h n m
  simp only [Bool.and_eq_true, decide_eq_true_eq] at this
  exact ⟨this.1, this.2.1, this.2.2⟩
theorem namesL_nodup : namesL.Nodup := by decide +kernel
def turnN (start : Int) : List Str := cutL (cutL namesL (some start) none ++ cutL namesL none (some start)) none (some 16)
theorem turnN_eq {s : Int} (h : 0 ≤ s) : turnN s = (namesL.drop s.toNat ++ namesL.take s.toNat).take 16 := by
  unfold turnN
  rw [cutL_from h, cutL_to h, cutL_to (by decide)]
  rfl
theorem turnN_ok {s : Int} (h : 0 ≤ s) : (turnN s).Nodup ∧ (turnN s).length = 16 ∧ ∀ n ∈ turnN s, NameOk n := by
  have l20 : namesL.length = 20 := by decide
  have pm : (namesL.drop s.toNat ++ namesL.take s.toNat).Perm namesL := (List.perm_append_comm).trans (by rw [List.take_append_drop])
  rw [turnN_eq h]
  refine ⟨(pm.nodup_iff.mpr namesL_nodup).sublist (List.take_sublist _ _), ?_, fun n m => namesL_ok n (pm.mem_iff.mp (List.mem_of_mem_take m))⟩
  rw [List.length_take, pm.length_eq, l20]
  decide
/-! ### the plan -/
def digF (script : List Int) (at_ : Int) (a : List Int) (k : Int) : List Int := a ++ numbersL (cellAt script (at_ + k)) (repL [(4 : Int), (5 : Int), (8 : Int)] (3 : Int))
def digs (script : List Int) (at_ : Int) : List Int := (rangeL 0 ((6 : Int)).toNat).foldl (digF script at_) []
theorem digs_al (script : List Int) (at_ : Int) : Al (digs script at_) ∧ (digs script at_).length = 54 := by
  have l9 : ∀ c, (numbersL c (repL [(4 : Int), (5 : Int), (8 : Int)] (3 : Int))).length = 9 := fun c => by
    unfold numbersL
    rw [num_fold]
    rfl
  have e : rangeL 0 ((6 : Int)).toNat = [0, 1, 2, 3, 4, 5] := rfl
  unfold digs
  rw [e]
  simp only [List.foldl_cons, List.foldl_nil, digF, List.nil_append]
  refine ⟨(((((al_nine _).append (al_nine _)).append (al_nine _)).append (al_nine _)).append (al_nine _)).append (al_nine _), ?_⟩
  simp only [List.length_append, l9]
def digs1 (script : List Int) (at_ : Int) : List Int := (digs script at_).set ((0 : Int)).toNat (if decide ((0 : Int) < cellAt script at_ % (7 : Int)) = true then ((2 : Int) + ((digs script at_).getD ((0 : Int)).toNat 0) % (2 : Int)) else ((digs script at_).getD ((0 : Int)).toNat 0))
theorem digs1_al (script : List Int) (at_ : Int) : Al (digs1 script at_) ∧ digs1 script at_ ≠ [] := by
  obtain ⟨h, l⟩ := digs_al script at_
  have n : digs script at_ ≠ [] := fun z => by rw [z] at l; simp at l
  obtain ⟨a, b, c, m, e, h1, h2, h3, h4⟩ := h.three n
  unfold digs1
  rw [e]
  show Al ((if decide _ = true then 2 + a % 2 else a) :: b :: c :: m) ∧ _
  refine ⟨⟨?_, h2, h3, h4⟩, by simp⟩
  split <;> omega
def planL (script : List Int) (at_ : Int) : Pl := (workL ((3 : Int) + cellAt script (at_ + 6) % 20 % 2).toNat (digs1 script at_) (turnN (cellAt script (at_ + 6) % 20))).1
theorem planL_ok (script : List Int) (at_ : Int) : PlanOk (planL script at_) := by
  have h20 : 0 ≤ cellAt script (at_ + 6) % 20 := Int.emod_nonneg _ (by decide)
  obtain ⟨n1, n2, n3⟩ := turnN_ok h20
  obtain ⟨a1, a2⟩ := digs1_al script at_
  have W := work_ok ((3 : Int) + cellAt script (at_ + 6) % 20 % 2).toNat _ _ a1 a2 (show turnN (cellAt script (at_ + 6) % 20) ≠ [] from fun z => by rw [z] at n2; simp at n2)
  have sub : List.Sublist (planL script at_).names (turnN (cellAt script (at_ + 6) % 20)) := by
    rw [← W.names]
    exact List.sublist_append_left _ _
  refine ⟨W.fit, fun n m => n3 n (sub.subset m), n1.sublist sub, by have := sub.length_le; omega, ?_⟩
  have := W.depth
  show (planL script at_).depth ≤ 5
  have e : (workL ((3 : Int) + cellAt script (at_ + 6) % 20 % 2).toNat (digs1 script at_) (turnN (cellAt script (at_ + 6) % 20))).1 = planL script at_ := rfl
  rw [e] at this
  omega
theorem planL_depth (script : List Int) (at_ : Int) : (planL script at_).depth ≤ 5 := (planL_ok script at_).deep
end Hf

namespace Hf
open PySem PySem.Spec PyProof.Rows L2 ClX
/-! ### for the walk of _law_work -/
theorem leafW_deep {deep : Int} {dg : List Int} {nm : List Str} (h : leafW deep dg nm = false) : deep ≠ 0 := fun z => by
  subst z
  simp [leafW] at h
theorem toNat_pred {deep : Int} (h0 : 0 ≤ deep) (h : deep ≠ 0) : ∃ d : Nat, deep = (d : Int) + 1 ∧ deep.toNat = d + 1 ∧ (deep - 1).toNat = d := ⟨(deep - 1).toNat, by omega, by omega, rfl⟩
theorem work_leaf {deep : Int} {dg : List Int} {nm : List Str} (h0 : 0 ≤ deep) (h : leafW deep dg nm = true) :
    workL deep.toNat dg nm = (.leaf (nm.headD Str.empty) (pickSt.getD (dg.tail.tail.headD 0).toNat none), dg.tail.tail.tail, nm.tail) := by
  by_cases z : deep = 0
  · subst z
    rfl
  · obtain ⟨d, e1, e2, _⟩ := toNat_pred h0 z
    rw [e2]
    unfold workL
    rw [if_pos (by rw [← e1]; exact h)]
theorem work_none {deep : Int} {dg : List Int} {nm : List Str} (h0 : 0 ≤ deep) (h : leafW deep dg nm = false) (e : (partsW (workL (deep - 1).toNat) dg nm).1 = []) :
    workL deep.toNat dg nm = (.leaf (nm.headD Str.empty) (some 3), (partsW (workL (deep - 1).toNat) dg nm).2.1, (partsW (workL (deep - 1).toNat) dg nm).2.2) := by
  obtain ⟨d, e1, e2, e3⟩ := toNat_pred h0 (leafW_deep h)
  rw [e3] at e ⊢
  rw [e2]
  conv => lhs; unfold workL
  rw [if_neg (by rw [← e1, h]; simp), if_pos e]
theorem work_lot {deep : Int} {dg : List Int} {nm : List Str} (h0 : 0 ≤ deep) (h : leafW deep dg nm = false) (e : (partsW (workL (deep - 1).toNat) dg nm).1 ≠ []) :
    workL deep.toNat dg nm = (.lot (decide ((dg.headD 0) % 2 = 0)) (nm.headD Str.empty) (partsW (workL (deep - 1).toNat) dg nm).1, (partsW (workL (deep - 1).toNat) dg nm).2.1, (partsW (workL (deep - 1).toNat) dg nm).2.2) := by
  obtain ⟨d, e1, e2, e3⟩ := toNat_pred h0 (leafW_deep h)
  rw [e3] at e ⊢
  rw [e2]
  conv => lhs; unfold workL
  rw [if_neg (by rw [← e1, h]; simp), if_neg e]
theorem nil_of {ps : List (Int × Pl)} (h : PyData.eqv (.list (pdPs ps)) (.list []) = true) : ps = [] := by
  cases ps with
  | nil => rfl
  | cons q ps => obtain ⟨i, w⟩ := q; simp [pdPs, PyData.eqv, PyData.eqvAll] at h
theorem nil_not {ps : List (Int × Pl)} (h : PyData.eqv (.list (pdPs ps)) (.list []) = false) : ps ≠ [] := fun z => by
  subst z
  simp [pdPs, PyData.eqv, PyData.eqvAll] at h
theorem row_kind (k : Int) (n : Str) (ps : List (Int × Pl)) : [("row" : Str), ("bundle" : Str)].getD (k % 2).toNat Str.empty = (Pl.lot (decide (k % 2 = 0)) n ps).kind := by
  rcases (by omega : k % 2 = 0 ∨ k % 2 = 1) with e | e
  · rw [e]; rfl
  · rw [e]; rfl
theorem lt6 {a b : Nat} (h : (decide ((1 : Int) < (a : Int)) && decide ((6 : Int) < (b : Int))) = true) : 1 < a ∧ 6 < b := by
  simp at h
  omega
structure StW (d i : Nat) (nm : List Str) (s : List (Int × Pl) × List Int × List Str) : Prop where
  pt : PtOk d i nm s
  len : s.1.length + 1 ≤ 100000
  nl : s.2.2.length ≤ nm.length
  nok : (∀ n ∈ nm, NameOk n) → ∀ n ∈ s.2.2, NameOk n
theorem st_of_pt {d i : Nat} {nm : List Str} {s : List (Int × Pl) × List Int × List Str} (h : PtOk d i nm s) (hi : i ≤ 6) : StW d i nm s :=
  ⟨h, by have := h.len; omega, by have z := congrArg List.length h.names; rw [List.length_append] at z; omega, fun k n m => k n (by rw [← h.names]; exact List.mem_append_right _ m)⟩
theorem pt0 {d : Nat} {dg : List Int} {nm : List Str} (h : Al dg) (n : dg ≠ []) : PtOk d 0 nm.tail ([], dg.tail.tail.tail, nm.tail) := by
  obtain ⟨a, b, c, m, rfl, h1, h2, h3, h4⟩ := h.three n
  exact ⟨h4, by simp [Pl.namess], by simp [Pl.depths], trivial, Nat.le_refl _, rfl⟩
theorem work_st {d i : Nat} {dg : List Int} {nm : List Str} {k : Int} (h : Al dg) (n : dg ≠ []) (m : (rangeL 0 (manyW dg).toNat)[i]? = some k) {s : List (Int × Pl) × List Int × List Str} (e : s = ((rangeL 0 (manyW dg).toNat).take i).foldl (stepW (workL d)) ([], dg.tail.tail.tail, nm.tail)) : StW d i nm.tail s := by
  have hi := (range_at m).1
  have hm := manyW_le h n
  have z := fold_ok (work_ok d) ((rangeL 0 (manyW dg).toNat).take i) 0 _ (pt0 (d := d) (nm := nm) h n)
  rw [← e] at z
  have l : ((rangeL 0 (manyW dg).toNat).take i).length = i := by simp [rangeL]; omega
  rw [l, Nat.zero_add] at z
  exact st_of_pt z (by omega)
theorem work_parts {d : Nat} {dg : List Int} {nm : List Str} (h : Al dg) (n : dg ≠ []) (hn : ∀ x ∈ nm, NameOk x) (hd : d ≤ 6) : Pl.Oks (partsW (workL d) dg nm).1 ∧ Pl.depths (partsW (workL d) dg nm).1 ≤ 20 := by
  have z := fold_ok (work_ok d) (rangeL 0 (manyW dg).toNat) 0 _ (pt0 (d := d) (nm := nm) h n)
  refine ⟨?_, Nat.le_trans z.depth (by omega)⟩
  have ok : ∀ l : List (Int × Pl), (∀ q ∈ l, ∀ x ∈ q.2.names, NOk x) → Pl.Oks l := fun l => by
    induction l with
    | nil => intro _; trivial
    | cons q l ih => intro h; exact ⟨all_ok (h q List.mem_cons_self), ih fun y m => h y (List.mem_cons_of_mem _ m)⟩
  refine ok _ fun q m x hx => (hn x (List.mem_of_mem_tail ?_)).2.2
  rw [← z.names]
  refine List.mem_append_left _ ?_
  rw [Pl.namess_eq]
  exact List.mem_flatMap.mpr ⟨q, m, hx⟩
theorem work_pre {deep : Int} {d i : Nat} {nm : List Str} {s : List (Int × Pl) × List Int × List Str} (hst : StW (deep - 1).toNat i nm.tail s) (c : (decide ((1 : Int) < (s.2.2.length : Int)) && decide ((6 : Int) < (s.2.1.length : Int))) = true) (h0 : 0 ≤ deep ∧ deep ≤ 6) (hz : deep ≠ 0) (hd : deep.toNat < d + 1)
    (hl : nm.length ≤ 100) (hn : ∀ x ∈ nm, NameOk x) : (Al s.2.1 ∧ s.2.1 ≠ [] ∧ s.2.2 ≠ [] ∧ (0 ≤ deep - 1 ∧ deep - 1 ≤ 6) ∧ s.2.2.length ≤ 100 ∧ ∀ x ∈ s.2.2, NameOk x) ∧ (deep - 1).toNat < d := by
  have l := lt6 c
  refine ⟨⟨hst.pt.al, fun z => by rw [z] at l; simp at l, fun z => by rw [z] at l; simp at l, by omega, ?_, hst.nok fun x m => hn x (List.mem_of_mem_tail m)⟩, by omega⟩
  have := hst.nl
  rw [List.length_tail] at this
  omega
end Hf
namespace Hf
open PySem PySem.Spec PyProof.Rows L2 ClX
/-! ### for the walk of _law_plan, _law_all -/
theorem nine_pre : (∀ b ∈ repL [(4 : Int), (5 : Int), (8 : Int)] (3 : Int), 0 < b ∧ b < 1073741824) ∧ (repL [(4 : Int), (5 : Int), (8 : Int)] (3 : Int)).length ≤ 1000 := by
  have e : repL [(4 : Int), (5 : Int), (8 : Int)] (3 : Int) = [4, 5, 8, 4, 5, 8, 4, 5, 8] := rfl
  rw [e]
  decide
theorem nine_len (c : Int) : (numbersL c (repL [(4 : Int), (5 : Int), (8 : Int)] (3 : Int))).length = 9 := by
  unfold numbersL
  rw [num_fold]
  rfl
theorem digs_fold (script : List Int) (at_ : Int) : ∀ (l : List Int) (a : List Int), (l.foldl (digF script at_) a).length = a.length + 9 * l.length
  | [], a => by simp
  | k :: l, a => by
    rw [List.foldl_cons, digs_fold script at_ l]
    simp only [digF, List.length_append, nine_len, List.length_cons]
    omega
theorem digs_cat {script : List Int} {at_ k : Int} {i : Nat} (m : (rangeL 0 ((6 : Int)).toNat)[i]? = some k) {s : List Int} (e : s = ((rangeL 0 ((6 : Int)).toNat).take i).foldl (digF script at_) []) {c : Int} : s.length + (numbersL c (repL [(4 : Int), (5 : Int), (8 : Int)] (3 : Int))).length ≤ sizeLine := by
  have hi := (range_at m).1
  rw [e, digs_fold, nine_len, List.length_take]
  simp only [List.length_nil]
  have : ((6 : Int)).toNat = 6 := rfl
  exact Evl.sz_of (by omega)
theorem digs_len {script : List Int} {at_ : Int} : ((rangeL 0 ((6 : Int)).toNat).foldl (digF script at_) []).length = 54 := by
  rw [digs_fold]
  rfl
theorem turn_cat {s c : Int} (h : s = c % 20) : (cutL namesL (some s) none).length + (cutL namesL none (some s)).length ≤ sizeLine := by
  have : 0 ≤ s := by omega
  rw [cutL_from this, cutL_to this, List.length_drop, List.length_take]
  have l20 : namesL.length = 20 := by decide
  exact Evl.sz_of (by omega)
theorem plan_pre {script : List Int} {at_ s : Int} (h : s = cellAt script (at_ + 6) % 20) :
    (Al (digs1 script at_) ∧ digs1 script at_ ≠ [] ∧ turnN s ≠ [] ∧ (0 ≤ (3 : Int) + s % 2 ∧ (3 : Int) + s % 2 ≤ 6) ∧ (turnN s).length ≤ 100 ∧ ∀ x ∈ turnN s, NameOk x) ∧ ((3 : Int) + s % 2).toNat < 6 := by
  have h20 : 0 ≤ s := by omega
  obtain ⟨n1, n2, n3⟩ := turnN_ok h20
  obtain ⟨a1, a2⟩ := digs1_al script at_
  exact ⟨⟨a1, a2, fun z => by rw [z] at n2; simp at n2, by omega, by omega, n3⟩, by omega⟩
theorem plan_pre2 {script : List Int} {at_ v : Int} {s : List Int} (hs : s = (rangeL 0 ((6 : Int)).toNat).foldl (digF script at_) []) (h : v = cellAt script (at_ + 6) % 20) :
    (Al (s.set ((0 : Int)).toNat (if decide ((0 : Int) < cellAt script at_ % (7 : Int)) = true then ((2 : Int) + (s.getD ((0 : Int)).toNat 0) % (2 : Int)) else (s.getD ((0 : Int)).toNat 0))) ∧
      s.set ((0 : Int)).toNat (if decide ((0 : Int) < cellAt script at_ % (7 : Int)) = true then ((2 : Int) + (s.getD ((0 : Int)).toNat 0) % (2 : Int)) else (s.getD ((0 : Int)).toNat 0)) ≠ [] ∧
      turnN v ≠ [] ∧ (0 ≤ (3 : Int) + v % 2 ∧ (3 : Int) + v % 2 ≤ 6) ∧ (turnN v).length ≤ 100 ∧ ∀ x ∈ turnN v, NameOk x) ∧ ((3 : Int) + v % 2).toNat < 6 := by
  subst hs
  exact plan_pre h
theorem all_names : ∀ (w : Pl), w.all.map Pl.name = w.names := fun w => by
  have key : ∀ (d : Nat) (w : Pl), w.depth ≤ d → w.all.map Pl.name = w.names := fun d => by
    induction d with
    | zero => intro w h; have := Pl.depth_pos w; omega
    | succ d ih =>
      intro w hd
      rw [Pl.all_eq, Pl.names_eq, Pl.alls_eq, Pl.namess_eq, List.map_cons, List.map_flatMap]
      congr 1
      have k : ∀ l : List (Int × Pl), (∀ q ∈ l, q.2.depth ≤ d) → (l.flatMap fun a => a.2.all.map Pl.name) = l.flatMap fun q => q.2.names := fun l => by
        induction l with
        | nil => intro _; rfl
        | cons q l ih2 =>
          intro h
          rw [List.flatMap_cons, List.flatMap_cons, ih _ (h q List.mem_cons_self), ih2 fun z m => h z (List.mem_cons_of_mem _ m)]
      exact k _ fun q m => by have := Pl.part_depth m; omega
  exact key w.depth w (Nat.le_refl _)
theorem all_len (w : Pl) : w.all.length = w.names.length := by rw [← all_names, List.length_map]
theorem all_foldl : ∀ (ps : List (Int × Pl)) (a : List Pl), ps.foldl (fun (a : List Pl) (q : Int × Pl) => a ++ q.2.all) a = a ++ Pl.alls ps
  | [], a => by simp [Pl.alls]
  | (i, w) :: ps, a => by
    rw [List.foldl_cons, all_foldl ps]
    simp [Pl.alls]
theorem all_done (w : Pl) : w.all = w.parts.foldl (fun (a : List Pl) (q : Int × Pl) => a ++ q.2.all) [w] := by
  rw [all_foldl, Pl.all_eq]
  rfl
theorem all_leaf {w : Pl} {b : Bool} (h : w.isLeaf = b) (hb : b = true := by rfl) : w.all = [w] := by
  subst hb
  cases w with
  | leaf n s => rfl
  | lot r n ps => simp [Pl.isLeaf] at h
theorem names_foldl' : ∀ (ps : List (Int × Pl)) (a : List Str), ps.foldl (fun (a : List Str) (q : Int × Pl) => a ++ q.2.names) a = a ++ Pl.namess ps
  | [], a => by simp [Pl.namess]
  | (i, w) :: ps, a => by
    rw [List.foldl_cons, names_foldl' ps]
    simp [Pl.namess]
theorem all_fold {w : Pl} {i : Nat} {s : List Pl} (h : s = (w.parts.take i).foldl (fun (a : List Pl) (q : Int × Pl) => a ++ q.2.all) [w]) : s.length ≤ w.names.length := by
  rw [h, all_foldl, ← all_len w, Pl.all_eq w]
  have : (Pl.alls (w.parts.take i)).length ≤ (Pl.alls w.parts).length := by
    rw [Pl.alls_eq, Pl.alls_eq, List.length_flatMap, List.length_flatMap]
    conv => rhs; rw [← List.take_append_drop i w.parts]
    rw [List.map_append, List.sum_append]
    omega
  simp only [List.length_append, List.length_cons, List.length_nil]
  omega
end Hf

namespace Hf
open PySem PySem.Spec PyProof.Rows L2 ClX
/-! ### the end's small words -/
section
variable {P : Program} {w : World} {K : PySem.W.Frag} {mg : Str → Option Value} {base : Heap} {CX : CXT} {f : Addr} {fd : FuncData} {ps : List Str} {k : Nat} {c : WC} {m : Str} {C : Addr} {x : Str}
theorem vac_P {ι α : Type} {Pre : ι → Prop} {args : ι → List Ty} {r : Rp α} {res : ι → α} (h : ∀ y, ¬ Pre y) : ∀ vs H Q E, ¬ PSp Pre args r res vs H Q E := fun vs H Q E ⟨y, _, p, _⟩ => h y p
theorem vac_O {ι : Type} {Pre : ι → Prop} {args : ι → List Ty} {c : ι → Oc} (h : ∀ y, ¬ Pre y) : ∀ vs H Q E, ¬ OSp Pre args c vs H Q E := fun vs H Q E ⟨y, _, p, _⟩ => h y p
theorem vac_M {ι α : Type} {Pre : ι → Prop} {pars : ι → List Par} {r : Rp α} {res : ι → α} {post : ι → List Oc} (h : ∀ y, ¬ Pre y) : ∀ vs H Q E, ¬ MSp Pre pars r res post vs H Q E := fun vs H Q E ⟨y, _, _, p, _⟩ => h y p
theorem HasI.mk0 {sp : Sp} (hm : mg x = some (.ref C)) (mk : Mk K C f) (hb : Binds K fd ps []) (F : FnOk P w K mg base (CXL P w) k f fd ps sp) : HasI P w K mg base x C k sp :=
  ⟨f, fd, ps, sp, [], [], hm, mk, hb, .nil, F, fun vs H Q h => by rw [List.append_nil]; exact h⟩
theorem HasI.mkD {sp spF : Sp} {dvs : List V} (hm : mg x = some (.ref C)) (mk : Mk K C f) (hb : ∃ ds, Vals dvs ds ∧ Binds K fd ps ds) (F : FnOk P w K mg base (CXL P w) k f fd ps spF) (h : ∀ vs H Q, sp vs H Q E0 → spF (vs ++ dvs) H Q E0) : HasI P w K mg base x C k sp := by
  obtain ⟨ds, h1, h2⟩ := hb
  exact ⟨f, fd, ps, spF, dvs, ds, hm, mk, h2, h1, F, h⟩
end
end Hf
namespace Hf
open PySem PySem.Spec PyProof.Rows L2 ClX
section
variable {P : Program} {w : World} {K : PySem.W.Frag} {mg : Str → Option Value} {base : Heap} {f : Addr} {fd : FuncData} {ps : List Str} {k : Nat} {m : Str} {C : Addr} {x : Str}
theorem HasU.mk0 {sp : Sp} (hm : mg x = some (.ref C)) (u : Unb K C m f) (hb : Binds K fd ps []) (F : FnOk P w K mg base (CXL P w) k f fd ps sp) : HasU P w K mg base x C m k sp :=
  ⟨f, fd, ps, sp, [], [], hm, u, hb, .nil, F, fun vs H Q h => by rw [List.append_nil]; exact h⟩
/-- C.m by the class, told by a Bool -/
def unbB (K : PySem.W.Frag) (C : Addr) (m : Str) : Bool := PySem.W.readsIn K C (.type "type") && (He.eqO (PySem.W.specialIn K (.ref C) "__getattribute__") (some (some (.builtin "type.__getattribute__"))) && ((match PySem.W.findCls K (.ref C) (.type "type") m with
  | some (.val (.ref a)) => decide (a = He.ma K C m)
  | _ => false) && PySem.W.keepIn K (.ref (He.ma K C m))))
theorem unb_of (h : unbB K C m = true) : Unb K C m (He.ma K C m) := by
  obtain ⟨h1, h⟩ := He.ba h
  obtain ⟨h2, h⟩ := He.ba h
  obtain ⟨h3, h4⟩ := He.ba h
  refine ⟨⟨.type "type", ⟨h1, He.eqO_ok h2⟩, ?_⟩, h4⟩
  revert h3
  cases e : PySem.W.findCls K (.ref C) (.type "type") m with
  | none => intro z; cases z
  | some r =>
    cases r with
    | val v =>
      cases v with
      | ref a => intro z; rw [of_decide_eq_true z]
      | _ => intro z; cases z
    | _ => intro z; cases z
theorem bAt {l : List Bool} (h : l.all id = true) (i : Nat) {b : Bool} (e : l[i]? = some b) : b = true := List.all_eq_true.mp h b (List.mem_of_getElem? e)
theorem ofW {p : Addr → Prop} {c : WC} (h1 : p c.L) (h2 : p c.R) (h3 : p c.B) : ∀ w, p (c.of w) := fun w => by
  cases w with
  | leaf n s => exact h1
  | lot r n ps =>
    cases r
    · exact h3
    · exact h2
theorem meth_eq {a b : Addr} (h : Meth K C m a) (e : a = b) : Meth K C m b := e ▸ h
theorem mk_eq {a b : Addr} (h : Mk K C a) (e : a = b) : Mk K C b := e ▸ h
/-- isinstance of works -/
def kitB3 (K : PySem.W.Frag) (D : Addr) (b1 b2 b3 : Bool) : Bool := decide (PySem.W.kitOne K (.ref (cW K).L) (.ref D) = some b1) && (decide (PySem.W.kitOne K (.ref (cW K).R) (.ref D) = some b2) && decide (PySem.W.kitOne K (.ref (cW K).B) (.ref D) = some b3))
theorem kit3 {D : Addr} {b1 b2 b3 : Bool} {g : Pl → Bool} (h : kitB3 K D b1 b2 b3 = true) (g1 : ∀ n s, g (.leaf n s) = b1) (g2 : ∀ n ps, g (.lot true n ps) = b2) (g3 : ∀ n ps, g (.lot false n ps) = b3) (w : Pl) : PySem.W.kitOne K (.ref ((cW K).of w)) (.ref D) = some (g w) := by
  obtain ⟨h1, h⟩ := He.ba h
  obtain ⟨h2, h3⟩ := He.ba h
  cases w with
  | leaf n s => rw [g1]; exact of_decide_eq_true h1
  | lot r n ps =>
    cases r
    · rw [g3]; exact of_decide_eq_true h3
    · rw [g2]; exact of_decide_eq_true h2
def clsB (K : PySem.W.Frag) (C : Addr) : Bool := He.eqO (PySem.W.findIn K (.ref C) "__class__") (some (some (.builtin "object.__class__"))) && decide (PySem.W.mroIn K C (.type "object") = some true)
def tyB (K : PySem.W.Frag) : Bool := He.eqO (PySem.W.specialIn K (.builtin "object.__class__") "__get__") (some (some (.builtin "getset_descriptor.__get__"))) && decide (PySem.W.takesIn K (.builtin "object.__class__") = some true)
theorem wcTy_of (h0 : tyB K = true) (h1 : clsB K (cW K).L = true) (h2 : clsB K (cW K).R = true) (h3 : clsB K (cW K).B = true) (k0 : kitB3 K (He.ga K "Work") true true true = true) (k1 : kitB3 K (cW K).L true false false = true) (k2 : kitB3 K (cW K).R false true false = true) (k3 : kitB3 K (cW K).B false false true = true) : WcTy K (cW K) (He.ga K "Work") := by
  obtain ⟨a1, a2⟩ := He.ba h0
  obtain ⟨b1, b2⟩ := He.ba h1
  obtain ⟨c1, c2⟩ := He.ba h2
  obtain ⟨d1, d2⟩ := He.ba h3
  exact ⟨ofW (p := fun C => PySem.W.findIn K (.ref C) "__class__" = some (some (.builtin "object.__class__"))) (He.eqO_ok b1) (He.eqO_ok c1) (He.eqO_ok d1), He.eqO_ok a1, of_decide_eq_true a2,
    ofW (p := fun C => PySem.W.mroIn K C (.type "object") = some true) (of_decide_eq_true b2) (of_decide_eq_true c2) (of_decide_eq_true d2),
    kit3 (g := fun _ => true) k0 (fun _ _ => rfl) (fun _ _ => rfl) (fun _ _ => rfl), kit3 k1 (fun _ _ => rfl) (fun _ _ => rfl) (fun _ _ => rfl), kit3 k2 (fun _ _ => rfl) (fun _ _ => rfl) (fun _ _ => rfl), kit3 k3 (fun _ _ => rfl) (fun _ _ => rfl) (fun _ _ => rfl)⟩
end
end Hf

namespace Hf
open PySem PySem.Spec PyProof.Rows L2 ClX
/-! ### dicts with text keys -/
inductive KvAt {α : Type} (r : Rp α) (G : Hp) : List (Key × V) → List (Str × α) → Prop
  | nil : KvAt r G [] []
  | cons {k : Str} {v : V} {a : α} {kvs : List (Key × V)} {ds : List (Str × α)} : r.rel G v a → KvAt r G kvs ds → KvAt r G ((.inr k, v) :: kvs) ((k, a) :: ds)
def dGet {α : Type} (ds : List (Str × α)) (k : Str) : Option α := (ds.find? fun q => decide (q.1 = k)).map (·.2)
def dPut {α : Type} (ds : List (Str × α)) (k : Str) (a : α) : List (Str × α) :=
  if (ds.any fun q => decide (q.1 = k)) = true then ds.map (fun q => if q.1 = k then (q.1, a) else q) else ds ++ [(k, a)]
section
variable {α : Type} {r : Rp α} {G G' : Hp}
theorem KvAt.mono (e : Ex G G') : ∀ {kvs : List (Key × V)} {ds : List (Str × α)}, KvAt r G kvs ds → KvAt r G' kvs ds
  | _, _, .nil => .nil
  | _, _, .cons h t => .cons (r.mono e h) (KvAt.mono e t)
theorem KvAt.length : ∀ {kvs : List (Key × V)} {ds : List (Str × α)}, KvAt r G kvs ds → kvs.length = ds.length
  | _, _, .nil => rfl
  | _, _, .cons _ t => congrArg (· + 1) (KvAt.length t)
theorem dGet_nil {k : Str} : dGet ([] : List (Str × α)) k = none := rfl
theorem dGet_pos {p : Str × α} {ds : List (Str × α)} {k : Str} (e : p.1 = k) : dGet (p :: ds) k = some p.2 := by simp [dGet, List.find?_cons, e]
theorem dGet_neg {p : Str × α} {ds : List (Str × α)} {k : Str} (e : ¬ p.1 = k) : dGet (p :: ds) k = dGet ds k := by simp [dGet, List.find?_cons, e]
theorem KvAt.get {k : Str} : ∀ {kvs : List (Key × V)} {ds : List (Str × α)}, KvAt r G kvs ds → (valV kvs (.inr k : Key) = none ∧ dGet ds k = none) ∨ ∃ v a, valV kvs (.inr k : Key) = some v ∧ dGet ds k = some a ∧ r.rel G v a
  | _, _, .nil => .inl ⟨rfl, rfl⟩
  | _, _, .cons (k := j) (v := v) (a := a) (kvs := kvs) (ds := ds) h t => by
    by_cases e : j = k
    · subst e
      exact .inr ⟨v, a, valV_pos rfl, dGet_pos rfl, h⟩
    · have e2 : ¬ (Sum.inr j : Key) = .inr k := fun z => e (Sum.inr.inj z)
      rw [valV_neg (p := ((Sum.inr j : Key), v)) e2, dGet_neg (p := (j, a)) e]
      exact KvAt.get t
theorem KvAt.any {k : Str} : ∀ {kvs : List (Key × V)} {ds : List (Str × α)}, KvAt r G kvs ds → (kvs.any fun q => decide (q.1 = (.inr k : Key))) = ds.any fun q => decide (q.1 = k)
  | _, _, .nil => rfl
  | _, _, .cons (k := j) h t => by
    rw [List.any_cons, List.any_cons, KvAt.any t]
    congr 1
    by_cases e : j = k
    · subst e; simp
    · have e2 : ¬ (Sum.inr j : Key) = .inr k := fun z => e (Sum.inr.inj z)
      simp [e, e2]
theorem KvAt.snoc {k : Str} {v : V} {a : α} (h : r.rel G v a) : ∀ {kvs : List (Key × V)} {ds : List (Str × α)}, KvAt r G kvs ds → KvAt r G (kvs ++ [(.inr k, v)]) (ds ++ [(k, a)])
  | _, _, .nil => .cons h .nil
  | _, _, .cons h1 t => .cons h1 (KvAt.snoc h t)
theorem KvAt.map {k : Str} {v : V} {a : α} (h : r.rel G v a) : ∀ {kvs : List (Key × V)} {ds : List (Str × α)}, KvAt r G kvs ds → KvAt r G (kvs.map fun q => if q.1 = (.inr k : Key) then (q.1, v) else q) (ds.map fun q => if q.1 = k then (q.1, a) else q)
  | _, _, .nil => .nil
  | _, _, .cons (k := j) h1 t => by
    rw [List.map_cons, List.map_cons]
    by_cases e : j = k
    · subst e
      simp only [if_true]
      exact .cons h (KvAt.map h t)
    · have e2 : ¬ (Sum.inr j : Key) = .inr k := fun z => e (Sum.inr.inj z)
      rw [if_neg e2, if_neg e]
      exact .cons h1 (KvAt.map h t)
theorem KvAt.put {k : Str} {v : V} {a : α} (h : r.rel G v a) {kvs : List (Key × V)} {ds : List (Str × α)} (t : KvAt r G kvs ds) : KvAt r G (putK kvs (.inr k : Key) v) (dPut ds k a) := by
  unfold putK dPut
  rw [t.any]
  split
  · exact t.map h
  · exact t.snoc h
end
def oDic {α : Type} (r : Rp α) (ds : List (Str × α)) : Oc := ⟨fun G o => ∃ kvs, o = .dK kvs ∧ KvAt r G kvs ds, fun e ⟨kvs, h1, h2⟩ => ⟨kvs, h1, h2.mono e⟩⟩
def rDic {α : Type} (r : Rp α) : Rp (List (Str × α)) := ⟨fun G v ds => ∃ p kvs, v = .ref p ∧ G p = some (.dK kvs) ∧ KvAt r G kvs ds, fun e ⟨p, kvs, h1, h2, h3⟩ => ⟨p, kvs, h1, e _ _ h2, h3.mono e⟩⟩
theorem frz_dic {α : Type} {r : Rp α} {ds : List (Str × α)} : Frz (oDic r ds) (rDic r) ds := fun G a o n ⟨kvs, e, h⟩ => by
  subst e
  exact ⟨a, kvs, rfl, upd_same, h.mono (Evl.Ex.new n)⟩
theorem flat_dic {α : Type} {r : Rp α} {ds : List (Str × α)} : (oDic r ds).flat := fun G o ⟨kvs, e, _⟩ => by subst e; trivial
section
variable {X : Cx} {E : Ent} {Γ Γ' Γ1 Γ2 : List Slot} {D : Ends} {e f g o : Expr} {es : List Expr} {rest : List Stmt} {pos p p2 apos cpos : Pos} {α β γ ι : Type} {r : Rp α} {x : α} {s : Rp β} {y : β} {as : List α} {ds : List (Str × α)} {k : Str} {j : Nat}
theorem Ev.borD (h : Ev X Γ e (rDic r) ds) : EvB X Γ e (oDic r ds) := fun E G H σ hh Q q => h E G H σ hh Q fun v G' H' l ⟨p, kvs, e1, h2, h3⟩ => by
  subst e1
  exact q p _ G' H' l (l.gh _ _ h2) ⟨kvs, rfl, h3⟩
theorem EvO.evD (h : EvO X Γ e (oDic r ds)) : Ev X Γ e (rDic r) ds := fun E G H σ hh Q q => h E G H σ hh Q fun p o G' H' n l g h2 c => q _ (upd G' p o) H' (l.frz h2 n g) (frz_dic G' p o g c)
/-- {} -/
theorem eo_dnew : EvO X Γ (.Dict [] [] pos) (oDic r []) := fun E G H σ hh Q q =>
  WE.of pe_dnewK fun p n => q p _ G _ n ((Le.refl hh.le.gh).addO n) (Evl.fresh_back hh.le.gh n) upd_same ⟨[], rfl, .nil⟩
/-- dict(d) -/
theorem eo_dictOf (h : EvB X Γ e (oDic r ds)) (hm : X.mg "dict" = none) (hg : Gl X "dict" := by rfl) (he : starEach (e :: []) X.env = (false, eval e X.env) :: starEach [] X.env := by rfl) (hpl : (backTo pos (starEach [] X.env)).any (·.1) = false := by rfl) : EvO X Γ (.Call (.Name "dict" p) [e] [] pos) (oDic r ds) := fun E G H σ hh Q q =>
  WE.of (pe_callTy call_dictD hg hm (by decide +kernel) (pa_cons WE.pe pa_nil he) (he := he) (hpl := hpl)) (h E G H σ hh _ fun p o G1 H1 l1 hp ⟨kvs, e1, ha⟩ => by
    subst e1
    exact ⟨p, kvs, rfl, .inl hp, fun p3 n => q p3 _ G1 _ (Evl.fresh_back l1.h n) (l1.addO n) (Evl.fresh_back l1.gh n) upd_same ⟨kvs, rfl, ha⟩⟩)
/-- d.get(k, x) -/
theorem ev_dgetD (hr : Room j X.A) (h : EvB X Γ e (oDic r ds)) (hk : Ev X Γ f rStr k) (hx : Ev X Γ g r x)
    (hpe : PE X (.Call (.Attribute e "get" apos) [f, g] [] cpos) (tDGet2 (WE X e) (WE X f) (WE X g)) := by exact pe_dget2 (hu_of hr) WE.pe WE.pe WE.pe ⟨rfl, rfl, rfl, rfl⟩) : Ev X Γ (.Call (.Attribute e "get" apos) [f, g] [] cpos) r ((dGet ds k).getD x) := fun E G H σ hh Q q =>
  WE.of hpe (h E G H σ hh _ fun p o G1 H1 l1 hp ⟨kvs, e1, ha⟩ => by
    subst e1
    refine ⟨p, rfl, .inl ⟨kvs, .inl hp⟩, hk E G1 H1 σ (hh.step l1) _ fun w G2 H2 l2 r2 => hx E G2 H2 σ ((hh.step l1).step l2) _ fun z G3 H3 l3 r3 => ?_⟩
    have l := l2.trans l3
    have e2 : w = .str k := r2
    subst e2
    refine ⟨_, DGet.k (k := Sum.inr k) (l.h _ _ hp), ?_⟩
    rcases (ha.mono l.g).get (k := k) with ⟨h1, h2⟩ | ⟨v, a, h1, h2, h3⟩
    · rw [h1]
      exact q z G3 H3 (l1.trans l) (by rw [h2]; exact r3)
    · rw [h1]
      exact q v G3 H3 (l1.trans l) (by rw [h2]; exact h3))
/-- d[k], it is there -/
theorem ev_dix (hr : Room j X.A) (h : EvB X Γ e (oDic r ds)) (hk : Ev X Γ f rStr k) (hx : dGet ds k = some x)
    (hpe : PE X (.Subscript e f pos) (tDGet (WE X e) (WE X f)) := by exact pe_dget (hu_of hr) WE.pe WE.pe (fun _ _ => rfl)) : Ev X Γ (.Subscript e f pos) r x := fun E G H σ hh Q q =>
  WE.of hpe (h E G H σ hh _ fun p o G1 H1 l1 hp ⟨kvs, e1, ha⟩ => by
    subst e1
    refine hk E G1 H1 σ (hh.step l1) _ fun w G2 H2 l2 r2 => ?_
    have e2 : w = .str k := r2
    subst e2
    rcases (ha.mono l2.g).get (k := k) with ⟨h1, h2⟩ | ⟨v, a, h1, h2, h3⟩
    · rw [hx] at h2; cases h2
    · rw [hx] at h2
      cases h2
      exact ⟨p, v, rfl, h1 ▸ DGet.k (k := Sum.inr k) (l2.h _ _ hp), q v G2 H2 (l1.trans l2) h3⟩)
/-- k in d -/
theorem ev_inD (hr : Room j X.A) (hk : Ev X Γ f rStr k) (h : EvB X Γ e (oDic r ds))
    (hpe : PE X (.Compare f [.In] [e] pos) (tDIn (WE X f) (WE X e)) := by exact pe_cmp (pc_din (hu_of hr) WE.pe WE.pe) rfl) : Ev X Γ (.Compare f [.In] [e] pos) rBool (dGet ds k).isSome := fun E G H σ hh Q q =>
  WE.of hpe (hk E G H σ hh _ fun w G1 H1 l1 r1 => h E G1 H1 σ (hh.step l1) _ fun p o G2 H2 l2 hp ⟨kvs, e1, ha⟩ => by
    subst e1
    have e2 : w = .str k := r1
    subst e2
    refine ⟨p, _, rfl, DGet.k (k := Sum.inr k) hp, q _ G2 H2 (l1.trans l2) ?_⟩
    rcases ha.get (k := k) with ⟨h1, h2⟩ | ⟨v, a, h1, h2, h3⟩
    · rw [h1, h2]; rfl
    · rw [h1, h2]; rfl)
/-- len(d) -/
theorem ev_lenD (h : EvB X Γ e (oDic r ds)) (hm : X.mg "len" = none) (hg : Gl X "len" := by rfl) (he : starEach (e :: []) X.env = (false, eval e X.env) :: starEach [] X.env := by rfl) (hpl : (backTo pos (starEach [] X.env)).any (·.1) = false := by rfl) : Ev X Γ (.Call (.Name "len" p) [e] [] pos) rInt (ds.length : Int) := fun E G H σ hh Q q =>
  WE.of (pe_callB call_lenD hg hm PySem.boot_len (pa_cons WE.pe pa_nil he) (he := he) (hpl := hpl)) (h E G H σ hh _ fun p o G1 H1 l1 hp ⟨kvs, e1, ha⟩ => by
    subst e1
    exact ⟨p, kvs, rfl, hp, by rw [ha.length]; exact q _ G1 H1 l1 rfl⟩)
/-- d[k] = v, d by its name -/
theorem bk_dput (hr : Room j X.A) (i : Nat) {a : Str} {pq : Option Addr} (hg : Γ[i]? = some (.ow (oDic r ds) pq)) (he : Ev X Γ e r x) (hk : Ev X Γ f rStr k) (hl : ds.length < sizeLine) (kk : Bk X E (Γ.set i (.ow (oDic r (dPut ds k x)) pq)) rest D)
    (hps : PS X (.Assign [.Subscript (.Name a p) f p2] e pos) (sDPut (tVar i) (WE X f) (WE X e)) := by exact ps_dput (hu_of hr) (pv _) WE.pe WE.pe rfl) : Bk X E Γ (.Assign [.Subscript (.Name a p) f p2] e pos :: rest) D :=
  bk_of hps fun G H σ hh => he E G H σ hh _ fun v G1 H1 l1 r1 => by
    have hh1 := hh.step l1
    obtain ⟨q, ob, h1, h2, h3, h4, kvs, h5, h6⟩ := hh1.ow hg
    subst h5
    refine ⟨_, h1, hk E G1 H1 σ hh1 _ fun w G2 H2 l2 r2 => ?_⟩
    have e2 : w = .str k := r2
    subst e2
    refine ⟨q, _, rfl, DPut.k (k := Sum.inr k) (l2.h _ _ h4) (by rw [h6.length]; exact hl), ?_⟩
    exact kk G2 _ σ ((hh1.step l2).mut hg h1 ⟨_, rfl, (h6.mono l2.g).put (r.mono l2.g r1)⟩)
theorem kind_dic {K : PySem.W.Frag} : Kind K (rDic r) ds "dict" := fun G v ⟨p, kvs, e, h, _⟩ => by subst e; exact .base (.dK h)
end
end Hf

namespace Hf
open PySem PySem.Spec PyProof.Rows L2 ClX
/-! ### d.get(k, x) of a dict of the module -/
def tKGet2 (K : PySem.W.Frag) (d : Addr) (to ty tx : TE) : TE := fun σ H Q => to σ H fun x H1 => x = .ref d ∧ ty σ H1 fun y H2 => tx σ H2 fun z H3 => ∃ (k : Str) (u0 : Value) (v0 : V), y = .str k ∧ PySem.W.nsIn K d k = some (some u0) ∧ RelV v0 u0 ∧ Q v0 H3
section
variable {X : Cx} {o e f g : Expr} {apos cpos pos p : Pos} {to ty tx : TE} {d : Addr} {es : Array DictEntry} {n : Nat} {Γ : List Slot} {k : Str} {i j : Int} {b : Nat}
theorem pe_kget2 (D : KDict X.K X.w d es n) (ho : PE X o to) (he : PE X e ty) (hf : PE X f tx) (m : M2 X o "get" apos e f cpos) : PE X (.Call (.Attribute o "get" apos) [e, f] [] cpos) (tKGet2 X.K d to ty tx) := by
  refine ⟨fun pins s σ H Q I h => ?_⟩
  refine wpAny_Call_method m.base m.few m.line PySem.F.plainAttrs_dict PySem.F.slot_dict_get PySem.F.type_dict_get (thn (ho.run pins s σ H _ I h) fun u s1 ⟨x, H1, I1, rx, ex, q1⟩ => ?_)
  subst ex
  obtain rfl : u = Value.ref d := rx
  refine ⟨kd_type D I1, fun b hb => ?_, ?_⟩
  · cases hb
    exact ⟨_, I1.kIn _ _ D.at_, rfl⟩
  rw [m.trees]
  refine Calls.callWith_builtin rfl (Calls.evalArgs_plain (Calls.spliced_cons (thn (he.run pins s1 σ H1 _ I1 q1) fun iv s2 ⟨y, H2, I2, ry, q2⟩ =>
    Calls.spliced_cons (thn (hf.run pins s2 σ H2 _ I2 q2) fun fv s3 ⟨z, H3, I3, rz, k, u0, v0, ey, e1, r0, q3⟩ => Calls.spliced_nil ?_))))
  subst ey
  obtain ⟨t, rfl⟩ := ry
  have MO := PySem.W.mapOf_K (prog := X.prog) (w := X.w) I3.kIn D.at_ D.lit
  refine call_meetsIn PySem.F.slot_dict_get MO.typeIs PySem.F.entry_dict_get (PySem.F.args_dict_get_3 _ _ _) (meets_dict_get_default (PySem.strKind X.prog X.w) d (PySem.strKind_is X.prog X.w k t) D.low fv) ⟨_, MO, ?_⟩
  rw [PySem.W.find_K D.at_ e1]
  exact ⟨v0, H3, I3.tok _, r0, q3⟩
/-- FORMS.get(k, 0): an int is told -/
theorem ev_kget {nm : Str} (hm : X.mg nm = some (.ref d)) (D : KDict X.K X.w d es n) (hk : Ev X Γ f rStr k) (hx : Ev X Γ g rInt j) (hv : ∃ u, PySem.W.nsIn X.K d k = some (some u) ∧ RelV (.int i) u) (hg : Gl X nm := by rfl) (hd : (nm == ("__debug__" : Str)) = false := by decide)
    (m : M2 X (.Name nm p) "get" apos f g cpos := by exact ⟨rfl, rfl, rfl, rfl⟩) : Ev X Γ (.Call (.Attribute (.Name nm p) "get" apos) [f, g] [] cpos) rInt i := fun E G H σ hh Q q =>
  WE.of (pe_kget2 D (pe_glob (v := .ref d) hg hm rfl hd) WE.pe WE.pe m) ⟨rfl, hk E G H σ hh _ fun w G1 H1 l1 r1 => hx E G1 H1 σ (hh.step l1) _ fun z G2 H2 l2 r2 => by
    obtain ⟨u, h1, h2⟩ := hv
    exact ⟨k, u, .int i, r1, h1, h2, q _ G2 H2 (l1.trans l2) rfl⟩⟩
end
/-! ### shares as rationals -/
def cn (q : Rat) : Int × Int := (q.num, (q.den : Int))
def rQ (K : PySem.W.Frag) : Rp Rat := ⟨fun G v q => (rT2 K rInt rInt).rel G v (cn q), fun e h => (rT2 K rInt rInt).mono e h⟩
theorem cn_inj {p q : Rat} (h : cn p = cn q) : p = q := by
  unfold cn at h
  injection h with h1 h2
  exact Rat.ext h1 (by omega)
theorem share_cn {t b : Int} (h : 0 < b) : share t b = cn ((t : Rat) / (b : Rat)) := by
  rw [← Rat.divInt_eq_div]
  have hn : (Rat.divInt t b).num = t / (Int.gcd t b : Int) := by
    rw [Rat.num_divInt, Int.sign_eq_one_of_pos h, Int.one_mul, Int.gcd_comm]
  have hd : ((Rat.divInt t b).den : Int) = b / (Int.gcd t b : Int) := by
    rw [Rat.den_divInt, if_neg (by omega), Int.gcd_comm]
    rw [Int.natCast_ediv]
    congr 1
    omega
  show (t / (Int.gcd t b : Int), b / (Int.gcd t b : Int)) = ((Rat.divInt t b).num, ((Rat.divInt t b).den : Int))
  rw [hn, hd]
theorem Ev.q2 {X : Cx} {Γ : List Slot} {e : Expr} {q : Rat} (h : Ev X Γ e (rQ X.K) q) : Ev X Γ e (rT2 X.K rInt rInt) (cn q) := h
theorem Ev.q {X : Cx} {Γ : List Slot} {e : Expr} {q : Rat} {a : Int × Int} (h : Ev X Γ e (rT2 X.K rInt rInt) a) (e2 : a = cn q) : Ev X Γ e (rQ X.K) q := fun E G H σ hh Q k => h E G H σ hh Q fun v G' H' l r => k v G' H' l (by subst e2; exact r)
theorem q_div (p : Rat) : (p.num : Rat) / ((p.den : Int) : Rat) = p := by
  rw [← Rat.divInt_eq_div]
  exact Rat.num_divInt_den p
theorem den_ne (p : Rat) : ((p.den : Int) : Rat) ≠ 0 := by
  intro h
  have := p.den_nz
  have h2 : (p.den : Int) = 0 := Rat.intCast_eq_zero_iff.mp h
  omega
theorem den_pos (p : Rat) : (0 : Int) < (p.den : Int) := by have := p.den_nz; omega
theorem q_mul (p : Rat) : (p.num : Rat) = p * ((p.den : Int) : Rat) := by
  have h := q_div p
  have n := den_ne p
  rw [← h]
  grind
theorem plus_cn {p q : Rat} : share (p.num * (q.den : Int) + q.num * (p.den : Int)) ((p.den : Int) * (q.den : Int)) = cn (p + q) := by
  rw [share_cn (Int.mul_pos (den_pos p) (den_pos q))]
  congr 1
  rw [Rat.intCast_add, Rat.intCast_mul, Rat.intCast_mul, Rat.intCast_mul, q_mul p, q_mul q]
  have a := den_ne p
  have b := den_ne q
  grind
theorem less_cn {p q : Rat} : share (p.num * (q.den : Int) - q.num * (p.den : Int)) ((p.den : Int) * (q.den : Int)) = cn (p - q) := by
  rw [share_cn (Int.mul_pos (den_pos p) (den_pos q))]
  congr 1
  rw [Rat.intCast_sub, Rat.intCast_mul, Rat.intCast_mul, Rat.intCast_mul, q_mul p, q_mul q]
  have a := den_ne p
  have b := den_ne q
  grind
theorem ofit_cn {p q : Rat} : share (p.num * q.num) ((p.den : Int) * (q.den : Int)) = cn (p * q) := by
  rw [share_cn (Int.mul_pos (den_pos p) (den_pos q))]
  congr 1
  rw [Rat.intCast_mul, Rat.intCast_mul, q_mul p, q_mul q]
  have a := den_ne p
  have b := den_ne q
  grind
theorem num_pos {q : Rat} (h : 0 < q) : 0 < q.num := by
  have := (Rat.lt_iff 0 q).mp h
  simpa using this
theorem parted_cn {p q : Rat} (h : 0 < q) : share (p.num * (q.den : Int)) ((p.den : Int) * q.num) = cn (p / q) := by
  rw [share_cn (Int.mul_pos (den_pos p) (num_pos h))]
  congr 1
  have hq : q ≠ 0 := fun z => by rw [z] at h; exact Rat.lt_irrefl h
  rw [Rat.intCast_mul, Rat.intCast_mul, q_mul p, q_mul q]
  have a := den_ne p
  have b := den_ne q
  grind
theorem more_cn {p q : Rat} : decide (q.num * (p.den : Int) < p.num * (q.den : Int)) = decide (q < p) := decide_eq_decide.mpr (Rat.lt_iff q p).symm
/-! sizes -/
def Lim (n : Nat) (q : Rat) : Prop := q.num.natAbs < 2 ^ n ∧ q.den < 2 ^ n
theorem Lim.top1 {n : Nat} {q : Rat} (h : Lim n q) (hn : n ≤ 50000) : Top q.num := by
  cases n with
  | zero => have := h.2; have := q.den_nz; omega
  | succ n => exact top_of h.1 (by omega) (by omega)
theorem Lim.top2 {n : Nat} {q : Rat} (h : Lim n q) (hn : n ≤ 50000) : Top (q.den : Int) := by
  cases n with
  | zero => have := h.2; have := q.den_nz; omega
  | succ n => exact top_of (k := n + 1) (by simpa using h.2) (by omega) (by omega)
theorem Lim.bot2 {m n : Nat} {p q : Rat} (h : Lim m p) (k : Lim n q) (hn : m + n ≤ 9000) (h0 : 0 < m + n) : Bot ((p.den : Int) * (q.den : Int)) := by
  refine bot_of (k := m + n) (Int.mul_pos (den_pos p) (den_pos q)) ?_ h0 hn
  rw [Int.natAbs_mul, Nat.pow_add]
  exact Nat.mul_lt_mul'' (by simpa using h.2) (by simpa using k.2)
theorem Lim.bot1 {m n : Nat} {p q : Rat} (h : Lim m p) (k : Lim n q) (hp : 0 < q) (hn : m + n ≤ 9000) (h0 : 0 < m + n) : Bot ((p.den : Int) * q.num) := by
  refine bot_of (k := m + n) (Int.mul_pos (den_pos p) (num_pos hp)) ?_ h0 hn
  rw [Int.natAbs_mul, Nat.pow_add]
  exact Nat.mul_lt_mul'' (by simpa using h.2) k.1
theorem Lim.pos {n : Nat} {q : Rat} (h : Lim n q) : 0 < n := by
  cases n with
  | zero => have := h.2; have := q.den_nz; omega
  | succ n => omega
theorem Lim.mono {m n : Nat} {q : Rat} (h : Lim m q) (k : m ≤ n) : Lim n q := ⟨Nat.lt_of_lt_of_le h.1 (Nat.pow_le_pow_right (by decide) k), Nat.lt_of_lt_of_le h.2 (Nat.pow_le_pow_right (by decide) k)⟩
/-- two shares that may be put together -/
def Two (p q : Rat) : Prop := ∃ m n, m + n ≤ 9000 ∧ Lim m p ∧ Lim n q
end Hf

namespace Hf
open PySem PySem.Spec PyProof.Rows L2 ClX
/-! ### tellings -/
inductive Tel where
  | did (n : Str) (k : Int)
  | knows (n : Str) (k : Int)
  | found (e : Str) (w : Int) (n : Str) (s : Option Int)
  | again (n : Str)
deriving DecidableEq
instance : Inhabited Tel := ⟨.again Str.empty⟩
namespace Tel
def kind : Tel → Str
  | did _ _ => "did"
  | knows _ _ => "knows"
  | found _ _ _ _ => "found"
  | again _ => "again"
def name : Tel → Str
  | did n _ => n
  | knows n _ => n
  | found e _ _ _ => e
  | again n => n
def num : Tel → Int
  | did _ k => k
  | knows _ k => k
  | found _ w _ _ => w
  | again _ => 0
def leaf : Tel → Str
  | found _ _ n _ => n
  | _ => Str.empty
def last : Tel → Option Int
  | found _ _ _ s => s
  | _ => none
def size : Tel → Int
  | did _ _ => 3
  | knows _ _ => 3
  | found _ _ _ _ => 5
  | again _ => 2
def isFound : Tel → Bool
  | found _ _ _ _ => true
  | _ => false
def isAgain : Tel → Bool
  | again _ => true
  | _ => false
def isKnows : Tel → Bool
  | knows _ _ => true
  | _ => false
def isDid : Tel → Bool
  | did _ _ => true
  | _ => false
def vals : Tel → List V
  | did n k => [.str "did", .str n, .int k]
  | knows n k => [.str "knows", .str n, .int k]
  | found e w n s => [.str "found", .str e, .int w, .str n, oV s]
  | again n => [.str "again", .str n]
end Tel
def rTel (K : PySem.W.Frag) : Rp Tel := ⟨fun G v t => ∃ p, v = .ref p ∧ SqT K G p t.vals, fun e ⟨p, h1, h2⟩ => ⟨p, h1, Evl.ex_t e h2⟩⟩
theorem kind_tel {K : PySem.W.Frag} {t : Tel} : Kind K (rTel K) t "tuple" := fun G v ⟨p, e, h⟩ => by subst e; exact sqT_kind h
theorem nn_tel {K : PySem.W.Frag} : NN (rTel K) := ⟨fun G v a ⟨p, e, _⟩ => by rw [e]; simp⟩
theorem ne_did_knows : ¬ ("did" : Str) = "knows" := by decide +kernel
theorem ne_did_found : ¬ ("did" : Str) = "found" := by decide +kernel
theorem ne_did_again : ¬ ("did" : Str) = "again" := by decide +kernel
theorem ne_knows_did : ¬ ("knows" : Str) = "did" := by decide +kernel
theorem ne_knows_found : ¬ ("knows" : Str) = "found" := by decide +kernel
theorem ne_knows_again : ¬ ("knows" : Str) = "again" := by decide +kernel
theorem ne_found_did : ¬ ("found" : Str) = "did" := by decide +kernel
theorem ne_found_knows : ¬ ("found" : Str) = "knows" := by decide +kernel
theorem ne_found_again : ¬ ("found" : Str) = "again" := by decide +kernel
theorem ne_again_did : ¬ ("again" : Str) = "did" := by decide +kernel
theorem ne_again_knows : ¬ ("again" : Str) = "knows" := by decide +kernel
theorem ne_again_found : ¬ ("again" : Str) = "found" := by decide +kernel
theorem found_of {t : Tel} {b : Bool} (h : decide (t.kind = ("found" : Str)) = b) : t.isFound = b := by
  subst h
  cases t <;> (symm; first | exact decide_eq_true rfl | exact decide_eq_false ne_did_found | exact decide_eq_false ne_knows_found | exact decide_eq_false ne_again_found)
theorem again_of {t : Tel} {b : Bool} (h : decide (t.kind = ("again" : Str)) = b) : t.isAgain = b := by
  subst h
  cases t <;> (symm; first | exact decide_eq_true rfl | exact decide_eq_false ne_did_again | exact decide_eq_false ne_knows_again | exact decide_eq_false ne_found_again)
theorem knows_of {t : Tel} {b : Bool} (h : decide (t.kind = ("knows" : Str)) = b) : t.isKnows = b := by
  subst h
  cases t <;> (symm; first | exact decide_eq_true rfl | exact decide_eq_false ne_did_knows | exact decide_eq_false ne_found_knows | exact decide_eq_false ne_again_knows)
theorem did_of {t : Tel} {b : Bool} (h : decide (t.kind = ("did" : Str)) = b) : t.isDid = b := by
  subst h
  cases t <;> (symm; first | exact decide_eq_true rfl | exact decide_eq_false ne_knows_did | exact decide_eq_false ne_found_did | exact decide_eq_false ne_again_did)
section
variable {X : Cx} {E : Ent} {Γ Γ' : List Slot} {D : Ends} {e f g o : Expr} {es : List Expr} {rest : List Stmt} {pos p p2 apos cpos : Pos} {α β γ ι : Type} {r : Rp α} {x : α} {s : Rp β} {y : β} {as : List α} {t : Tel} {u v n : Str} {i : Int} {k : Nat}
theorem ev_telAt {j : Int} {k : Nat} {w : V} (hx : atI t.vals j = some w) (hr : ∀ G, r.rel G w x) (h : Ev X Γ e (rTel X.K) t) : Ev X Γ (.Subscript e (.Constant (.int j) k p2) pos) r x := fun E G H σ hh Q q =>
  WE.of (pe_ix ix_tup WE.pe pe_int (plain_of rfl)) (h E G H σ hh _ fun v G1 H1 l1 ⟨p, e1, hp⟩ => ⟨p, _, j, w, e1, rfl, Evl.ex_t l1.gh hp, hx, q _ G1 H1 l1 (hr G1)⟩)
theorem ev_tel0 (h : Ev X Γ e (rTel X.K) t) : Ev X Γ (.Subscript e (.Constant (.int 0) k p2) pos) rStr t.kind := ev_telAt (w := .str t.kind) (by cases t <;> rfl) (fun _ => rfl) h
theorem ev_tel1 (h : Ev X Γ e (rTel X.K) t) : Ev X Γ (.Subscript e (.Constant (.int 1) k p2) pos) rStr t.name := ev_telAt (w := .str t.name) (by cases t <;> rfl) (fun _ => rfl) h
theorem ev_tel2 (ht : t.isAgain = false) (h : Ev X Γ e (rTel X.K) t) : Ev X Γ (.Subscript e (.Constant (.int 2) k p2) pos) rInt t.num := ev_telAt (w := .int t.num) (by cases t <;> first | rfl | (simp [Tel.isAgain] at ht)) (fun _ => rfl) h
theorem ev_tel3 (ht : t.isFound = true) (h : Ev X Γ e (rTel X.K) t) : Ev X Γ (.Subscript e (.Constant (.int 3) k p2) pos) rStr t.leaf := ev_telAt (w := .str t.leaf) (by cases t <;> first | rfl | (simp [Tel.isFound] at ht)) (fun _ => rfl) h
theorem ev_tel4 (ht : t.isFound = true) (h : Ev X Γ e (rTel X.K) t) : Ev X Γ (.Subscript e (.Constant (.int 4) k p2) pos) (rOpt rInt) t.last := ev_telAt (w := oV t.last) (by cases t <;> first | rfl | (simp [Tel.isFound] at ht)) (fun _ => by cases t.last <;> rfl) h
theorem ev_lenTel (h : Ev X Γ e (rTel X.K) t) (hm : X.mg "len" = none) (hg : Gl X "len" := by rfl) (he : starEach (e :: []) X.env = (false, eval e X.env) :: starEach [] X.env := by rfl) (hpl : (backTo pos (starEach [] X.env)).any (·.1) = false := by rfl) :
    Ev X Γ (.Call (.Name "len" p) [e] [] pos) rInt t.size := fun E G H σ hh Q q =>
  WE.of (pe_callB call_len_seq hg hm PySem.boot_len (pa_cons WE.pe pa_nil he) (he := he) (hpl := hpl)) (h E G H σ hh _ fun v G1 H1 l1 ⟨p, e1, hp⟩ => ⟨p, _, by rw [e1], .inr (Evl.ex_t l1.gh hp), by cases t <;> exact q _ G1 H1 l1 rfl⟩)
theorem Ev.telDid (h : Ev X Γ e (rT3 X.K rStr rStr rInt) ("did", n, i)) : Ev X Γ e (rTel X.K) (.did n i) := fun E G H σ hh Q q => h E G H σ hh Q fun v G1 H1 l1 ⟨a, x, y, z, e1, h1, h2, h3, h4⟩ => q v G1 H1 l1 (by
  have e2 : x = .str "did" := h2
  have e3 : y = .str n := h3
  have e4 : z = .int i := h4
  subst e1 e2 e3 e4
  exact ⟨a, rfl, h1⟩)
theorem Ev.telKnows (h : Ev X Γ e (rT3 X.K rStr rStr rInt) ("knows", n, i)) : Ev X Γ e (rTel X.K) (.knows n i) := fun E G H σ hh Q q => h E G H σ hh Q fun v G1 H1 l1 ⟨a, x, y, z, e1, h1, h2, h3, h4⟩ => q v G1 H1 l1 (by
  have e2 : x = .str "knows" := h2
  have e3 : y = .str n := h3
  have e4 : z = .int i := h4
  subst e1 e2 e3 e4
  exact ⟨a, rfl, h1⟩)
theorem Ev.telAgain (h : Ev X Γ e (rT2 X.K rStr rStr) ("again", n)) : Ev X Γ e (rTel X.K) (.again n) := fun E G H σ hh Q q => h E G H σ hh Q fun v G1 H1 l1 ⟨a, x, y, e1, h1, h2, h3⟩ => q v G1 H1 l1 (by
  have e2 : x = .str "again" := h2
  have e3 : y = .str n := h3
  subst e1 e2 e3
  exact ⟨a, rfl, h1⟩)
theorem ev_telFound {m : Nat} {en ln : Str} {w : Int} {st : Option Int} (h : EvA X Γ es [⟨rStr, "found"⟩, ⟨rStr, en⟩, ⟨rInt, w⟩, ⟨rStr, ln⟩, ⟨rOpt rInt, st⟩]) : Ev X Γ (.Tuple es m pos) (rTel X.K) (.found en w ln st) := fun E G H σ hh Q q =>
  WE.of (pe_tup WA.pa) (h E G H σ hh _ fun vs G1 H1 l1 a1 => by
    match vs, a1 with
    | [v1, v2, v3, v4, v5], ⟨h1, h2, h3, h4, h5, _⟩ =>
      refine ⟨by show 5 ≤ sizeLine; decide, fun p n => ?_⟩
      have e1 : v1 = .str "found" := h1
      have e2 : v2 = .str en := h2
      have e3 : v3 = .int w := h3
      have e4 : v4 = .str ln := h4
      have e5 : v5 = oV st := rOpt_oV h5
      subst e1 e2 e3 e4 e5
      exact q _ (upd G1 p (.tup _)) _ (l1.add n) ⟨p, rfl, .inl (.inl upd_same)⟩)
/-- u in (v, w) -/
theorem inV_str {i : Str} : ∀ {ns : List Str}, inV (.str i) (ns.map V.str) = decide (i ∈ ns)
  | [] => rfl
  | n :: ns => by
    show (eqV (.str n) (.str i) || inV (.str i) (ns.map V.str)) = _
    rw [inV_str]
    by_cases h : n = i
    · subst h; simp [eqV]
    · have h' : ¬ i = n := fun z => h z.symm
      simp [eqV, h, h']
theorem flat_strs {ns : List Str} : (ns.map V.str).all flatV = true := by simp [List.all_map, flatV]
theorem gv_inT2 {a b : Str} : Gives (rIn X.K false) rStr u (rT2 X.K rStr rStr) (a, b) rBool (decide (u ∈ [a, b])) := fun G H x y e h1 ⟨p, v1, v2, e2, hp, k1, k2⟩ Q q => by
  cases h1
  have e3 : v1 = .str a := k1
  have e4 : v2 = .str b := k2
  subst e3 e4
  exact ⟨p, _, e2, .inr (Evl.ex_t e hp), rfl, flat_strs (ns := [a, b]), by
    have z := inV_str (i := u) (ns := [a, b])
    exact q _ G H (.refl e) (congrArg V.bl z)⟩
theorem ev_inT2 {a b : Str} (ha : Ev X Γ e rStr u) (hb : Ev X Γ f (rT2 X.K rStr rStr) (a, b)) (hm : behindInMarks .In f = false := by rfl) : Ev X Γ (.Compare e [.In] [f] pos) rBool (decide (u ∈ [a, b])) := ev_cmpR op_in_seq ha hb gv_inT2 hm
theorem et_inT2 {a b : Str} (ha : Ev X Γ e rStr u) (hb : Ev X Γ f (rT2 X.K rStr rStr) (a, b)) (hm : behindInMarks .In f = false := by rfl) : EvT X Γ (.Compare e [.In] [f] pos) (decide (u ∈ [a, b])) := et_cmpR op_in_seq ha hb gv_inT2 hm
theorem gv_inSs {ns : List Str} : Gives (rIn X.K false) rStr u (rLst rStr) ns rBool (decide (u ∈ ns)) := fun G H a b e h1 ⟨p, vs, e2, hp, ha⟩ Q q => by
  cases h1
  rw [all2_str ha] at hp
  exact ⟨p, _, e2, .inl (.inl (.inl (e _ _ hp))), rfl, flat_strs, by rw [inV_str]; exact q _ G H (.refl e) rfl⟩
theorem ev_inSs {ns : List Str} (ha : Ev X Γ e rStr u) (hb : Ev X Γ f (rLst rStr) ns) (hm : behindInMarks .In f = false := by rfl) : Ev X Γ (.Compare e [.In] [f] pos) rBool (decide (u ∈ ns)) := ev_cmpR op_in_seq ha hb gv_inSs hm
theorem et_inSs {ns : List Str} (ha : Ev X Γ e rStr u) (hb : Ev X Γ f (rLst rStr) ns) (hm : behindInMarks .In f = false := by rfl) : EvT X Γ (.Compare e [.In] [f] pos) (decide (u ∈ ns)) := et_cmpR op_in_seq ha hb gv_inSs hm
end
end Hf

namespace Hf
open PySem PySem.Spec PyProof.Rows L2 ClX
/-! ### what the methods of works come to -/
def dg (did : List (Str × Int)) (n : Str) : Int := (dGet did n).getD 0
namespace Pl
def weights (w : Pl) : Int := (w.parts.map fun q => q.1).sum
mutual
def find : Pl → Str → Option Pl
  | .leaf n s, x => if decide (n = x) = true then some (.leaf n s) else none
  | .lot r n ps, x => if decide (n = x) = true then some (.lot r n ps) else finds ps x
def finds : List (Int × Pl) → Str → Option Pl
  | [], _ => none
  | (_, w) :: ps, x => match find w x with
    | some z => some z
    | none => finds ps x
end
mutual
def leaves : Pl → List Pl
  | .leaf n s => [.leaf n s]
  | .lot _ _ ps => leavess ps
def leavess : List (Int × Pl) → List Pl
  | [] => []
  | (_, w) :: ps => leaves w ++ leavess ps
end
mutual
def far : Pl → List (Str × Int) → Rat
  | .leaf n s, did => match s with
    | none => 0
    | some m => (dg did n : Rat) / (m : Rat)
  | .lot _ _ ps, did => fars ((ps.map fun q => q.1).sum) ps did
def fars : Int → List (Int × Pl) → List (Str × Int) → Rat
  | _, [], _ => 0
  | W, (i, w) :: ps, did => (i : Rat) / (W : Rat) * far w did + fars W ps did
end
mutual
def withLeaf (x : Str) (wt : Int) (lf : Pl) : Pl → Pl
  | .leaf n s => .leaf n s
  | .lot r n ps => .lot r n (if decide (n = x) = true then withLeafs x wt lf ps ++ [(wt, lf)] else withLeafs x wt lf ps)
def withLeafs (x : Str) (wt : Int) (lf : Pl) : List (Int × Pl) → List (Int × Pl)
  | [] => []
  | (i, w) :: ps => (i, withLeaf x wt lf w) :: withLeafs x wt lf ps
end
mutual
def withSteps (x : Str) (k : Int) : Pl → Pl
  | .leaf n s => if decide (n = x) = true then .leaf x (some k) else .leaf n s
  | .lot r n ps => .lot r n (withStepss x k ps)
def withStepss (x : Str) (k : Int) : List (Int × Pl) → List (Int × Pl)
  | [] => []
  | (i, w) :: ps => (i, withSteps x k w) :: withStepss x k ps
end
theorem withLeafs_map {x : Str} {wt : Int} {lf : Pl} : ∀ ps : List (Int × Pl), withLeafs x wt lf ps = ps.map fun q => (q.1, withLeaf x wt lf q.2)
  | [] => by simp [withLeafs]
  | (i, w) :: ps => by simp [withLeafs, withLeafs_map ps]
theorem withStepss_map {x : Str} {k : Int} : ∀ ps : List (Int × Pl), withStepss x k ps = ps.map fun q => (q.1, withSteps x k q.2)
  | [] => by simp [withStepss]
  | (i, w) :: ps => by simp [withStepss, withStepss_map ps]
theorem fars_foldl {W : Int} {did : List (Str × Int)} : ∀ (ps : List (Int × Pl)) (a : Rat), ps.foldl (fun (a : Rat) (q : Int × Pl) => a + (q.1 : Rat) / (W : Rat) * far q.2 did) a = a + fars W ps did
  | [], a => by simp [fars, Rat.add_zero]
  | (i, w) :: ps, a => by
    rw [List.foldl_cons, fars_foldl ps]
    simp only [fars]
    rw [Rat.add_assoc]
theorem leavess_eq : ∀ (ps : List (Int × Pl)), leavess ps = ps.flatMap (fun q => q.2.leaves)
  | [] => by simp [leavess]
  | (i, w) :: ps => by simp [leavess, leavess_eq ps]
mutual
/-- a denominator of all that is reckoned of it -/
def den : Pl → Nat
  | .leaf _ s => match s with
    | none => 1
    | some m => m.toNat
  | .lot _ _ ps => (ps.map fun q : Int × Pl => q.1).sum.toNat * dens ps
def dens : List (Int × Pl) → Nat
  | [] => 1
  | (_, w) :: ps => den w * dens ps
end
end Pl
/-- q = N / D, from 0 to S / D' .. -/
def Fr (q : Rat) (S D : Nat) : Prop := ∃ N : Nat, N ≤ S ∧ q * (D : Rat) = (N : Rat)
theorem fr_lim {q : Rat} {D k : Nat} (h : Fr q D D) (hD : 0 < D) (hk : D < 2 ^ k) : Lim k q := by
  obtain ⟨N, hN, e⟩ := h
  have hd : (D : Rat) ≠ 0 := fun z => by have := Rat.natCast_eq_zero_iff.mp z; omega
  have e2 : q = mkRat (N : Int) D := by
    rw [Rat.mkRat_eq_div]
    have e3 : ((N : Int) : Rat) = (N : Rat) := Rat.intCast_natCast N
    rw [e3, ← e, Rat.mul_div_cancel hd]
  have hn : q.num = (N : Int) / (Nat.gcd D N : Nat) := by
    rw [e2, Rat.num_mkRat, if_neg (by omega)]
    rfl
  have hdn : q.den = D / Nat.gcd D N := by
    rw [e2, Rat.den_mkRat, if_neg (by omega)]
    rfl
  constructor
  · rw [hn]
    have : ((N : Int) / (Nat.gcd D N : Nat)).natAbs = N / Nat.gcd D N := by
      rw [← Int.natCast_ediv, Int.natAbs_natCast]
    rw [this]
    exact Nat.lt_of_le_of_lt (Nat.le_trans (Nat.div_le_self _ _) hN) hk
  · rw [hdn]
    exact Nat.lt_of_le_of_lt (Nat.div_le_self _ _) hk
theorem fr_mono {q : Rat} {S S' D : Nat} (h : Fr q S D) (k : S ≤ S') : Fr q S' D := by
  obtain ⟨N, h1, h2⟩ := h
  exact ⟨N, Nat.le_trans h1 k, h2⟩
theorem fr_nonneg {q : Rat} {S D : Nat} (h : Fr q S D) (hD : 0 < D) : 0 ≤ q := by
  obtain ⟨N, h1, h2⟩ := h
  have hd : (0 : Rat) < (D : Rat) := Rat.natCast_pos.mpr hD
  have h0 : (0 : Rat) ≤ (N : Rat) := Rat.natCast_nonneg
  rw [← h2] at h0
  by_cases z : 0 ≤ q
  · exact z
  · exfalso
    have := Rat.mul_lt_mul_of_pos_right (Rat.not_le.mp z) hd
    grind
theorem fr_le {q : Rat} {S D : Nat} (h : Fr q S D) (hD : 0 < D) (hs : S ≤ D) : q ≤ 1 := by
  obtain ⟨N, h1, h2⟩ := h
  have hd : (0 : Rat) < (D : Rat) := Rat.natCast_pos.mpr hD
  have hn : (N : Rat) ≤ (D : Rat) := Rat.natCast_le_natCast.mpr (by omega)
  rw [← h2] at hn
  by_cases z : q ≤ 1
  · exact z
  · exfalso
    have := Rat.mul_lt_mul_of_pos_right (Rat.not_le.mp z) hd
    grind
/-- counts of leaves whose steps are known are such -/
def CntOk (did : List (Str × Int)) (w : Pl) : Prop := ∀ n m, Pl.leaf n (some m) ∈ w.all → 0 ≤ dg did n ∧ dg did n ≤ m
theorem CntOk.part {did : List (Str × Int)} {w : Pl} {q : Int × Pl} (h : CntOk did w) (m : q ∈ w.parts) : CntOk did q.2 := fun n k hk => h n k (by
  rw [Pl.all_eq, Pl.alls_eq]
  exact List.mem_cons_of_mem _ (List.mem_flatMap.mpr ⟨q, m, hk⟩))
theorem fit_st {n : Str} {m : Int} (h : (Pl.leaf n (some m)).Fit) : 1 ≤ m ∧ m ≤ 1000 := by
  have := h m rfl
  simp only [isNum, Bool.and_eq_true, decide_eq_true_eq] at this
  exact this
theorem den_pos' : ∀ (w : Pl), w.Fit → 0 < w.den := by
  have key : ∀ (d : Nat) (w : Pl), w.depth ≤ d → w.Fit → 0 < w.den := fun d => by
    induction d with
    | zero => intro w h; have := Pl.depth_pos w; omega
    | succ d ih =>
      intro w hd hf
      cases w with
      | leaf n s =>
        cases s with
        | none => simp [Pl.den]
        | some m => have := fit_st hf; simp only [Pl.den]; omega
      | lot r n ps =>
        have hp : ∀ q ∈ ps, 1 ≤ q.1 ∧ 0 < q.2.den := fun q hq => by
          refine ⟨?_, ih q.2 (by have := Pl.part_depth (w := .lot r n ps) hq; omega) (Pl.fits_mem.mp hf.2 q hq)⟩
          have := hf.1
          unfold arePartsB at this
          have := List.all_eq_true.mp (Bool.and_eq_true_iff.mp this).2 q hq
          simp only [isNum, Bool.and_eq_true, decide_eq_true_eq] at this
          exact this.1
        have h1 : ∀ l : List (Int × Pl), (∀ q ∈ l, 1 ≤ q.1 ∧ 0 < q.2.den) → 0 ≤ (l.map fun q => q.1).sum ∧ (l ≠ [] → 0 < (l.map fun q => q.1).sum) ∧ 0 < Pl.dens l := fun l => by
          induction l with
          | nil => intro _; simp [Pl.dens]
          | cons q l ih2 =>
            intro h
            obtain ⟨a, b⟩ := h q List.mem_cons_self
            obtain ⟨c1, _, c2⟩ := ih2 fun z m => h z (List.mem_cons_of_mem _ m)
            obtain ⟨i, v⟩ := q
            refine ⟨by simp; omega, fun _ => by simp; omega, ?_⟩
            simp only [Pl.dens]
            exact Nat.mul_pos b c2
        obtain ⟨_, e2, e3⟩ := h1 ps hp
        have ne : ps ≠ [] := fun z => by
          have := hf.1
          subst z
          simp [arePartsB] at this
        simp only [Pl.den]
        exact Nat.mul_pos (by have := e2 ne; omega) e3
  exact fun w => key w.depth w (Nat.le_refl _)
end Hf

namespace Hf
open PySem PySem.Spec PyProof.Rows L2 ClX
def wsum (ps : List (Int × Pl)) : Nat := (ps.map fun q : Int × Pl => q.1.toNat).sum
theorem wsum_int : ∀ {ps : List (Int × Pl)}, (∀ q ∈ ps, 0 ≤ q.1) → (ps.map fun q : Int × Pl => q.1).sum = (wsum ps : Int)
  | [], _ => rfl
  | q :: ps, h => by
    have a := h q List.mem_cons_self
    have ih := wsum_int (ps := ps) fun z m => h z (List.mem_cons_of_mem _ m)
    simp only [List.map_cons, List.sum_cons, wsum] at *
    rw [ih]
    omega
theorem fit_parts {r : Bool} {n : Str} {ps : List (Int × Pl)} (h : (Pl.lot r n ps).Fit) : ∀ q ∈ ps, (1 ≤ q.1 ∧ q.1 ≤ 100) ∧ q.2.Fit := fun q hq => by
  refine ⟨?_, Pl.fits_mem.mp h.2 q hq⟩
  have := h.1
  unfold arePartsB at this
  have := List.all_eq_true.mp (Bool.and_eq_true_iff.mp this).2 q hq
  simpa [isNum] using this
theorem fit_len {r : Bool} {n : Str} {ps : List (Int × Pl)} (h : (Pl.lot r n ps).Fit) : 1 ≤ ps.length ∧ ps.length ≤ 6 := by
  have := h.1
  unfold arePartsB at this
  exact of_decide_eq_true (Bool.and_eq_true_iff.mp this).1
theorem wsum_le : ∀ {ps : List (Int × Pl)}, (∀ q ∈ ps, 1 ≤ q.1 ∧ q.1 ≤ 100) → ps.length ≤ wsum ps ∧ wsum ps ≤ 100 * ps.length
  | [], _ => by simp [wsum]
  | q :: ps, h => by
    have a := h q List.mem_cons_self
    have ih := wsum_le (ps := ps) fun z m => h z (List.mem_cons_of_mem _ m)
    simp only [wsum, List.map_cons, List.sum_cons, List.length_cons] at *
    omega
/-- a part's share put to the others' -/
theorem fr_add {f g : Rat} {W D P S i : Nat} (hW : 0 < W) (hf : Fr f D D) (hg : Fr g (S * P) (W * P)) : Fr ((i : Rat) / (W : Rat) * f + g) ((i + S) * (D * P)) (W * (D * P)) := by
  obtain ⟨N, h1, h2⟩ := hf
  obtain ⟨M, h3, h4⟩ := hg
  refine ⟨i * N * P + M * D, ?_, ?_⟩
  · have a : i * N * P ≤ i * D * P := Nat.mul_le_mul_right _ (Nat.mul_le_mul_left _ h1)
    have b : M * D ≤ S * P * D := Nat.mul_le_mul_right _ h3
    have e : (i + S) * (D * P) = i * D * P + S * P * D := by rw [Nat.add_mul, Nat.mul_assoc, Nat.mul_assoc, Nat.mul_comm P D]
    omega
  · have hw : (W : Rat) ≠ 0 := fun z => by have := Rat.natCast_eq_zero_iff.mp z; omega
    simp only [Rat.natCast_add, Rat.natCast_mul] at *
    grind
theorem fr_term {f : Rat} {W D i : Nat} (hW : 0 < W) (hf : Fr f D D) : Fr ((i : Rat) / (W : Rat) * f) (i * D) (W * D) := by
  obtain ⟨N, h1, h2⟩ := hf
  refine ⟨i * N, Nat.mul_le_mul_left _ h1, ?_⟩
  have hw : (W : Rat) ≠ 0 := fun z => by have := Rat.natCast_eq_zero_iff.mp z; omega
  simp only [Rat.natCast_mul] at *
  grind
theorem int_nat {i : Int} (h : 0 ≤ i) : (i : Rat) = (i.toNat : Rat) := by
  obtain ⟨k, rfl⟩ := Int.eq_ofNat_of_zero_le h
  rw [Int.toNat_natCast]
  exact Rat.intCast_natCast k
theorem fars_fr {did : List (Str × Int)} {W : Nat} (hW : 0 < W) : ∀ {l : List (Int × Pl)}, (∀ q ∈ l, 0 ≤ q.1 ∧ Fr (q.2.far did) q.2.den q.2.den) → Fr (Pl.fars (W : Int) l did) (wsum l * Pl.dens l) (W * Pl.dens l)
  | [], _ => ⟨0, Nat.zero_le _, by simp [Pl.fars]⟩
  | (i, w) :: l, h => by
    obtain ⟨a, b⟩ := h (i, w) List.mem_cons_self
    have ih := fars_fr hW (l := l) fun z m => h z (List.mem_cons_of_mem _ m)
    have z := fr_add (i := i.toNat) hW b ih
    simp only [Pl.fars, Pl.dens]
    have e : wsum ((i, w) :: l) = i.toNat + wsum l := by simp [wsum]
    rw [e, int_nat a, Rat.intCast_natCast]
    exact z
theorem far_fr {did : List (Str × Int)} : ∀ {w : Pl}, w.Fit → CntOk did w → Fr (w.far did) w.den w.den := fun {w} => by
  have key : ∀ (d : Nat) (w : Pl), w.depth ≤ d → w.Fit → CntOk did w → Fr (w.far did) w.den w.den := fun d => by
    induction d with
    | zero => intro w h; have := Pl.depth_pos w; omega
    | succ d ih =>
      intro w hd hf hc
      cases w with
      | leaf n s =>
        cases s with
        | none => exact ⟨0, Nat.zero_le _, by simp [Pl.far]⟩
        | some m =>
          have hm := fit_st hf
          have hcnt := hc n m (by simp [Pl.all])
          refine ⟨(dg did n).toNat, ?_, ?_⟩
          · simp only [Pl.den]; omega
          · simp only [Pl.far, Pl.den]
            rw [← int_nat (by omega), ← int_nat hcnt.1]
            have : (m : Rat) ≠ 0 := fun z => by have := Rat.intCast_eq_zero_iff.mp z; omega
            grind
      | lot r n ps =>
        have hp := fit_parts hf
        have hw := wsum_le fun q m => (hp q m).1
        have hl := fit_len hf
        have e := wsum_int (ps := ps) fun q m => by have := (hp q m).1; omega
        have z := fars_fr (did := did) (W := wsum ps) (by omega) (l := ps) fun q m => ⟨by have := (hp q m).1; omega, ih q.2 (by have := Pl.part_depth (w := .lot r n ps) m; omega) (hp q m).2 (hc.part (w := .lot r n ps) m)⟩
        simp only [Pl.far, Pl.den, e, Int.toNat_natCast]
        exact z
  exact key w.depth w (Nat.le_refl _)
theorem den_lt : ∀ {w : Pl}, w.Fit → w.den < 2 ^ (10 * w.names.length) := fun {w} => by
  have key : ∀ (d : Nat) (w : Pl), w.depth ≤ d → w.Fit → w.den < 2 ^ (10 * w.names.length) := fun d => by
    induction d with
    | zero => intro w h; have := Pl.depth_pos w; omega
    | succ d ih =>
      intro w hd hf
      cases w with
      | leaf n s =>
        cases s with
        | none => simp [Pl.den, Pl.names]
        | some m => have := fit_st hf; simp [Pl.den, Pl.names]; omega
      | lot r n ps =>
        have hp := fit_parts hf
        have hw := wsum_le fun q m => (hp q m).1
        have hl := fit_len hf
        have e := wsum_int (ps := ps) fun q m => by have := (hp q m).1; omega
        have k : ∀ l : List (Int × Pl), (∀ q ∈ l, q.2.den < 2 ^ (10 * q.2.names.length)) → Pl.dens l ≤ 2 ^ (10 * (Pl.namess l).length) := fun l => by
          induction l with
          | nil => intro _; simp [Pl.dens, Pl.namess]
          | cons q l ih2 =>
            intro h
            obtain ⟨i, v⟩ := q
            have a := h (i, v) List.mem_cons_self
            have b := ih2 fun z m => h z (List.mem_cons_of_mem _ m)
            simp only [Pl.dens, Pl.namess, List.length_append, Nat.mul_add, Nat.pow_add]
            exact Nat.mul_le_mul (Nat.le_of_lt a) b
        have b := k ps fun q m => ih q.2 (by have := Pl.part_depth (w := .lot r n ps) m; omega) (hp q m).2
        simp only [Pl.den, Pl.names, e, Int.toNat_natCast, List.length_cons]
        rw [show 10 * ((Pl.namess ps).length + 1) = 10 + 10 * (Pl.namess ps).length by omega, Nat.pow_add]
        refine Nat.lt_of_le_of_lt (Nat.mul_le_mul_left _ b) (Nat.mul_lt_mul_of_pos_right (show wsum ps < 2 ^ 10 by omega) (Nat.pow_pos (by decide)))
  exact key w.depth w (Nat.le_refl _)
theorem far_lim {did : List (Str × Int)} {w : Pl} (hf : w.Fit) (hc : CntOk did w) (hn : w.names.length ≤ 20) : Lim 200 (w.far did) :=
  fr_lim (far_fr hf hc) (den_pos' w hf) (Nat.lt_of_lt_of_le (den_lt hf) (Nat.pow_le_pow_right (by decide) (by omega)))
theorem far_bounds {did : List (Str × Int)} {w : Pl} (hf : w.Fit) (hc : CntOk did w) : 0 ≤ w.far did ∧ w.far did ≤ 1 :=
  ⟨fr_nonneg (far_fr hf hc) (den_pos' w hf), fr_le (far_fr hf hc) (den_pos' w hf) (Nat.le_refl _)⟩
theorem dens_take : ∀ (ps : List (Int × Pl)) (i : Nat), (∀ q ∈ ps, 0 < q.2.den) → Pl.dens (ps.take i) ≤ Pl.dens ps ∧ 0 < Pl.dens (ps.take i)
  | [], i, _ => by simp [Pl.dens]
  | (j, w) :: ps, 0, h => by
    refine ⟨?_, by simp [Pl.dens]⟩
    have a := h (j, w) List.mem_cons_self
    have b := dens_take ps 0 fun z m => h z (List.mem_cons_of_mem _ m)
    simp only [List.take_zero, Pl.dens] at *
    exact Nat.mul_pos a (by omega)
  | (j, w) :: ps, i + 1, h => by
    have a := h (j, w) List.mem_cons_self
    have b := dens_take ps i fun z m => h z (List.mem_cons_of_mem _ m)
    simp only [List.take_succ_cons, Pl.dens]
    exact ⟨Nat.mul_le_mul_left _ b.1, Nat.mul_pos a b.2⟩
theorem wsum_take (ps : List (Int × Pl)) (i : Nat) : wsum (ps.take i) ≤ wsum ps := by
  have e : wsum ps = wsum (ps.take i) + wsum (ps.drop i) := by
    conv => lhs; rw [← List.take_append_drop i ps]
    simp only [wsum, List.map_append, List.sum_append]
  omega
/-- for the walk of far: what is reckoned so far -/
theorem far_part {did : List (Str × Int)} {r : Bool} {n : Str} {ps : List (Int × Pl)} (hf : (Pl.lot r n ps).Fit) (hc : CntOk did (.lot r n ps)) (hn : (Pl.lot r n ps).names.length ≤ 20) (i : Nat) :
    Lim 200 (Pl.fars ((ps.map fun q : Int × Pl => q.1).sum) (ps.take i) did) := by
  have hp := fit_parts hf
  have hw := wsum_le fun q m => (hp q m).1
  have hl := fit_len hf
  have e := wsum_int (ps := ps) fun q m => by have := (hp q m).1; omega
  have mem : ∀ q ∈ ps.take i, q ∈ ps := fun q m => List.mem_of_mem_take m
  have z := fars_fr (did := did) (W := wsum ps) (by omega) (l := ps.take i) fun q m => ⟨by have := (hp q (mem q m)).1; omega, far_fr (hp q (mem q m)).2 (hc.part (w := .lot r n ps) (mem q m))⟩
  have dt := dens_take ps i fun q m => den_pos' q.2 (hp q m).2
  have hd := den_lt hf
  simp only [Pl.den, e, Int.toNat_natCast] at hd
  rw [e]
  refine fr_lim (fr_mono z (Nat.mul_le_mul_right _ (wsum_take ps i))) (Nat.mul_pos (by omega) dt.2) ?_
  exact Nat.lt_of_le_of_lt (Nat.mul_le_mul_left _ dt.1) (Nat.lt_of_lt_of_le hd (Nat.pow_le_pow_right (by decide) (by omega)))
theorem far_term {did : List (Str × Int)} {r : Bool} {n : Str} {ps : List (Int × Pl)} (hf : (Pl.lot r n ps).Fit) (hc : CntOk did (.lot r n ps)) (hn : (Pl.lot r n ps).names.length ≤ 20) {q : Int × Pl} (hq : q ∈ ps) :
    Lim 10 ((q.1 : Rat) / (((ps.map fun q : Int × Pl => q.1).sum : Int) : Rat)) ∧ Lim 210 ((q.1 : Rat) / (((ps.map fun q : Int × Pl => q.1).sum : Int) : Rat) * q.2.far did) := by
  have hp := fit_parts hf
  have hw := wsum_le fun q m => (hp q m).1
  have hl := fit_len hf
  have e := wsum_int (ps := ps) fun q m => by have := (hp q m).1; omega
  obtain ⟨i1, f1⟩ := hp q hq
  have le1 : q.1.toNat ≤ wsum ps := by
    obtain ⟨a, b, e2⟩ := List.append_of_mem hq
    rw [e2]
    simp only [wsum, List.map_append, List.map_cons, List.sum_append, List.sum_cons]
    omega
  have qn : q.2.names.length ≤ 20 := Nat.le_trans (names_sub (w := .lot r n ps) hq).length_le hn
  have hdq := den_lt f1
  rw [e, int_nat (by omega), Rat.intCast_natCast]
  constructor
  · have z := fr_term (f := 1) (W := wsum ps) (D := 1) (i := q.1.toNat) (by omega) ⟨1, Nat.le_refl _, by grind⟩
    rw [Rat.mul_one, Nat.mul_one, Nat.mul_one] at z
    exact fr_lim (fr_mono z le1) (by omega) (by omega)
  · have z := fr_term (W := wsum ps) (i := q.1.toNat) (by omega) (far_fr f1 (hc.part (w := .lot r n ps) hq))
    refine fr_lim (fr_mono z (Nat.mul_le_mul_right _ le1)) (Nat.mul_pos (by omega) (den_pos' _ f1)) ?_
    rw [show (210 : Nat) = 10 + 200 from rfl, Nat.pow_add]
    exact Nat.mul_lt_mul'' (by omega) (Nat.lt_of_lt_of_le hdq (Nat.pow_le_pow_right (by decide) (by omega)))
end Hf

namespace Hf
open PySem PySem.Spec PyProof.Rows L2 ClX
theorem thin_q {K : PySem.W.Frag} {q : Rat} : Thin (rQ K) q := fun G p o v n h => thin_T2 (K := K) (r := rInt) (s := rInt) (x := cn q) thin_int thin_int G p o v n h
theorem thin_tel {K : PySem.W.Frag} {t : Tel} : Thin (rTel K) t := fun G p o v n ⟨a, e, h⟩ => ⟨a, e, sqT_thin n h⟩
/-! ### virtual methods that leaves and lots have each by themselves -/
section
variable {P : Program} {w : World} {K : PySem.W.Frag} {mg : Str → Option Value} {base : Heap} {f g : Addr} {fd gd : FuncData} {ps qs : List Str} {k j : Nat} {c : WC} {m : Str}
theorem of_leaf {w : Pl} (h : w.isLeaf = true) : c.of w = c.L := by
  cases w with
  | leaf n s => rfl
  | lot r n ps => simp [Pl.isLeaf] at h
theorem of_lot {w : Pl} (h : w.isLeaf = false) {p : Addr → Prop} (h2 : p c.R) (h3 : p c.B) : p (c.of w) := by
  cases w with
  | leaf n s => simp [Pl.isLeaf] at h
  | lot r n ps =>
    cases r
    · exact h3
    · exact h2
theorem HasV.mk2 {ι α : Type} {self : ι → Pl} {Pre PreL PreW : ι → Prop} {args : ι → List Ty} {r : Rp α} {res : ι → α} (cl : ∀ w, Cls K (c.of w)) (hl : Meth K c.L m g) (bl : Binds K gd qs []) (G : FnOk P w K mg base (CXL P w) j g gd qs (PSp PreL (fun z => ⟨rWk K c, self z⟩ :: args z) r res)) (hj : j ≤ k)
    (h2 : Meth K c.R m f) (h3 : Meth K c.B m f) (hb : Binds K fd ps []) (F : FnOk P w K mg base (CXL P w) k f fd ps (PSp PreW (fun z => ⟨rWk K c, self z⟩ :: args z) r res)) (h : ∀ y, Pre y → ((self y).isLeaf = true → PreL y) ∧ ((self y).isLeaf = false → PreW y)) : HasV P w K mg base c m k self Pre args r res := fun y hp => by
  cases e : (self y).isLeaf with
  | true => exact (HasM.mk0 (cl _) ((of_leaf (c := c) e).symm ▸ hl) bl G).sub hj fun vs H Q ⟨z, G, e2, hh⟩ => ⟨z, G, e2 ▸ (h y hp).1 e, hh⟩
  | false => exact (HasM.mk0 (cl _) (of_lot (p := fun C => Meth K C m f) e h2 h3) hb F).sub (Nat.le_refl _) fun vs H Q ⟨z, G, e2, hh⟩ => ⟨z, G, e2 ▸ (h y hp).2 e, hh⟩
theorem HasVO.mk2 {ι : Type} {self : ι → Pl} {Pre PreL PreW : ι → Prop} {args : ι → List Ty} {oc : ι → Oc} (cl : ∀ w, Cls K (c.of w)) (hl : Meth K c.L m g) (bl : Binds K gd qs []) (G : FnOk P w K mg base (CXL P w) j g gd qs (OSp PreL (fun z => ⟨rWk K c, self z⟩ :: args z) oc)) (hj : j ≤ k)
    (h2 : Meth K c.R m f) (h3 : Meth K c.B m f) (hb : Binds K fd ps []) (F : FnOk P w K mg base (CXL P w) k f fd ps (OSp PreW (fun z => ⟨rWk K c, self z⟩ :: args z) oc)) (h : ∀ y, Pre y → ((self y).isLeaf = true → PreL y) ∧ ((self y).isLeaf = false → PreW y)) : HasVO P w K mg base c m k self Pre args oc := fun y hp => by
  cases e : (self y).isLeaf with
  | true => exact (HasM.mk0 (cl _) ((of_leaf (c := c) e).symm ▸ hl) bl G).sub hj fun vs H Q ⟨z, G, e2, hh⟩ => ⟨z, G, e2 ▸ (h y hp).1 e, hh⟩
  | false => exact (HasM.mk0 (cl _) (of_lot (p := fun C => Meth K C m f) e h2 h3) hb F).sub (Nat.le_refl _) fun vs H Q ⟨z, G, e2, hh⟩ => ⟨z, G, e2 ▸ (h y hp).2 e, hh⟩
/-- rows and bundles each by themselves -/
theorem HasV.mkRB {ι α : Type} {self : ι → Pl} {Pre PreR PreB : ι → Prop} {args : ι → List Ty} {r : Rp α} {res : ι → α} (cl : ∀ w, Cls K (c.of w)) (h2 : Meth K c.R m g) (bl : Binds K gd qs []) (G : FnOk P w K mg base (CXL P w) k g gd qs (PSp PreR (fun z => ⟨rWk K c, self z⟩ :: args z) r res))
    (h3 : Meth K c.B m f) (hb : Binds K fd ps []) (F : FnOk P w K mg base (CXL P w) k f fd ps (PSp PreB (fun z => ⟨rWk K c, self z⟩ :: args z) r res)) (h : ∀ y, Pre y → (self y).isLeaf = false ∧ ((self y).isRow = true → PreR y) ∧ ((self y).isBun = true → PreB y)) : HasV P w K mg base c m k self Pre args r res := fun y hp => by
  obtain ⟨h0, h1, h4⟩ := h y hp
  cases e : self y with
  | leaf n s => rw [e] at h0; simp [Pl.isLeaf] at h0
  | lot row n qs' =>
    cases row with
    | true => exact (HasM.mk0 (C := c.of (.lot true n qs')) (cl _) h2 bl G).sub (Nat.le_refl _) fun vs H Q ⟨z, G, e2, hh⟩ => ⟨z, G, e2 ▸ h1 (by rw [e]; rfl), hh⟩
    | false => exact (HasM.mk0 (C := c.of (.lot false n qs')) (cl _) h3 hb F).sub (Nat.le_refl _) fun vs H Q ⟨z, G, e2, hh⟩ => ⟨z, G, e2 ▸ h4 (by rw [e]; rfl), hh⟩
end
/-! ### find, leaves, new parts -/
theorem find_eq (w : Pl) (x : Str) : w.find x = if decide (w.name = x) = true then some w else Pl.finds w.parts x := by
  cases w with
  | leaf n s => simp only [Pl.find, Pl.name, Pl.parts, Pl.finds]; rfl
  | lot r n ps => simp only [Pl.find, Pl.name, Pl.parts]; rfl
theorem finds_snoc {x : Str} {q : Int × Pl} : ∀ {ps : List (Int × Pl)}, Pl.finds ps x = none → Pl.finds (ps ++ [q]) x = q.2.find x
  | [], _ => by
    obtain ⟨i, w⟩ := q
    simp only [List.nil_append, Pl.finds]
    cases w.find x <;> rfl
  | (i, w) :: ps, h => by
    simp only [List.cons_append, Pl.finds] at *
    cases e : w.find x with
    | some z => rw [e] at h; cases h
    | none =>
      rw [e] at h
      exact finds_snoc h
theorem finds_mid {x : Str} {q : Int × Pl} {z : Pl} (hz : q.2.find x = some z) : ∀ {a b : List (Int × Pl)}, Pl.finds a x = none → Pl.finds (a ++ q :: b) x = some z
  | [], b, _ => by
    obtain ⟨i, w⟩ := q
    simp only [List.nil_append, Pl.finds]
    have hz' : w.find x = some z := hz
    rw [hz']
  | (i, w) :: a, b, h => by
    simp only [List.cons_append, Pl.finds] at *
    cases e : w.find x with
    | some z => rw [e] at h; cases h
    | none =>
      rw [e] at h
      exact finds_mid hz h
theorem leaves_eq (w : Pl) (h : w.isLeaf = false) : w.leaves = Pl.leavess w.parts := by
  cases w with
  | leaf n s => simp [Pl.isLeaf] at h
  | lot r n ps => simp only [Pl.leaves, Pl.parts]
theorem leaves_leaf {w : Pl} (h : w.isLeaf = true) : w.leaves = [w] := by
  cases w with
  | leaf n s => rfl
  | lot r n ps => simp [Pl.isLeaf] at h
theorem leavess_foldl : ∀ (ps : List (Int × Pl)) (a : List Pl), ps.foldl (fun (a : List Pl) (q : Int × Pl) => a ++ q.2.leaves) a = a ++ Pl.leavess ps
  | [], a => by simp [Pl.leavess]
  | (i, w) :: ps, a => by
    rw [List.foldl_cons, leavess_foldl ps]
    simp [Pl.leavess]
theorem leaves_sub : ∀ (w : Pl), List.Sublist w.leaves w.all := fun w => by
  have key : ∀ (d : Nat) (w : Pl), w.depth ≤ d → List.Sublist w.leaves w.all := fun d => by
    induction d with
    | zero => intro w h; have := Pl.depth_pos w; omega
    | succ d ih =>
      intro w hd
      cases w with
      | leaf n s => simp [Pl.leaves, Pl.all]
      | lot r n ps =>
        simp only [Pl.leaves, Pl.all, Pl.leavess_eq, Pl.alls_eq]
        refine List.Sublist.cons _ ?_
        have k : ∀ l : List (Int × Pl), (∀ q ∈ l, q.2.depth ≤ d) → List.Sublist (l.flatMap fun q => q.2.leaves) (l.flatMap fun q => q.2.all) := fun l => by
          induction l with
          | nil => intro _; simp
          | cons q l ih2 =>
            intro h
            rw [List.flatMap_cons, List.flatMap_cons]
            exact (ih q.2 (h q List.mem_cons_self)).append (ih2 fun z m => h z (List.mem_cons_of_mem _ m))
        exact k ps fun q m => by have := Pl.part_depth (w := .lot r n ps) m; omega
  exact key w.depth w (Nat.le_refl _)
theorem leaves_isLeaf : ∀ (w : Pl), ∀ z ∈ w.leaves, z.isLeaf = true := fun w => by
  have key : ∀ (d : Nat) (w : Pl), w.depth ≤ d → ∀ z ∈ w.leaves, z.isLeaf = true := fun d => by
    induction d with
    | zero => intro w h; have := Pl.depth_pos w; omega
    | succ d ih =>
      intro w hd z hz
      cases w with
      | leaf n s =>
        simp only [Pl.leaves, List.mem_singleton] at hz
        subst hz
        rfl
      | lot r n ps =>
        simp only [Pl.leaves, Pl.leavess_eq, List.mem_flatMap] at hz
        obtain ⟨q, m, hz⟩ := hz
        exact ih q.2 (by have := Pl.part_depth (w := .lot r n ps) m; omega) z hz
  exact key w.depth w (Nat.le_refl _)
theorem leaves_len (w : Pl) : w.leaves.length ≤ w.names.length := by rw [← all_len]; exact (leaves_sub w).length_le
theorem leaves_part {q : Int × Pl} {w : Pl} (h : q ∈ w.parts) : q.2.names.length ≤ w.names.length := (names_sub h).length_le
theorem leaves_fold {w : Pl} {i : Nat} {s : List Pl} (hl : w.isLeaf = false) (h : s = (w.parts.take i).foldl (fun (a : List Pl) (q : Int × Pl) => a ++ q.2.leaves) []) : s.length ≤ w.names.length := by
  rw [h, leavess_foldl]
  refine Nat.le_trans ?_ (leaves_len w)
  rw [leaves_eq w hl, Pl.leavess_eq, Pl.leavess_eq, List.nil_append, List.length_flatMap, List.length_flatMap]
  conv => rhs; rw [← List.take_append_drop i w.parts]
  rw [List.map_append, List.sum_append]
  omega
end Hf

namespace Hf
open PySem PySem.Spec PyProof.Rows L2 ClX
def qd (t b : Int) : Rat := (t : Rat) / (b : Rat)
theorem plus_q {p q : Rat} : p + q = qd (p.num * (q.den : Int) + q.num * (p.den : Int)) ((p.den : Int) * (q.den : Int)) := cn_inj (by rw [← plus_cn]; exact share_cn (Int.mul_pos (den_pos p) (den_pos q)))
theorem less_q {p q : Rat} : p - q = qd (p.num * (q.den : Int) - q.num * (p.den : Int)) ((p.den : Int) * (q.den : Int)) := cn_inj (by rw [← less_cn]; exact share_cn (Int.mul_pos (den_pos p) (den_pos q)))
theorem ofit_q {p q : Rat} : p * q = qd (p.num * q.num) ((p.den : Int) * (q.den : Int)) := cn_inj (by rw [← ofit_cn]; exact share_cn (Int.mul_pos (den_pos p) (den_pos q)))
theorem parted_q {p q : Rat} (h : 0 < q) : p / q = qd (p.num * (q.den : Int)) ((p.den : Int) * q.num) := cn_inj (by rw [← parted_cn h]; exact share_cn (Int.mul_pos (den_pos p) (num_pos h)))
theorem more_q {p q : Rat} : decide (q < p) = decide (q.num * (p.den : Int) < p.num * (q.den : Int)) := more_cn.symm
theorem Two.cm11 {p q : Rat} (h : Two p q) : CMulW p.num (q.den : Int) := by
  obtain ⟨m, n, h, a, b⟩ := h
  exact cm (a.top1 (by omega)) (b.top2 (by omega))
theorem Two.cm12 {p q : Rat} (h : Two p q) : CMulW q.num (p.den : Int) := by
  obtain ⟨m, n, h, a, b⟩ := h
  exact cm (b.top1 (by omega)) (a.top2 (by omega))
theorem Two.cm22 {p q : Rat} (h : Two p q) : CMulW (p.den : Int) (q.den : Int) := by
  obtain ⟨m, n, h, a, b⟩ := h
  exact cm (a.top2 (by omega)) (b.top2 (by omega))
theorem Two.cmnn {p q : Rat} (h : Two p q) : CMulW p.num q.num := by
  obtain ⟨m, n, h, a, b⟩ := h
  exact cm (a.top1 (by omega)) (b.top1 (by omega))
theorem Two.cm21 {p q : Rat} (h : Two p q) : CMulW (p.den : Int) q.num := by
  obtain ⟨m, n, h, a, b⟩ := h
  exact cm (a.top2 (by omega)) (b.top1 (by omega))
theorem Two.bot {p q : Rat} (h : Two p q) : Bot ((p.den : Int) * (q.den : Int)) := by
  obtain ⟨m, n, h, a, b⟩ := h
  exact a.bot2 b h (by have := a.pos; omega)
theorem Two.botn {p q : Rat} (h : Two p q) (hq : 0 < q) : Bot ((p.den : Int) * q.num) := by
  obtain ⟨m, n, h, a, b⟩ := h
  exact a.bot1 b hq h (by have := a.pos; omega)
theorem kind_q {K : PySem.W.Frag} {q : Rat} : Kind K (rQ K) q "tuple" := fun G v h => kind_T2 (K := K) (r := rInt) (s := rInt) (a := cn q) G v h
/-- what far asks -/
structure FarOk (w : Pl) (did : List (Str × Int)) : Prop where
  fit : w.Fit
  cnt : CntOk did w
  few : w.names.length ≤ 20
theorem FarOk.part {w : Pl} {did : List (Str × Int)} {q : Int × Pl} (h : FarOk w did) (m : q ∈ w.parts) : FarOk q.2 did := by
  refine ⟨?_, h.cnt.part m, Nat.le_trans (names_sub m).length_le h.few⟩
  have f := h.fit
  cases w with
  | leaf n s => simp [Pl.parts] at m
  | lot r n ps => exact (fit_parts f q m).2
theorem lot_of {w : Pl} (h : w.isLeaf = false) : ∃ r n ps, w = .lot r n ps := by
  cases w with
  | leaf n s => simp [Pl.isLeaf] at h
  | lot r n ps => exact ⟨r, n, ps, rfl⟩
theorem FarOk.lim {w : Pl} {did : List (Str × Int)} (h : FarOk w did) : Lim 200 (w.far did) := far_lim h.fit h.cnt h.few
theorem far_leaf {w : Pl} {did : List (Str × Int)} (h : w.isLeaf = true) : w.far did = if w.steps.isNone = true then (0 : Rat) else qd ((dGet did w.name).getD 0) (w.steps.getD 0) := by
  cases w with
  | leaf n s => cases s <;> rfl
  | lot r n ps => simp [Pl.isLeaf] at h
theorem far_bot {w : Pl} {did : List (Str × Int)} (h : FarOk w did) (hl : w.isLeaf = true) (hs : w.steps.isNone = false) : Bot (w.steps.getD 0) := by
  cases w with
  | leaf n s =>
    cases s with
    | none => simp [Pl.steps] at hs
    | some m =>
      have := fit_st h.fit
      exact bot_of (k := 10) (by simp [Pl.steps]; omega) (by simp [Pl.steps]; omega) (by omega) (by omega)
  | lot r n ps => simp [Pl.isLeaf] at hl
theorem far_lot {w : Pl} {did : List (Str × Int)} (h : w.isLeaf = false) : w.far did = w.parts.foldl (fun (a : Rat) (q : Int × Pl) => a + qd q.1 w.weights * q.2.far did) 0 := by
  obtain ⟨r, n, ps, rfl⟩ := lot_of h
  show Pl.fars _ ps did = _
  have z := Pl.fars_foldl (W := (ps.map fun q => q.1).sum) (did := did) ps 0
  rw [Rat.zero_add] at z
  exact z.symm
theorem far_step {w : Pl} {did : List (Str × Int)} (h : FarOk w did) (hl : w.isLeaf = false) {i : Nat} {q : Int × Pl} (m : w.parts[i]? = some q) {s : Rat} (e : s = (w.parts.take i).foldl (fun (a : Rat) (q : Int × Pl) => a + qd q.1 w.weights * q.2.far did) 0) :
    Two (qd q.1 w.weights) (q.2.far did) ∧ Two s (qd q.1 w.weights * q.2.far did) ∧ Bot w.weights := by
  obtain ⟨r, n, ps, rfl⟩ := lot_of hl
  have mq : q ∈ ps := List.mem_of_getElem? m
  have t := far_term h.fit h.cnt h.few mq
  have p := far_part h.fit h.cnt h.few i
  have z := Pl.fars_foldl (W := (ps.map fun q => q.1).sum) (did := did) (ps.take i) 0
  rw [Rat.zero_add] at z
  have es : s = Pl.fars ((ps.map fun q : Int × Pl => q.1).sum) (ps.take i) did := e.trans z
  refine ⟨⟨10, 200, by omega, t.1, (h.part (w := .lot r n ps) mq).lim⟩, ⟨200, 210, by omega, by rw [es]; exact p, t.2⟩, ?_⟩
  have hw := wsum_le fun q m => (fit_parts h.fit q m).1
  have hl := fit_len h.fit
  have e2 := wsum_int (ps := ps) fun q m => by have := (fit_parts h.fit q m).1; omega
  show Bot (ps.map fun q : Int × Pl => q.1).sum
  rw [e2]
  exact bot_of (k := 10) (by omega) (by omega) (by omega) (by omega)
theorem weights_eq (w : Pl) : w.weights = (w.parts.map fun q : Int × Pl => q.1).sum := rfl
end Hf

namespace Hf
open PySem PySem.Spec PyProof.Rows L2 ClX
/-! ### a course: an instance and its dict, both one's own; the dict in the slot of a name that the def doesn't have -/
structure Cs where
  plan : Pl
  did : List (Str × Int)
  shown : Rat
def rAt (d : Addr) : Rp Unit := ⟨fun _ v _ => v = .ref d, fun _ h => h⟩
abbrev cNs : List Str := ["plan", "did", "shown"]
abbrev cCr (K : PySem.W.Frag) : Addr := He.ga K "Course"
abbrev cTs (K : PySem.W.Frag) (d : Addr) (plan : Pl) (shown : Rat) : List Ty := [⟨rWk K (cW K), plan⟩, ⟨rAt d, ()⟩, ⟨rQ K, shown⟩]
abbrev oCr (K : PySem.W.Frag) (d : Addr) (plan : Pl) (shown : Rat) : Oc := oIns (cCr K) cNs (cTs K d plan shown)
/-- a course that never changes any more -/
def rCs (K : PySem.W.Frag) : Rp Cs := ⟨fun G v c => ∃ a d dx v1 v3, v = .ref a ∧ G a = some (.ins (cCr K) dx (cNs.zip [v1, .ref d, v3])) ∧ (rWk K (cW K)).rel G v1 c.plan ∧ (rDic rInt).rel G (.ref d) c.did ∧ (rQ K).rel G v3 c.shown,
  fun e ⟨a, d, dx, v1, v3, h1, h2, h3, h4, h5⟩ => ⟨a, d, dx, v1, v3, h1, e _ _ h2, (rWk K (cW K)).mono e h3, (rDic rInt).mono e h4, (rQ K).mono e h5⟩⟩
theorem inv_ghost {X : Cx} {pins : List (Addr × Obj)} {σ : L2.St} {H : Hp} {s : Shared} {g : Nat} {x : Str} {v : Option V} (I : Inv X pins σ H s) (hN : X.N[g]? = some x) (hv : ¬ Vis X.env.scope x) : Inv X pins (σ.set g v) H s := by
  obtain ⟨m, hm, h⟩ := I.loc
  refine ⟨I.ok, I.os, I.bare, I.base, ⟨m, hm, fun i y w h1 h2 h3 => ?_⟩, I.cell, I.free, I.freeC, I.pin, I.hok, by rw [List.length_set]; exact I.len⟩
  by_cases e : i = g
  · subst e
    rw [hN] at h1
    cases h1
    exact absurd h3 hv
  · rw [List.getElem?_set_ne (fun z => e z.symm)] at h2
    exact h i y w h1 h2 h3
/-- a promise with one's own dict at d beside the arguments -/
def GSp {ι α : Type} (Pre : ι → Prop) (pars : Addr → ι → List Par) (r : Rp α) (res : ι → α) (post : Addr → ι → List Oc) : Sp := fun vs H Q E => ∃ d : Addr, MSp Pre (pars d) r res (post d) (vs ++ [.ref d]) H Q E
theorem fits_last {G H : Hp} {d : Addr} {c : Oc} : ∀ {vs : List V} {ps : List Par} {as : List Addr}, Fits G H (vs ++ [.ref d]) (ps ++ [.ow c]) as → ∃ bs, as = bs ++ [d]
  | [], [], [], h => h.elim
  | [], [], a :: as, ⟨⟨h1, _⟩, h2⟩ => by
    cases h1
    cases as with
    | nil => exact ⟨[], rfl⟩
    | cons b bs => exact h2.elim
  | [], .ty t :: ps, as, h => by
    have z := Fits.length h.2
    simp at z
  | [], .ow e :: ps, [], h => h.elim
  | [], .ow e :: ps, a :: as, h => by
    have z := Fits.length h.2
    simp at z
  | v :: vs, [], as, h => by
    have z := Fits.length h
    simp at z
  | v :: vs, .ty t :: ps, as, h => fits_last (vs := vs) (ps := ps) h.2
  | v :: vs, .ow e :: ps, [], h => h.elim
  | v :: vs, .ow e :: ps, a :: as, h => by
    obtain ⟨bs, e2⟩ := fits_last (vs := vs) (ps := ps) h.2
    exact ⟨a :: bs, by rw [e2]; rfl⟩
theorem set_last (vs : List V) (v : V) (n : Nat) : (vs.map some ++ List.replicate (n + 1) none).set vs.length (some v) = (vs.map some ++ [v].map some) ++ List.replicate n none := by
  induction vs with
  | nil => rfl
  | cons a vs ih => exact congrArg (some a :: ·) ih
section
variable {P : Program} {w : World} {K : PySem.W.Frag} {mg : Str → Option Value} {base : Heap} {x qual : Str} {params : Arguments} {body : List Stmt} {scope : Scope} {dvs : List V} {kws : List (Str × V)} {f : Addr} {fd : FuncData}
theorem fn_ghost {N ps : List Str} {k : Nat} {gn : Str} {ι α : Type} {Pre : ι → Prop} {pars : Addr → ι → List Par} {own : ι → Oc} {r : Rp α} {res : ι → α} {post : Addr → ι → List Oc} (F : FunD K x qual params body scope dvs kws f fd) (S : FnScope N ps scope) (hgn : N[ps.length]? = some gn) (hnv : ¬ Vis scope gn)
    (hl : ∀ d y, (pars d y).length = ps.length) (ho : ∀ d y, nOwn (pars d y) = 1)
    (hb : ∀ (d : Addr) (y : ι), Pre y → ∀ (cdv : Value) (A : Around) (outer : List Env) (s : Shared) (H : Hp) (E0 : XK) (G : Hp) (D : Ends) (p : Addr), Room k (A.deeper (envOfC qual scope s.heap.objs.size f cdv)) →
      RetN { G := G, H := H, M := fun q => q ∈ [p, d] } D [p, d] (post d y) r (res y) → (∀ σ G' H', LeE G H (fun q => q ∈ [p, d]) G' H' → Ows G' H' [p, d] (post d y) → r.rel G' .non (res y) → D.nx σ H') →
      Bk (cxOf (CXL P w) P w K mg base N qual scope f cdv A outer s H E0) { G := G, H := H, M := fun q => q ∈ [p, d] } (slotsP (pars d y ++ [.ow (own y)]) [p, d] ++ List.replicate (N.length - (ps.length + 1)) .no) body D) :
    FnOk P w K mg base (CXL P w) (k + 1) f fd ps (GSp Pre (fun d y => pars d y ++ [.ow (own y)]) r res post) := by
  refine F.ok S (fun vs H Q E ⟨d, y, G, as, _, _, _, fi, _⟩ => by have z := fi.length; rw [List.length_append, List.length_append, hl] at z; simpa using z) fun cdv A outer s H vs Q E hr ⟨d, y, G, as, hp, e, nd, fi, hq⟩ => ⟨fun D σ' H' => WB (cxOf (CXL P w) P w K mg base N qual scope f cdv A outer s H E) body (σ'.set ps.length (some (.ref d))) H' D, ?_, ?_⟩
  · exact ⟨fun pins s σ H D I h => h.run pins s (inv_ghost I hgn hnv)⟩
  have hvl : vs.length = ps.length := by have z := fi.length; rw [List.length_append, List.length_append, hl] at z; simpa using z
  have hlt : ps.length < N.length := (List.getElem?_eq_some_iff.mp hgn).1
  obtain ⟨bs, e2⟩ := fits_last fi
  have hn := fi.nOwn
  have no : ∀ (ps : List Par) (c : Oc), nOwn (ps ++ [.ow c]) = nOwn ps + 1 := fun ps c => by
    induction ps with
    | nil => rfl
    | cons a ps ih => cases a <;> simp [nOwn, ih]
  rw [no, ho, e2, List.length_append] at hn
  match bs, hn with
  | [p], _ =>
    subst e2
    have h := holds_startP (N := N) e nd fi (by rw [List.length_append, hl]; exact hlt)
    have es : (L2.start N vs).set ps.length (some (.ref d)) = L2.start N (vs ++ [.ref d]) := by
      unfold L2.start
      have : N.length - vs.length = (N.length - (vs ++ [V.ref d]).length) + 1 := by rw [List.length_append, List.length_singleton]; omega
      rw [this, List.map_append, ← hvl]
      exact set_last vs (.ref d) _
    rw [List.length_append, hl, List.length_singleton] at h
    show WB _ body ((L2.start N vs).set ps.length (some (.ref d))) H _
    rw [es]
    exact hb d y hp cdv A outer s H E G _ p hr (fun v G' H' l o rv => hq v G' H' l o rv) (fun σ G' H' l o rv => hq _ G' H' l o rv) G H _ h
end
/-! ### tests and values that change what is one's own -/
def EvTM (X : Cx) (Γ Γ' : List Slot) (e : Expr) (b : Bool) : Prop := ∀ (E : Ent) (G H : Hp) (σ : L2.St), Holds E G H σ Γ → ∀ Q : Bool → Hp → Prop, (∀ G' H', Ex G G' → Holds E G' H' σ Γ' → Q b H') → WT X e σ H Q
section
variable {X : Cx} {E : Ent} {Γ Γ' Γ1 Γ2 : List Slot} {D : Ends} {e f g o : Expr} {es : List Expr} {rest : List Stmt} {pos p p2 apos cpos : Pos} {α β γ ι : Type} {r : Rp α} {x : α} {s : Rp β} {y : β} {as : List α} {b c : Bool} {k j : Nat} {m : Str} {pl : Sem Bool}
theorem etm_val (h : EvM X Γ Γ' e rBool b) (he : ∀ whole, isTrue e X.env whole = (do let v ← whole; standAt e.pos; holding [v] (truthy v)) := by intro _; rfl) : EvTM X Γ Γ' e b := fun E G H σ hh Q k =>
  WT.of (pt_val WE.pe he) (h E G H σ hh _ fun a G1 H1 g1 h1 r1 => ⟨b, r1, k G1 H1 g1 h1⟩)
theorem etm_not (h : EvTM X Γ Γ' e b) : EvTM X Γ Γ' (.UnaryOp .Not e pos) (!b) := fun E G H σ hh Q k => WT.of (pt_not WT.pt) (h E G H σ hh _ fun G1 H1 g1 h1 => k G1 H1 g1 h1)
theorem etm_or2 (h : EvT X Γ e false) (h2 : EvTM X Γ Γ' f b) : EvTM X Γ Γ' (.BoolOp .Or [e, f] pos) b := fun E G H σ hh Q k =>
  WT.of (PW.pt (pw_or WT.pt (pw_or1 WT.pt))) (h E G H σ hh _ fun G1 H1 l1 => by
    rw [if_neg Bool.false_ne_true]
    exact h2 E G1 H1 σ (hh.step l1) _ fun G2 H2 g2 h2 => k G2 H2 (l1.g.trans g2) h2)
theorem em_and2 (h : Ev X Γ e rBool true) (h2 : EvM X Γ Γ' f rBool b) : EvM X Γ Γ' (.BoolOp .And [e, f] pos) rBool b := fun E G H σ hh Q k =>
  WE.of (pe_and WE.pe (pe_one WE.pe)) (h E G H σ hh _ fun a G1 H1 l1 r1 => ⟨true, r1, by
    rw [if_pos rfl]
    exact h2 E G1 H1 σ (hh.step l1) Q fun v G2 H2 g2 h2 r2 => k v G2 H2 (l1.g.trans g2) h2 r2⟩)
theorem bk_ifM {cc : Expr} {A B : List Stmt} (hc : EvTM X Γ Γ' cc b) (ha : b = true → Bk X E Γ' A (thenD X rest D)) (hb : b = false → Bk X E Γ' B (thenD X rest D)) : Bk X E Γ (.If cc A B pos :: rest) D :=
  bk_of (ps_if WT.pt WB.pss WB.pss) fun G H σ hh => hc E G H σ hh _ fun G1 H1 g1 h1 => by
    cases b with
    | true =>
      rw [if_pos rfl]
      exact ha rfl G1 H1 σ h1
    | false =>
      rw [if_neg Bool.false_ne_true]
      exact hb rfl G1 H1 σ h1
/-! ### a method of a course -/
theorem args3 {G : Hp} {t1 t2 t3 : Ty} : ∀ {vs : List V}, Args G vs [t1, t2, t3] → ∃ v1 v2 v3, vs = [v1, v2, v3] ∧ t1.r.rel G v1 t1.a ∧ t2.r.rel G v2 t2.a ∧ t3.r.rel G v3 t3.a
  | [v1, v2, v3], h => ⟨v1, v2, v3, rfl, h.1, h.2.1, h.2.2.1⟩
theorem ins3 {C : Addr} {ns : List Str} {t1 t2 t3 : Ty} {G : Hp} {ob : HO} (h : (oIns C ns [t1, t2, t3]).rel G ob) : ∃ dx v1 v2 v3, ob = .ins C dx (ns.zip [v1, v2, v3]) ∧ t1.r.rel G v1 t1.a ∧ t2.r.rel G v2 t2.a ∧ t3.r.rel G v3 t3.a := by
  obtain ⟨dx, vs, e, a, _⟩ := h
  obtain ⟨v1, v2, v3, e2, a1, a2, a3⟩ := args3 a
  exact ⟨dx, v1, v2, v3, by rw [e, e2], a1, a2, a3⟩
theorem cr_lookup {K : PySem.W.Frag} {G : Hp} {d : Addr} {plan : Pl} {shown : Rat} {ob : HO} (h : (oCr K d plan shown).rel G ob) : ∃ dx v1 v3, ob = .ins (cCr K) dx (cNs.zip [v1, .ref d, v3]) ∧ (rWk K (cW K)).rel G v1 plan ∧ (rQ K).rel G v3 shown :=
  Exists.elim (ins3 h) fun dx h => Exists.elim h fun v1 h => Exists.elim h fun v2 h => Exists.elim h fun v3 h =>
    ⟨dx, v1, v3, (congrArg (fun z => HO.ins (cCr K) dx (cNs.zip [v1, z, v3])) (show v2 = .ref d from h.2.2.1)) ▸ h.1, h.2.1, h.2.2.2⟩
theorem args_fits {G H : Hp} {d : Addr} {c : Oc} {ob : HO} (g : G d = none) (h : H d = some ob) (hc : c.rel G ob) : ∀ {vs : List V} {ts : List Ty}, Args G vs ts → Fits G H (vs ++ [.ref d]) (ts.map Par.ty ++ [.ow c]) [d]
  | [], [], _ => ⟨⟨rfl, g, ob, h, hc⟩, trivial⟩
  | _ :: _, _ :: _, k => ⟨k.1, args_fits g h hc k.2⟩
/-- what a method of a course promises -/
abbrev CSp (K : PySem.W.Frag) {ι α : Type} (Pre : ι → Prop) (st : ι → Cs) (args : ι → List Ty) (r : Rp α) (res : ι → α) (st' : ι → Cs) : Sp :=
  GSp Pre (fun d y => (Par.ow (oCr K d (st y).plan (st y).shown) :: (args y).map Par.ty) ++ [.ow (oDic rInt (st y).did)]) r res (fun d y => [oCr K d (st' y).plan (st' y).shown, oDic rInt (st' y).did])
theorem cs_call {Pre : ι → Prop} {st st' : ι → Cs} {args : ι → List Ty} {res : ι → α} {y : ι} (hp : Pre y) {G0 G H : Hp} {σ : L2.St} {i g : Nat} {d a : Addr} {q : Option Addr} {vs : List V} {Q : VK} (hh : Holds E G H σ Γ) (hig : i ≠ g)
    (hi : Γ[i]? = some (.ow (oCr X.K d (st y).plan (st y).shown) q)) (hg : Γ[g]? = some (.ow (oDic rInt (st y).did) (some d))) (hs : σ[i]? = some (some (.ref a))) (av : Args G vs (args y)) (gg : Ex G0 G)
    (k : ∀ v G' H', Ex G0 G' → Holds E G' H' σ (setOws Γ [i, g] [oCr X.K d (st' y).plan (st' y).shown, oDic rInt (st' y).did]) → r.rel G' v (res y) → Q v H') : CSp X.K Pre st args r res st' (.ref a :: vs) H Q E0 := by
  obtain ⟨a', ob, h1, h2, h3, h4, h5⟩ := hh.ow hi
  rw [hs] at h1
  cases h1
  obtain ⟨d', od, k1, k2, k3, k4, k5⟩ := hh.ow hg
  have ed : d' = d := k3.1
  subst ed
  have ne : a ≠ d' := fun z => by
    subst z
    exact hig (hh.sep i g _ _ hi hg rfl rfl (by rw [hs, k1]))
  refine ⟨d', y, G, [a, d'], hp, hh.le.gh, by simp [ne], ⟨⟨rfl, h2, ob, h4, h5⟩, args_fits k2 k4 k5 av⟩, fun v G' H' l o rv => ?_⟩
  refine k v G' H' (gg.trans l.g) ?_ rv
  exact hh.call (is := [i, g]) (os := [_, _]) (ps := [a, d']) (by simp [hig]) ⟨⟨q, hi⟩, ⟨some d', hg⟩, trivial⟩ ⟨hs, k1, trivial⟩ l o
theorem em_cm0 {Pre : ι → Prop} {st st' : ι → Cs} {args : ι → List Ty} {res : ι → α} {z : α} (h : HasM X.prog X.w X.K X.mg X.base (cCr X.K) m k (CSp X.K Pre st args r res st')) (hr : Room j X.A) (hk : k ≤ j) (y : ι) (hp : Pre y) (i g : Nat) {d : Addr} {q : Option Addr} {a : Str} (hig : i ≠ g)
    (hi : Γ[i]? = some (.ow (oCr X.K d (st y).plan (st y).shown) q)) (hg : Γ[g]? = some (.ow (oDic rInt (st y).did) (some d))) (ha : args y = []) (hz : res y = z := by rfl) (hΓ : setOws Γ [i, g] [oCr X.K d (st' y).plan (st' y).shown, oDic rInt (st' y).did] = Γ' := by rfl)
    (hf : ∀ v1 v2 v3 : V, (cNs.zip [v1, v2, v3] : List (Str × V)).lookup m = none := by intro _ _ _; rfl)
    (hN : X.N[i]? = some a := by rfl) (hv : Vis X.env.scope a := by first | exact Or.inl rfl | exact Or.inr (Or.inl rfl) | exact Or.inr (Or.inr rfl)) (hd : (a == ("__debug__" : Str)) = false := by decide) (hcd : (a == ("__classdict__" : Str)) = false := by decide)
    (ht : eval (.Call (.Attribute (.Name a p) m apos) [] [] pos) X.env = (do
      let ov ← eval (.Name a p) X.env
      standAt apos.atName
      let (f, first) ← holding [ov] (getMethod ov m pl)
      callWith pos f first (backTo pos (starEach [] X.env)) (backToKw pos (keywordEach [] X.env))) := by rfl) :
    EvM X Γ Γ' (.Call (.Attribute (.Name a p) m apos) [] [] pos) r z := fun E G H σ hh Q kk =>
  we_meth0 h hr hk (WE.of (pe_var hN hv hd hcd) (by
    obtain ⟨a', ob, h1, h2, h3, h4, h5⟩ := hh.ow hi
    obtain ⟨dx, v1, v3, e, _, _⟩ := cr_lookup h5
    subst e
    exact ⟨_, h1, a', dx, _, rfl, h4, hf _ _ _, cs_call (G0 := G) hp hh hig hi hg h1 (by rw [ha]; trivial) (.refl _) (by rw [hΓ, hz]; exact kk)⟩)) ht
theorem em_cm {Pre : ι → Prop} {st st' : ι → Cs} {args : ι → List Ty} {res : ι → α} {z : α} (h : HasM X.prog X.w X.K X.mg X.base (cCr X.K) m k (CSp X.K Pre st args r res st')) (hr : Room j X.A) (hk : k ≤ j) (y : ι) (hp : Pre y) (i g : Nat) {d : Addr} {q : Option Addr} {a : Str} (hig : i ≠ g)
    (hi : Γ[i]? = some (.ow (oCr X.K d (st y).plan (st y).shown) q)) (hg : Γ[g]? = some (.ow (oDic rInt (st y).did) (some d))) (ha : EvA X Γ (e :: es) (args y)) (hz : res y = z := by rfl) (hΓ : setOws Γ [i, g] [oCr X.K d (st' y).plan (st' y).shown, oDic rInt (st' y).did] = Γ' := by rfl)
    (hf : ∀ v1 v2 v3 : V, (cNs.zip [v1, v2, v3] : List (Str × V)).lookup m = none := by intro _ _ _; rfl)
    (hN : X.N[i]? = some a := by rfl) (hv : Vis X.env.scope a := by first | exact Or.inl rfl | exact Or.inr (Or.inl rfl) | exact Or.inr (Or.inr rfl)) (hd : (a == ("__debug__" : Str)) = false := by decide) (hcd : (a == ("__classdict__" : Str)) = false := by decide)
    (hst : starEach (e :: es) X.env = (false, eval e X.env) :: starEach es X.env := by rfl) (hpl : (backTo pos (starEach es X.env)).any (·.1) = false := by rfl)
    (ht : eval (.Call (.Attribute (.Name a p) m apos) (e :: es) [] pos) X.env = (do
      let ov ← eval (.Name a p) X.env
      standAt apos.atName
      let (f, first) ← holding [ov] (getMethod ov m pl)
      callWith pos f first (backTo pos (starEach (e :: es) X.env)) (backToKw pos (keywordEach [] X.env))) := by rfl) :
    EvM X Γ Γ' (.Call (.Attribute (.Name a p) m apos) (e :: es) [] pos) r z := fun E G H σ hh Q kk =>
  we_meth h hr hk (WE.of (pe_var hN hv hd hcd) (by
    obtain ⟨a', ob, h1, h2, h3, h4, h5⟩ := hh.ow hi
    obtain ⟨dx, v1, v3, e, _, _⟩ := cr_lookup h5
    subst e
    exact ⟨_, h1, a', dx, _, rfl, h4, hf _ _ _, ha E G H σ hh _ fun vs G1 H1 l1 a1 => cs_call (G0 := G) hp (hh.step l1) hig hi hg h1 a1 l1.g (by rw [hΓ, hz]; exact kk)⟩)) hst hpl ht
end
end Hf

namespace Hf
open PySem PySem.Spec PyProof.Rows L2 ClX
/-! ### a course that is only looked at -/
theorem LeE.re {G0 H0 G1 H1 G2 H2 : Hp} {M0 M1 : Addr → Prop} (a : LeE G0 H0 M0 G1 H1) (b : LeE G1 H1 M1 G2 H2) (hm : ∀ x, M1 x → M0 x ∨ H0 x = none) : LeE G0 H0 M0 G2 H2 := by
  refine ⟨a.g.trans b.g, fun x o e => ?_, b.gh, fun x o h1 h2 => ?_, a.m⟩
  · rcases a.h x o e with ⟨n, h⟩ | ⟨n, u, h⟩
    · rcases b.h x o h with ⟨n2, h2⟩ | ⟨n2, u, h2⟩
      · exact .inl ⟨n, h2⟩
      · rcases hm x n2 with z | z
        · exact absurd z n
        · rw [e] at z; cases z
    · rcases b.h x u h with ⟨n2, h2⟩ | ⟨n2, u', h2⟩
      · exact .inr ⟨n, u, h2⟩
      · exact .inr ⟨n, u', h2⟩
  · cases e : G1 x with
    | some u => exact a.new x u e h2
    | none =>
      have z := b.new x o h1 e
      cases w : H0 x with
      | none => rfl
      | some q =>
        rcases a.h x q w with ⟨_, k⟩ | ⟨_, u, k⟩
        · rw [z] at k; cases k
        · rw [z] at k; cases k
theorem LeE.addF {G0 H0 G H : Hp} {M : Addr → Prop} {a : Addr} {o : HO} (l : LeE G0 H0 M G H) (h : H a = some o) (n : H0 a = none) (g : G a = none) : LeE G0 H0 M (upd G a o) H :=
  ⟨l.g.trans (Evl.Ex.new g), l.h, fun b u z => by
    by_cases w : b = a
    · subst w; rw [upd_same] at z; cases z; exact h
    · rw [upd_ne w] at z; exact l.gh b u z, fun b u z1 z2 => by
    by_cases w : b = a
    · subst w; exact n
    · rw [upd_ne w] at z1; exact l.new b u z1 z2, l.m⟩
theorem look_none {E : Ent} {G H : Hp} {σ : L2.St} {Γ Γ1 : List Slot} {α : Type} {r : Rp α} {x : α} {i : Nat} {v : V} {G2 : Hp} (hh : Holds E G H σ Γ) (l : Γ1.length = Γ.length) (gx : Ex G G2) (gh : Ex G2 H) (hv : σ[i]? = some (some v)) (hr : r.rel G2 v x)
    (w : ∀ (j : Nat) (s : Slot), Γ1[j]? = some s → s = .no ∨ (j = i ∧ s = .sh r x) ∨ (s.isOw = false ∧ Γ[j]? = some s)) : Holds { G := G2, H := H } G2 H σ Γ1 := by
  refine ⟨LeE.start gh, (fun a u z => by cases z), by rw [l]; exact hh.len, fun j s e => ?_, fun j1 j2 s t e1 e2 o1 o2 z => ?_⟩
  · rcases w j s e with rfl | ⟨rfl, rfl⟩ | ⟨o1, e'⟩
    · trivial
    · exact ⟨_, hv, hr⟩
    · have z := hh.ok j s e'
      cases s with
      | no => trivial
      | sh r' a' =>
        obtain ⟨v, z1, z2⟩ := z
        exact ⟨v, z1, r'.mono gx z2⟩
      | ow c' q' => cases o1
  · rcases w j1 s e1 with rfl | ⟨rfl, rfl⟩ | ⟨n1, _⟩
    · cases o1
    · cases o1
    · rw [n1] at o1; cases o1
theorem lookC_holds {K : PySem.W.Frag} {E : Ent} {G H : Hp} {σ : L2.St} {Γ : List Slot} {d : Addr} {plan : Pl} {did : List (Str × Int)} {shown : Rat} {q : Option Addr} {i g : Nat} (hh : Holds E G H σ Γ) (hig : i ≠ g) (hi : Γ[i]? = some (.ow (oCr K d plan shown) q)) (hg : Γ[g]? = some (.ow (oDic rInt did) (some d))) :
    ∃ a oa od, H a = some oa ∧ H d = some od ∧ G d = none ∧ G a = none ∧ a ≠ d ∧ Pin E a q ∧ E.M d ∧ notTup oa ∧ notTup od ∧ Holds { G := upd (upd G d od) a oa, H := H } (upd (upd G d od) a oa) H σ (lookS Γ i (.sh (rCs K) ⟨plan, did, shown⟩)) := by
  obtain ⟨a, oa, h1, h2, h3, h4, h5⟩ := hh.ow hi
  obtain ⟨d', od, k1, k2, k3, k4, k5⟩ := hh.ow hg
  have ed : d' = d := k3.1
  subst ed
  have ne : a ≠ d' := fun z => by
    subst z
    exact hig (hh.sep i g _ _ hi hg rfl rfl (by rw [h1, k1]))
  obtain ⟨dx, v1, v3, e, r1, r3⟩ := cr_lookup h5
  obtain ⟨kvs, e2, ka⟩ := k5
  have ga : (upd G d' od) a = none := by rw [upd_ne ne]; exact h2
  have x1 : Ex G (upd G d' od) := Evl.Ex.new k2
  have x2 : Ex (upd G d' od) (upd (upd G d' od) a oa) := Evl.Ex.new ga
  refine ⟨a, oa, od, h4, k4, k2, h2, ne, h3, k3.2, by rw [e]; trivial, by rw [e2]; trivial, look_none hh lookS_len (x1.trans x2) (fun b u z => ?_) h1 ?_ lookS_ok⟩
  · by_cases e : b = a
    · subst e; rw [upd_same] at z; cases z; exact h4
    · rw [upd_ne e] at z
      by_cases e : b = d'
      · subst e; rw [upd_same] at z; cases z; exact k4
      · rw [upd_ne e] at z; exact hh.le.gh b u z
  · refine ⟨a, d', dx, v1, v3, rfl, by rw [upd_same, e], (rWk K (cW K)).mono (x1.trans x2) r1, ⟨d', kvs, rfl, ?_, ka.mono (x1.trans x2)⟩, (rQ K).mono (x1.trans x2) r3⟩
    rw [upd_ne (fun w => ne w.symm), upd_same, e2]
section
variable {X : Cx} {E : Ent} {Γ Γ' Γ1 Γ2 : List Slot} {D : Ends} {e f g o : Expr} {es : List Expr} {rest : List Stmt} {pos p p2 apos cpos : Pos} {α β γ ι : Type} {r : Rp α} {x : α} {s : Rp β} {y : β} {as : List α} {k j : Nat} {m : Str} {pl : Sem Bool}
  {d : Addr} {plan : Pl} {did : List (Str × Int)} {shown : Rat} {q : Option Addr} {i n : Nat} {c : Cs}
theorem ev_lookC (i n : Nat) (hi : Γ[i]? = some (.ow (oCr X.K d plan shown) q)) (hg : Γ[n]? = some (.ow (oDic rInt did) (some d))) (hig : i ≠ n) (th : Thin s y) (he : Ev X (lookS Γ i (.sh (rCs X.K) ⟨plan, did, shown⟩)) e s y) : Ev X Γ e s y := fun E G H σ hh Q k => by
  obtain ⟨a, oa, od, h1, h2, h3, h4, h5, _, _, h6, h7, h8⟩ := lookC_holds hh hig hi hg
  refine he _ _ _ σ h8 Q fun v G' H' l' r' => ?_
  obtain ⟨l2, gp⟩ := look_le h1 (by rw [upd_ne h5]; exact h4) l'
  obtain ⟨l3, gp3⟩ := look_le h2 h3 l2
  refine k v _ H' l3 (th _ d od v h7 ?_)
  rw [cutG_upd gp3]
  refine th _ a oa v h6 ?_
  rw [cutG_upd gp]
  exact r'
theorem et_lookC (i n : Nat) {b : Bool} (hi : Γ[i]? = some (.ow (oCr X.K d plan shown) q)) (hg : Γ[n]? = some (.ow (oDic rInt did) (some d))) (hig : i ≠ n) (he : EvT X (lookS Γ i (.sh (rCs X.K) ⟨plan, did, shown⟩)) e b) : EvT X Γ e b := fun E G H σ hh Q k => by
  obtain ⟨a, oa, od, h1, h2, h3, h4, h5, _, _, h6, h7, h8⟩ := lookC_holds hh hig hi hg
  exact he _ _ _ σ h8 Q fun G' H' l' => k _ H' (look_le h2 h3 (look_le h1 (by rw [upd_ne h5]; exact h4) l').1).1
/-- the course told, and for good -/
theorem bk_retC (i n : Nat) {E0 : Ent} {a : Addr} (hi : Γ[i]? = some (.ow (oCr X.K d plan shown) (some a))) (hg : Γ[n]? = some (.ow (oDic rInt did) (some d))) (hig : i ≠ n) (l0 : LeE E0.G E0.H E0.M E.G E.H) (na : E0.H a = none) (nd : E0.H d = none) (hm : ∀ b, E.M b → b = a ∨ b = d)
    (he : Ev X (lookS Γ i (.sh (rCs X.K) ⟨plan, did, shown⟩)) e r x) (k : RetOk E0 D r x) : Bk X E Γ (.Return (some e) pos :: rest) D :=
  bk_of (ps_ret WE.pe) fun G H σ hh => by
    obtain ⟨a', oa, od, h1, h2, h3, h4, h5, h9, _, h6, h7, h8⟩ := lookC_holds hh hig hi hg
    have ea : a' = a := h9.1
    subst ea
    refine he _ _ _ σ h8 _ fun v G' H' l' r' => k v G' H' ?_ r'
    obtain ⟨l2, gp⟩ := look_le h1 (by rw [upd_ne h5]; exact h4) l'
    obtain ⟨l3, gp3⟩ := look_le h2 h3 l2
    have z : LeE E0.G E0.H E0.M (cutG (cutG G' a') d) H' := LeE.re l0 (hh.le.step l3) fun b mb => by
      rcases hm b mb with rfl | rfl
      · exact .inr na
      · exact .inr nd
    have z2 := z.addF (l3.h _ _ h2) nd (by unfold cutG; rw [if_pos rfl])
    rw [cutG_upd gp3] at z2
    have z3 := z2.addF (l2.h _ _ h1) na (by unfold cutG; rw [if_pos rfl])
    rw [cutG_upd gp] at z3
    exact z3
/-! ### its fields -/
structure CrOk (K : PySem.W.Frag) : Prop where
  cls : Cls K (cCr K)
  plan : NoAttr K (cCr K) "plan"
  did : NoAttr K (cCr K) "did"
  shown : NoAttr K (cCr K) "shown"
theorem ev_csP (ok : CrOk X.K) (h : Ev X Γ e (rCs X.K) c) (hb : attributeBase e "plan" X.env (eval e X.env) = eval e X.env := by rfl) : Ev X Γ (.Attribute e "plan" pos) (rWk X.K (cW X.K)) c.plan := fun E G H σ hh Q q =>
  WE.of (pe_fld WE.pe hb) (h E G H σ hh _ fun v G1 H1 l1 r1 => by
    obtain ⟨a, d, dx, v1, v3, e1, h1, h2, h3, h4⟩ := r1
    exact ⟨a, _, dx, _, v1, e1, l1.gh _ _ h1, ok.cls, ok.plan, rfl, q _ G1 H1 l1 h2⟩)
theorem ev_csD (ok : CrOk X.K) (h : Ev X Γ e (rCs X.K) c) (hb : attributeBase e "did" X.env (eval e X.env) = eval e X.env := by rfl) : Ev X Γ (.Attribute e "did" pos) (rDic rInt) c.did := fun E G H σ hh Q q =>
  WE.of (pe_fld WE.pe hb) (h E G H σ hh _ fun v G1 H1 l1 r1 => by
    obtain ⟨a, d, dx, v1, v3, e1, h1, h2, h3, h4⟩ := r1
    exact ⟨a, _, dx, _, V.ref d, e1, l1.gh _ _ h1, ok.cls, ok.did, rfl, q _ G1 H1 l1 h3⟩)
theorem ev_csS (ok : CrOk X.K) (h : Ev X Γ e (rCs X.K) c) (hb : attributeBase e "shown" X.env (eval e X.env) = eval e X.env := by rfl) : Ev X Γ (.Attribute e "shown" pos) (rQ X.K) c.shown := fun E G H σ hh Q q =>
  WE.of (pe_fld WE.pe hb) (h E G H σ hh _ fun v G1 H1 l1 r1 => by
    obtain ⟨a, d, dx, v1, v3, e1, h1, h2, h3, h4⟩ := r1
    exact ⟨a, _, dx, _, v3, e1, l1.gh _ _ h1, ok.cls, ok.shown, rfl, q _ G1 H1 l1 h4⟩)
theorem Ev.atB {oc : Oc} {n : Nat} (ho : Ev X Γ o (rAt d) ()) (hg : Γ[n]? = some (.ow oc (some d))) : EvB X Γ o oc := fun E G H σ hh Q q => ho E G H σ hh Q fun v G' H' l e => by
  obtain ⟨p, ob, h1, h2, h3, h4, h5⟩ := (hh.step l).ow hg
  have ep : p = d := h3.1
  subst ep
  have ev : v = .ref p := e
  subst ev
  exact q p ob G' H' l h4 h5
/-- self.did[k] = v -/
theorem bk_dputC (hr : Room j X.A) (n : Nat) {t : Str} {ds : List (Str × α)} (hg : Γ[n]? = some (.ow (oDic r ds) (some d))) (ho : Ev X Γ o (rAt d) ()) (he : Ev X Γ e r x) (hk : Ev X Γ f rStr t) (hl : ds.length < sizeLine) (kk : Bk X E (Γ.set n (.ow (oDic r (dPut ds t x)) (some d))) rest D)
    (hps : PS X (.Assign [.Subscript o f p2] e pos) (sDPut (WE X o) (WE X f) (WE X e)) := by exact ps_dput (hu_of hr) WE.pe WE.pe WE.pe rfl) : Bk X E Γ (.Assign [.Subscript o f p2] e pos :: rest) D :=
  bk_of hps fun G H σ hh => he E G H σ hh _ fun v G1 H1 l1 r1 => ho E G1 H1 σ (hh.step l1) _ fun w0 G2 H2 l2 e0 => by
    have hh1 := (hh.step l1).step l2
    obtain ⟨q, ob, h1, h2, h3, h4, kvs, h5, h6⟩ := hh1.ow hg
    subst h5
    have eq : q = d := h3.1
    subst eq
    have e0' : w0 = .ref q := e0
    subst e0'
    refine hk E G2 H2 σ hh1 _ fun w G3 H3 l3 r3 => ?_
    have e2 : w = .str t := r3
    subst e2
    refine ⟨q, _, rfl, DPut.k (k := Sum.inr t) (l3.h _ _ h4) (by rw [h6.length]; exact hl), ?_⟩
    exact kk G3 _ σ ((hh1.step l3).mut hg h1 ⟨_, rfl, (h6.mono l3.g).put (r.mono (l2.g.trans l3.g) r1)⟩)
/-- c.far() of a course that is looked at -/
theorem ev_cm {Pre : ι → Prop} {args : ι → List Ty} {res : ι → α} {z : α} (h : HasM X.prog X.w X.K X.mg X.base (cCr X.K) m k (PSp Pre args r res)) (hr : Room j X.A) (hk : k ≤ j) (y : ι) (hp : Pre y) (ho : Ev X Γ o (rCs X.K) c) (ha : args y = [⟨rCs X.K, c⟩]) (hz : res y = z := by rfl)
    (hf : ∀ v1 v2 v3 : V, (cNs.zip [v1, v2, v3] : List (Str × V)).lookup m = none := by intro _ _ _; rfl)
    (ht : eval (.Call (.Attribute o m apos) [] [] pos) X.env = (do
      let ov ← eval o X.env
      standAt apos.atName
      let (f, first) ← holding [ov] (getMethod ov m pl)
      callWith pos f first (backTo pos (starEach [] X.env)) (backToKw pos (keywordEach [] X.env))) := by rfl) : Ev X Γ (.Call (.Attribute o m apos) [] [] pos) r z := fun E G H σ hh Q q =>
  we_meth0 h hr hk (ho E G H σ hh _ fun v G1 H1 l1 r1 => by
    have r0 := r1
    obtain ⟨a, d, dx, v1, v3, e1, h1, h2, h3, h4⟩ := r1
    subst e1
    exact ⟨a, dx, _, rfl, l1.gh _ _ h1, hf _ _ _, y, G1, hp, l1.gh, by rw [ha]; exact ⟨r0, trivial⟩, fun u G3 H3 l3 r3 => q u G3 H3 (l1.trans l3) (hz ▸ r3)⟩) ht
end
end Hf

namespace Hf
open PySem PySem.Spec PyProof.Rows L2 ClX
/-! ### a new course -/
/-- what __init__ of a course promises -/
def ISp (K : PySem.W.Frag) : Sp := fun vs H Q E => ∃ (plan : Pl) (G : Hp) (a : Addr) (v : V) (dx : Addr), vs = [.ref a, v] ∧ Ex G H ∧ G a = none ∧ H a = some (.ins (cCr K) dx []) ∧ (rWk K (cW K)).rel G v plan ∧
  ∀ w G' H' d, LeE G H (fun p => p = a) G' H' → d ≠ a → H d = none → Ows G' H' [a, d] [oCr K d plan 0, oDic rInt []] → rNon.rel G' w () → Q w H'
section
variable {P : Program} {w : World} {K : PySem.W.Frag} {mg : Str → Option Value} {base : Heap} {x qual : Str} {params : Arguments} {body : List Stmt} {scope : Scope} {dvs : List V} {kws : List (Str × V)} {f : Addr} {fd : FuncData}
theorem fn_initC {N ps : List Str} {k : Nat} (F : FunD K x qual params body scope dvs kws f fd) (S : FnScope N ps scope) (h2 : ps.length = 2)
    (hb : ∀ (plan : Pl) (cdv : Value) (A : Around) (outer : List Env) (s : Shared) (H : Hp) (E0 : XK) (G : Hp) (D : Ends) (a : Addr), Room k (A.deeper (envOfC qual scope s.heap.objs.size f cdv)) →
      (∀ σ G' H' d, LeE G H (fun p => p = a) G' H' → d ≠ a → H d = none → Ows G' H' [a, d] [oCr K d plan 0, oDic rInt []] → D.nx σ H') →
      Bk (cxOf (CXL P w) P w K mg base N qual scope f cdv A outer s H E0) { G := G, H := H, M := fun p => p = a } (.ow (oIns (cCr K) [] []) (some a) :: .sh (rWk K (cW K)) plan :: List.replicate (N.length - 2) .no) body D) :
    FnOk P w K mg base (CXL P w) (k + 1) f fd ps (ISp K) := by
  refine F.ok S (fun vs H Q E ⟨plan, G, a, v, dx, e, _⟩ => by rw [e, h2]; rfl) fun cdv A outer s H vs Q E hr ⟨plan, G, a, v, dx, e, gx, g1, g2, rv, hq⟩ => ⟨_, WB.pss, ?_⟩
  subst e
  have hN : 2 ≤ N.length := by
    have z := congrArg List.length S.pre
    rw [List.length_take] at z
    omega
  have h := holds_startP (N := N) (vs := [.ref a, v]) (ps := [.ow (oIns (cCr K) [] []), .ty ⟨rWk K (cW K), plan⟩]) (as := [a]) gx (by simp) ⟨⟨rfl, g1, _, g2, dx, [], rfl, trivial, rfl⟩, rv, trivial⟩ hN
  have hM : (fun p => p ∈ [a]) = (fun p => p = a) := by funext p; simp
  rw [hM] at h
  exact hb plan cdv A outer s H E G _ a hr (fun σ G' H' d l ne n o => hq _ G' H' d l ne n o rfl) G H _ h
end
section
variable {X : Cx} {E : Ent} {Γ Γ' Γ1 Γ2 : List Slot} {D : Ends} {e f g o : Expr} {es : List Expr} {body rest : List Stmt} {pos p p2 apos cpos : Pos} {α β γ ι : Type} {r : Rp α} {x : α} {s : Rp β} {y : β} {as : List α} {k j : Nat} {m : Str} {pl : Sem Bool}
  {d : Addr} {plan : Pl} {did : List (Str × Int)} {shown : Rat} {q : Option Addr} {i n : Nat} {c : Cs}
theorem wb_ghost {σ : L2.St} {H : Hp} {v : Option V} {gn : Str} (hN : X.N[n]? = some gn) (hv : ¬ Vis X.env.scope gn) (h : WB X body (σ.set n v) H D) : WB X body σ H D := ⟨fun pins s I => h.run pins s (inv_ghost I hN hv)⟩
/-- self.f = {}: the new dict goes to the slot of a name that isn't there; self is what was handed in -/
theorem bk_fldG (i n : Nat) {a f gn : Str} {C sa : Addr} {ns : List Str} {ts : List Ty} (cl : Cls X.K C) (na : NoAttr X.K C f) (hM : ∀ b, E.M b → b = sa) (hΓ : ∀ (u : Nat) (t : Slot), Γ[u]? = some t → u ≠ i → t.isOw = false) (hg : Γ[i]? = some (.ow (oIns C ns ts) (some sa))) (hgn : X.N[n]? = some gn) (hnv : ¬ Vis X.env.scope gn) (hnl : n < Γ.length) (hin : i ≠ n) {ds : List (Str × α)} (he : EvO X Γ e (oDic r ds)) (hn : f ∉ ns) (hl : ns.length < 1000)
    (k : ∀ (E1 : Ent) (d : Addr), (∀ b, E1.M b → b = sa ∨ b = d) → LeE E.G E.H E.M E1.G E1.H → d ≠ sa → E.H d = none → Bk X E1 ((Γ.set i (.ow (oIns C (ns ++ [f]) (ts ++ [⟨rAt d, ()⟩])) (some sa))).set n (.ow (oDic r ds) (some d))) rest D)
    (hN : X.N[i]? = some a := by rfl) (hv : Vis X.env.scope a := by first | exact Or.inl rfl | exact Or.inr (Or.inl rfl) | exact Or.inr (Or.inr rfl)) (hd : (a == ("__debug__" : Str)) = false := by decide) (hcd : (a == ("__classdict__" : Str)) = false := by decide)
    (hs : swapsWith e (some (.Attribute (.Name a p) f p2)) pos.line X.env = pure false := by rfl) : Bk X E Γ (.Assign [.Attribute (.Name a p) f p2] e pos :: rest) D :=
  bk_of (ps_fld (pe_var hN hv hd hcd) WE.pe hs) fun G H σ hh => he E G H σ hh _ fun d od G1 H1 hfr l1 g1 hd1 c1 => by
    have h1 := hh.step l1
    obtain ⟨q, ob, w1, w2, w3, w4, dx, vs, w5, w6, w7⟩ := h1.ow hg
    subst w5
    have eq : q = sa := w3.1
    subst eq
    refine ⟨_, w1, q, C, dx, _, rfl, w4, cl, na, by rw [List.length_zip]; omega, ?_⟩
    have lv : ns.length = vs.length := by rw [args_length w6]; exact w7
    have ne : d ≠ q := fun z => by
      subst z
      obtain ⟨q2, ob2, z1, _, _, z4, _⟩ := hh.ow hg
      rw [w1] at z1
      cases z1
      rw [hfr] at z4
      cases z4
    refine wb_ghost (v := some (.ref d)) hgn hnv ?_
    have e0 : E.H d = none := by
      cases z : E.H d with
      | none => rfl
      | some u =>
        rcases hh.le.h d u z with ⟨_, w⟩ | ⟨_, u', w⟩
        · rw [hfr] at w; cases w
        · rw [hfr] at w; cases w
    have hm := h1.mut hg w1 (c' := oIns C (ns ++ [f]) (ts ++ [⟨rAt d, ()⟩])) (o' := HO.ins C dx (putF f (.ref d) (ns.zip vs))) ⟨dx, vs ++ [.ref d], by rw [putF_new hn lv], args_app (t := ⟨rAt d, ()⟩) rfl w6, by simp [w7]⟩
    have ge : Ex G1 (upd H1 q (HO.ins C dx (putF f (.ref d) (ns.zip vs)))) := hm.le.gh
    refine k { G := G1, H := upd H1 q (HO.ins C dx (putF f (.ref d) (ns.zip vs))), M := fun b => b = q ∨ b = d } d (fun b z => z) hm.le ne e0 G1 _ _ ⟨⟨.refl _, fun b u z => ?_, ge, fun b u z1 z2 => absurd (z1.symm.trans z2) (by simp), fun b z => ?_⟩, (fun b u z => by cases z), ?_, fun u t z => ?_, fun u1 u2 t1 t2 z1 z2 o1 o2 z => ?_⟩
    · by_cases z2 : b = q ∨ b = d
      · exact .inr ⟨z2, u, z⟩
      · exact .inl ⟨z2, z⟩
    · rcases z with rfl | rfl
      · exact ⟨w2, _, upd_same⟩
      · exact ⟨g1, od, (upd_ne ne).trans hd1⟩
    · simp only [List.length_set]; exact hh.len
    · rcases get_set z with ⟨rfl, rfl⟩ | ⟨zn, z⟩
      · refine ⟨d, od, ?_, g1, ⟨rfl, .inr rfl⟩, (upd_ne ne).trans hd1, c1⟩
        rw [List.getElem?_set_self (by rw [hh.len]; exact hnl)]
      · rw [List.getElem?_set_ne zn]
        rcases get_set z with ⟨rfl, rfl⟩ | ⟨zi, z3⟩
        · exact ⟨q, _, w1, w2, ⟨rfl, .inl rfl⟩, upd_same, ⟨dx, vs ++ [.ref d], by rw [putF_new hn lv], args_app (t := ⟨rAt d, ()⟩) rfl w6, by simp [w7]⟩⟩
        · have zo := hΓ u t z3 (fun z => zi z.symm)
          have y := h1.ok u t z3
          cases t with
          | no => trivial
          | sh r' a' => exact y
          | ow c' q' => cases zo
    · have key : ∀ (u : Nat) (t : Slot), ((Γ.set i (.ow (oIns C (ns ++ [f]) (ts ++ [⟨rAt d, ()⟩])) (some q))).set n (.ow (oDic r ds) (some d)))[u]? = some t → t.isOw = true → u = n ∨ u = i := fun u t z o => by
        rcases get_set z with ⟨rfl, _⟩ | ⟨_, z⟩
        · exact .inl rfl
        · rcases get_set z with ⟨rfl, _⟩ | ⟨zi, z⟩
          · exact .inr rfl
          · rw [hΓ u t z (fun z => zi z.symm)] at o; cases o
      have sn : (σ.set n (some (V.ref d)))[n]? = some (some (.ref d)) := List.getElem?_set_self (by rw [hh.len]; exact hnl)
      have si : (σ.set n (some (V.ref d)))[i]? = some (some (.ref q)) := by rw [List.getElem?_set_ne (fun z => hin z.symm)]; exact w1
      rcases key u1 t1 z1 o1 with rfl | rfl <;> rcases key u2 t2 z2 o2 with rfl | rfl
      · rfl
      · rw [sn, si] at z; cases z; exact absurd rfl ne
      · rw [sn, si] at z; cases z; exact absurd rfl ne
      · rfl
/-- c = Course(plan) -/
theorem bk_course (i n : Nat) {a fn gn : Str} {pr : Pos} (h : HasI X.prog X.w X.K X.mg X.base fn (cCr X.K) k (ISp X.K)) (hr : Room j X.A) (hk : k + 1 ≤ j) (nd : X.N.Nodup) (hΓ : ∀ (u : Nat) (t : Slot), Γ[u]? = some t → t.isOw = false) (hm : ∀ b, ¬ E.M b) (hgn : X.N[n]? = some gn) (hnv : ¬ Vis X.env.scope gn) (hnl : n < Γ.length) (hil : i < Γ.length) (hin : i ≠ n)
    (ha : EvA X Γ [e] [⟨rWk X.K (cW X.K), plan⟩])
    (kk : ∀ (E1 : Ent) (a d : Addr), (∀ b, E1.M b → b = a ∨ b = d) → LeE E.G E.H E.M E1.G E1.H → E.H a = none → E.H d = none → Bk X E1 ((Γ.set i (.ow (oCr X.K d plan 0) (some a))).set n (.ow (oDic rInt []) (some d))) rest D)
    (hi : X.N[i]? = some a := by rfl) (hx : Loc X.env.scope a := by first | exact Or.inl rfl | exact Or.inr rfl)
    (hs : swapsWith (.Call (.Name fn p) [e] [] pos) (some (.Name a pr)) p2.line X.env = pure false := by rfl) (hf : X.fn a = true ∨ X.env.scope.names.lookup a = some .local := by first | exact .inl rfl | exact .inr rfl)
    (hg : Gl X fn := by rfl) (hdb : (fn == ("__debug__" : Str)) = false := by decide)
    (he : starEach (e :: []) X.env = (false, eval e X.env) :: starEach [] X.env := by rfl) (hpl : (backTo pos (starEach [] X.env)).any (·.1) = false := by rfl) : Bk X E Γ (.Assign [.Name a pr] (.Call (.Name fn p) [e] [] pos) p2 :: rest) D :=
  bk_of (ps_set nd hi hx WE.pe hs hf) fun G H σ hh => by
    obtain ⟨f0, fd, ps0, spF, dvs, ds, hmg, mk, hb, hd, F, hin2⟩ := h.ex
    refine WE.of (pe_make mk F (hr.mono hk) hg hmg hb hd passL WA.pa hdb he hpl) ?_
    refine ha E G H σ hh _ fun vs G1 H1 l1 a1 a0 dx na nx ne => hin2 (.ref a0 :: vs) _ _ ?_
    obtain ⟨v, rfl, rv⟩ : ∃ v, vs = [v] ∧ (rWk X.K (cW X.K)).rel G1 v plan := by
      match vs, a1 with
      | [v], a1 => exact ⟨v, rfl, a1.1⟩
    have hh1 := hh.step l1
    have g1a : G1 a0 = none := Evl.fresh_back l1.gh na
    have l2 : Le G1 H1 G1 (upd (upd H1 dx (.own a0)) a0 (.ins (cCr X.K) dx [])) := by
      have z1 : Le G1 H1 G1 (upd H1 dx (.own a0)) := (Le.refl l1.gh).addO nx
      exact z1.addO (by rw [upd_ne (fun w => ne w.symm)]; exact na)
    have hh2 := hh1.step l2
    refine ⟨plan, G1, a0, v, dx, rfl, l2.gh, g1a, upd_same, rv, fun w0 G3 H3 d l3 dn hdn ow rw0 => ⟨rw0, ?_⟩⟩
    obtain ⟨⟨ga, oa, ha3, ca⟩, ⟨gd, od, hd3, cd⟩, _⟩ := ow
    have ea : E.H a0 = none := hh1.le.fresh na
    have ed : E.H d = none := hh2.le.fresh hdn
    have le3 : LeE E.G E.H E.M G3 H3 := LeE.re hh2.le l3 fun b z => by subst z; exact .inr ea
    refine wb_ghost (v := some (.ref d)) hgn hnv ?_
    have sn : ((σ.set i (some (V.ref a0))).set n (some (V.ref d)))[n]? = some (some (.ref d)) := List.getElem?_set_self (by rw [List.length_set, hh.len]; exact hnl)
    have si : ((σ.set i (some (V.ref a0))).set n (some (V.ref d)))[i]? = some (some (.ref a0)) := by rw [List.getElem?_set_ne (fun z => hin z.symm), List.getElem?_set_self (by rw [hh.len]; exact hil)]
    refine kk { G := G3, H := H3, M := fun b => b = a0 ∨ b = d } a0 d (fun b z => z) le3 ea ed G3 H3 _ ⟨⟨.refl _, fun b u z => ?_, le3.gh, fun b u z1 z2 => absurd (z1.symm.trans z2) (by simp), fun b z => ?_⟩, (fun b u z => by cases z), ?_, fun u t z => ?_, fun u1 u2 t1 t2 z1 z2 o1 o2 z => ?_⟩
    · by_cases z2 : b = a0 ∨ b = d
      · exact .inr ⟨z2, u, z⟩
      · exact .inl ⟨z2, z⟩
    · rcases z with rfl | rfl
      · exact ⟨ga, oa, ha3⟩
      · exact ⟨gd, od, hd3⟩
    · simp only [List.length_set]; exact hh.len
    · rcases get_set z with ⟨rfl, rfl⟩ | ⟨zn, z⟩
      · exact ⟨d, od, sn, gd, ⟨rfl, .inr rfl⟩, hd3, cd⟩
      · rcases get_set z with ⟨rfl, rfl⟩ | ⟨zi, z3⟩
        · exact ⟨a0, oa, si, ga, ⟨rfl, .inl rfl⟩, ha3, ca⟩
        · rw [List.getElem?_set_ne zn, List.getElem?_set_ne zi]
          have zo := hΓ u t z3
          have y := hh1.ok u t z3
          cases t with
          | no => trivial
          | sh r' a' =>
            obtain ⟨v', y1, y2⟩ := y
            exact ⟨v', y1, r'.mono l3.g y2⟩
          | ow c' q' => cases zo
    · have key : ∀ (u : Nat) (t : Slot), ((Γ.set i (.ow (oCr X.K d plan 0) (some a0))).set n (.ow (oDic rInt []) (some d)))[u]? = some t → t.isOw = true → u = n ∨ u = i := fun u t z o => by
        rcases get_set z with ⟨rfl, _⟩ | ⟨_, z⟩
        · exact .inl rfl
        · rcases get_set z with ⟨rfl, _⟩ | ⟨zi, z⟩
          · exact .inr rfl
          · rw [hΓ u t z] at o; cases o
      rcases key u1 t1 z1 o1 with rfl | rfl <;> rcases key u2 t2 z2 o2 with rfl | rfl
      · rfl
      · rw [sn, si] at z; cases z; exact absurd rfl dn
      · rw [sn, si] at z; cases z; exact absurd rfl dn
      · rfl
end
end Hf

namespace Hf
open PySem PySem.Spec PyProof.Rows L2 ClX
/-! ### what a telling does: in plain words -/
structure TelOk (t : Tel) : Prop where
  name : isNameB t.name = true ∧ t.name.length ≤ 1000
  num : t.isAgain = false → isNum t.num 1 (if t.isFound = true then 100 else 1000) = true
  leaf : t.isFound = true → (isNameB t.leaf = true ∧ t.leaf.length ≤ 1000) ∧ StOk t.last
/-- a plan, and what its leaves did -/
structure CsOk (p : Pl) (d : List (Str × Int)) : Prop where
  plan : PlanOk p
  cnt : CntOk d p
  pos : ∀ n, 0 ≤ dg d n
  sub : ∀ n, n ∉ p.names → dGet d n = none
def zeroed (d : List (Str × Int)) (ls : List Pl) : List (Str × Int) := ls.foldl (fun (d : List (Str × Int)) (l : Pl) => dPut d l.name 0) d
/-- a telling that can be -/
inductive Took (p : Pl) (d : List (Str × Int)) : Tel → Pl → List (Str × Int) → Prop
  | again {n : Str} {w : Pl} (h : p.find n = some w) : Took p d (.again n) p (zeroed d w.leaves)
  | found {n ln : Str} {wt : Int} {st : Option Int} {w : Pl} (h : p.find n = some w) (hl : w.isLeaf = false) (ok : PlanOk (Pl.withLeaf n wt (.leaf ln st) p)) : Took p d (.found n wt ln st) (Pl.withLeaf n wt (.leaf ln st) p) d
  | knows {n : Str} {k : Int} {w : Pl} (h : p.find n = some w) (hl : w.isLeaf = true) (hs : w.steps = none) (hk : dg d n ≤ k) : Took p d (.knows n k) (Pl.withSteps n k p) d
  | did {n : Str} {k : Int} {w : Pl} (h : p.find n = some w) (hl : w.isLeaf = true) (hs : ∀ s, w.steps = some s → dg d n + k ≤ s) : Took p d (.did n k) p (dPut d n (dg d n + k))
theorem dGet_put {α : Type} {a : α} {k n : Str} : ∀ {ds : List (Str × α)}, dGet (dPut ds k a) n = if k = n then some a else dGet ds n := fun {ds} => by
  have hm : ∀ l : List (Str × α), (l.any fun q => decide (q.1 = k)) = true → dGet (l.map fun q => if q.1 = k then (q.1, a) else q) n = if k = n then some a else dGet l n := fun l => by
    induction l with
    | nil => intro h; simp at h
    | cons q l ih =>
      intro h
      by_cases e : q.1 = k
      · by_cases e2 : k = n
        · rw [if_pos e2, List.map_cons, if_pos e, dGet_pos (by rw [← e2]; exact e)]
        · rw [if_neg e2, List.map_cons, if_pos e, dGet_neg (by rw [e]; exact e2), dGet_neg (by rw [e]; exact e2)]
          have : ∀ l : List (Str × α), dGet (l.map fun q => if q.1 = k then (q.1, a) else q) n = dGet l n := fun l => by
            induction l with
            | nil => rfl
            | cons x l ih =>
              by_cases z : x.1 = k
              · rw [List.map_cons, if_pos z, dGet_neg (by rw [z]; exact e2), dGet_neg (by rw [z]; exact e2)]; exact ih
              · rw [List.map_cons, if_neg z]
                by_cases z2 : x.1 = n
                · rw [dGet_pos z2, dGet_pos z2]
                · rw [dGet_neg z2, dGet_neg z2]; exact ih
          exact this l
      · have h' : (l.any fun q => decide (q.1 = k)) = true := by
          rw [List.any_cons, decide_eq_false e, Bool.false_or] at h
          exact h
        rw [List.map_cons, if_neg e]
        by_cases z2 : q.1 = n
        · rw [dGet_pos z2, dGet_pos z2, if_neg (by rw [← z2]; exact fun z => e z.symm)]
        · rw [dGet_neg z2, dGet_neg z2]; exact ih h'
  have hs : ∀ l : List (Str × α), (l.any fun q => decide (q.1 = k)) = false → dGet (l ++ [(k, a)]) n = if k = n then some a else dGet l n := fun l => by
    induction l with
    | nil =>
      intro _
      by_cases e : k = n
      · rw [if_pos e]; exact dGet_pos e
      · rw [if_neg e]; exact dGet_neg e
    | cons q l ih =>
      intro h
      rw [List.any_cons, Bool.or_eq_false_iff] at h
      have e : ¬ q.1 = k := of_decide_eq_false h.1
      rw [List.cons_append]
      by_cases z2 : q.1 = n
      · rw [dGet_pos z2, dGet_pos z2, if_neg (by rw [← z2]; exact fun z => e z.symm)]
      · rw [dGet_neg z2, dGet_neg z2]; exact ih h.2
  unfold dPut
  split
  · rename_i h; exact hm ds h
  · rename_i h; exact hs ds ((Bool.not_eq_true _).mp h)
theorem dPut_len {α : Type} {a : α} {k : Str} {ds : List (Str × α)} : (dPut ds k a).length ≤ ds.length + 1 := by
  unfold dPut
  split <;> simp
theorem zeroed_len : ∀ (ls : List Pl) (d : List (Str × Int)), (zeroed d ls).length ≤ d.length + ls.length
  | [], d => by simp [zeroed]
  | l :: ls, d => by
    have z := zeroed_len ls (dPut d l.name 0)
    have := dPut_len (a := (0 : Int)) (k := l.name) (ds := d)
    show (zeroed (dPut d l.name 0) ls).length ≤ _
    rw [List.length_cons]
    omega
theorem Took.len {p p' : Pl} {d d' : List (Str × Int)} {t : Tel} (h : Took p d t p' d') (hc : PlanOk p) (hf : ∀ n w, p.find n = some w → w ∈ p.all) : d'.length ≤ d.length + 20 := by
  cases h with
  | again h =>
    rename_i n w
    have z := zeroed_len w.leaves d
    have z2 := leaves_len w
    have z3 : w.names.length ≤ p.names.length := by
      have := hf n w h
      have k : ∀ (m : Nat) (p : Pl), p.depth ≤ m → ∀ z ∈ p.all, z.names.length ≤ p.names.length := fun m => by
        induction m with
        | zero => intro p h; have := Pl.depth_pos p; omega
        | succ m ih =>
          intro p hd z hz
          rw [Pl.all_eq, Pl.alls_eq] at hz
          rcases List.mem_cons.mp hz with rfl | hz
          · exact Nat.le_refl _
          · obtain ⟨q, hq, hz⟩ := List.mem_flatMap.mp hz
            exact Nat.le_trans (ih q.2 (by have := Pl.part_depth hq; omega) z hz) (names_sub hq).length_le
      exact k p.depth p (Nat.le_refl _) w this
    have := hc.count
    omega
  | found => omega
  | knows => omega
  | did => have := dPut_len (a := dg d (by assumption) + (by assumption)) (k := by assumption) (ds := d); omega
theorem find_mem : ∀ (p : Pl) {n : Str} {w : Pl}, p.find n = some w → w ∈ p.all ∧ w.name = n := fun p => by
  have key : ∀ (m : Nat) (p : Pl), p.depth ≤ m → ∀ {n : Str} {w : Pl}, p.find n = some w → w ∈ p.all ∧ w.name = n := fun m => by
    induction m with
    | zero => intro p h; have := Pl.depth_pos p; omega
    | succ m ih =>
      intro p hd n w h
      rw [find_eq] at h
      by_cases e : decide (p.name = n) = true
      · rw [if_pos e] at h
        cases h
        exact ⟨by rw [Pl.all_eq]; exact List.mem_cons_self, of_decide_eq_true e⟩
      · rw [if_neg e] at h
        have hs : ∀ (ps : List (Int × Pl)), (∀ q ∈ ps, q.2.depth ≤ m) → Pl.finds ps n = some w → (∃ q ∈ ps, w ∈ q.2.all) ∧ w.name = n := fun ps => by
          induction ps with
          | nil => intro _ h; simp [Pl.finds] at h
          | cons q ps ihp =>
            intro hq h
            obtain ⟨i, x⟩ := q
            simp only [Pl.finds] at h
            cases z : x.find n with
            | some y =>
              rw [z] at h
              cases h
              have k := ih x (hq (i, x) List.mem_cons_self) z
              exact ⟨⟨(i, x), List.mem_cons_self, k.1⟩, k.2⟩
            | none =>
              rw [z] at h
              obtain ⟨⟨q, hm, k⟩, k2⟩ := ihp (fun q hm => hq q (List.mem_cons_of_mem _ hm)) h
              exact ⟨⟨q, List.mem_cons_of_mem _ hm, k⟩, k2⟩
        obtain ⟨⟨q, hm, k⟩, k2⟩ := hs p.parts (fun q hm => by have := Pl.part_depth hm; omega) h
        refine ⟨?_, k2⟩
        rw [Pl.all_eq, Pl.alls_eq]
        exact List.mem_cons_of_mem _ (List.mem_flatMap.mpr ⟨q, hm, k⟩)
  intro n w h
  exact key p.depth p (Nat.le_refl _) h
theorem map_inj {α β : Type} {f : α → β} : ∀ {l : List α}, (l.map f).Nodup → ∀ {a b : α}, a ∈ l → b ∈ l → f a = f b → a = b
  | [], _, a, _, h, _, _ => by simp at h
  | x :: l, nd, a, b, h1, h2, e => by
    rw [List.map_cons, List.nodup_cons] at nd
    rcases List.mem_cons.mp h1 with k1 | k1
    · rcases List.mem_cons.mp h2 with k2 | k2
      · rw [k1, k2]
      · rw [k1] at e
        exact absurd (List.mem_map.mpr ⟨b, k2, e.symm⟩) nd.1
    · rcases List.mem_cons.mp h2 with k2 | k2
      · rw [k2] at e
        exact absurd (List.mem_map.mpr ⟨a, k1, e⟩) nd.1
      · exact map_inj nd.2 k1 k2 e
theorem all_uniq {p a b : Pl} (nd : p.names.Nodup) (ha : a ∈ p.all) (hb : b ∈ p.all) (e : a.name = b.name) : a = b := map_inj (by rw [all_names]; exact nd) ha hb e
theorem mem_names {p w : Pl} (h : w ∈ p.all) : w.name ∈ p.names := by rw [← all_names]; exact List.mem_map.mpr ⟨w, h, rfl⟩
end Hf

namespace Hf
open PySem PySem.Spec PyProof.Rows L2 ClX
/-! ### a leaf more: names; steps known: names, depth -/
namespace Pl
def isL (x : Str) (z : Pl) : Bool := !z.isLeaf && decide (z.name = x)
def kL (x : Str) (l : List Pl) : Nat := (l.filter (isL x)).length
theorem kL_app {x : Str} {a b : List Pl} : kL x (a ++ b) = kL x a + kL x b := by simp [kL]
theorem namess_app : ∀ {a b : List (Int × Pl)}, namess (a ++ b) = namess a ++ namess b
  | [], b => by simp [namess]
  | (i, w) :: a, b => by simp [namess, namess_app (a := a)]
theorem alls_app : ∀ {a b : List (Int × Pl)}, alls (a ++ b) = alls a ++ alls b
  | [], b => by simp [alls]
  | (i, w) :: a, b => by simp [alls, alls_app (a := a)]
section
variable {x : Str} {wt : Int} {ln : Str} {st : Option Int} {k : Int}
mutual
theorem wl_cnt : ∀ (p : Pl) (n : Str), (withLeaf x wt (.leaf ln st) p).names.count n = p.names.count n + (if ln = n then kL x p.all else 0)
  | .leaf a s, n => by
    have e : kL x [Pl.leaf a s] = 0 := by simp [kL, isL, isLeaf]
    simp only [withLeaf, all, e]
    split <;> rfl
  | .lot r a ps, n => by
    have ih := wl_cnts ps n
    have e : kL x (Pl.lot r a ps :: alls ps) = (if decide (a = x) = true then 1 else 0) + kL x (alls ps) := by
      have e0 : isL x (Pl.lot r a ps) = decide (a = x) := by
        simp only [isL, isLeaf, name, Bool.not_false, Bool.true_and]
        exact decide_eq_decide.mpr Iff.rfl
      show (List.filter (isL x) (Pl.lot r a ps :: alls ps)).length = _ + (List.filter (isL x) (alls ps)).length
      rw [List.filter_cons, e0]
      by_cases h : decide (a = x) = true
      · rw [if_pos h, if_pos h, List.length_cons]; omega
      · rw [if_neg h, if_neg h]; omega
    simp only [withLeaf, names, all, e]
    by_cases h : decide (a = x) = true
    · rw [if_pos h, if_pos h, namess_app, List.count_cons, List.count_append, ih, List.count_cons]
      have z : (namess [(wt, Pl.leaf ln st)]).count n = if ln = n then 1 else 0 := by
        simp only [namess, names, List.append_nil, List.count_cons, List.count_nil, Nat.zero_add, beq_iff_eq]
      rw [z]
      split <;> split <;> omega
    · rw [if_neg h, if_neg h, List.count_cons, ih, List.count_cons]
      split <;> split <;> omega
theorem wl_cnts : ∀ (ps : List (Int × Pl)) (n : Str), (namess (withLeafs x wt (.leaf ln st) ps)).count n = (namess ps).count n + (if ln = n then kL x (alls ps) else 0)
  | [], n => by simp [withLeafs, namess, alls, kL]
  | (i, w) :: ps, n => by
    have h1 := wl_cnt w n
    have h2 := wl_cnts ps n
    simp only [withLeafs, namess, alls, List.count_append, kL_app, h1, h2]
    split <;> omega
end
mutual
theorem wl_all : ∀ (p z : Pl), z ∈ (withLeaf x wt (.leaf ln st) p).all → z.isLeaf = true → z ∈ p.all ∨ z = .leaf ln st
  | .leaf a s, z, h, hl => .inl (by simpa [withLeaf] using h)
  | .lot r a ps, z, h, hl => by
    simp only [withLeaf, all, List.mem_cons] at h
    rcases h with rfl | h
    · simp [isLeaf] at hl
    · have key : z ∈ alls (withLeafs x wt (.leaf ln st) ps) ∨ z = .leaf ln st := by
        split at h
        · rw [alls_app, List.mem_append] at h
          rcases h with h | h
          · exact .inl h
          · exact .inr (by simpa [alls, all] using h)
        · exact .inl h
      rcases key with h | h
      · rcases wl_alls ps z h hl with h | h
        · exact .inl (by simp only [all, List.mem_cons]; exact .inr h)
        · exact .inr h
      · exact .inr h
theorem wl_alls : ∀ (ps : List (Int × Pl)) (z : Pl), z ∈ alls (withLeafs x wt (.leaf ln st) ps) → z.isLeaf = true → z ∈ alls ps ∨ z = .leaf ln st
  | [], z, h, _ => .inl (by simpa [withLeafs] using h)
  | (i, w) :: ps, z, h, hl => by
    simp only [withLeafs, alls, List.mem_append] at h ⊢
    rcases h with h | h
    · rcases wl_all w z h hl with h | h
      · exact .inl (.inl h)
      · exact .inr h
    · rcases wl_alls ps z h hl with h | h
      · exact .inl (.inr h)
      · exact .inr h
end
mutual
theorem ws_names : ∀ (p : Pl), (withSteps x k p).names = p.names
  | .leaf a s => by
    simp only [withSteps]
    split
    · rename_i h; simp only [names, of_decide_eq_true h]
    · rfl
  | .lot r a ps => by simp only [withSteps, names, ws_namess ps]
theorem ws_namess : ∀ (ps : List (Int × Pl)), namess (withStepss x k ps) = namess ps
  | [] => by simp [withStepss]
  | (i, w) :: ps => by simp only [withStepss, namess, ws_names w, ws_namess ps]
end
mutual
theorem ws_depth : ∀ (p : Pl), (withSteps x k p).depth = p.depth
  | .leaf a s => by
    simp only [withSteps]
    split <;> simp only [depth]
  | .lot r a ps => by simp only [withSteps, depth, ws_depths ps]
theorem ws_depths : ∀ (ps : List (Int × Pl)), depths (withStepss x k ps) = depths ps
  | [] => by simp [withStepss]
  | (i, w) :: ps => by simp only [withStepss, depths, ws_depth w, ws_depths ps]
end
mutual
theorem ws_all : ∀ (p : Pl) {n : Str} {m : Int}, Pl.leaf n (some m) ∈ (withSteps x k p).all → (n = x ∧ m = k) ∨ Pl.leaf n (some m) ∈ p.all
  | .leaf a s, n, m, h => by
    simp only [withSteps] at h
    split at h
    · simp only [all, List.mem_singleton, Pl.leaf.injEq, Option.some.injEq] at h
      exact .inl h
    · exact .inr h
  | .lot r a ps, n, m, h => by
    simp only [withSteps, all, List.mem_cons, reduceCtorEq, false_or] at h
    rcases ws_alls ps h with h | h
    · exact .inl h
    · exact .inr (by simp only [all, List.mem_cons]; exact .inr h)
theorem ws_alls : ∀ (ps : List (Int × Pl)) {n : Str} {m : Int}, Pl.leaf n (some m) ∈ alls (withStepss x k ps) → (n = x ∧ m = k) ∨ Pl.leaf n (some m) ∈ alls ps
  | [], n, m, h => .inr (by simpa [withStepss] using h)
  | (i, w) :: ps, n, m, h => by
    simp only [withStepss, alls, List.mem_append] at h ⊢
    rcases h with h | h
    · rcases ws_all w h with h | h
      · exact .inl h
      · exact .inr (.inl h)
    · rcases ws_alls ps h with h | h
      · exact .inl h
      · exact .inr (.inr h)
end
mutual
theorem ws_fit (hk : StOk (some k)) : ∀ (p : Pl), p.Fit → (withSteps x k p).Fit
  | .leaf a s, h => by
    simp only [withSteps]
    split
    · exact hk
    · exact h
  | .lot r a ps, h => by
    simp only [withSteps]
    refine ⟨?_, ws_fits hk ps h.2⟩
    have e := h.1
    unfold arePartsB at e ⊢
    rw [withStepss_map, List.length_map, List.all_map]
    exact e
theorem ws_fits (hk : StOk (some k)) : ∀ (ps : List (Int × Pl)), Pl.Fits ps → Pl.Fits (withStepss x k ps)
  | [], h => by simp [withStepss, Fits]
  | (i, w) :: ps, h => by
    simp only [withStepss]
    exact ⟨ws_fit hk w h.1, ws_fits hk ps h.2⟩
end
end
end Pl
theorem ws_ok {p : Pl} {x : Str} {k : Int} (h : PlanOk p) (hk : StOk (some k)) : PlanOk (Pl.withSteps x k p) := ⟨Pl.ws_fit hk p h.fit, by rw [Pl.ws_names]; exact h.names, by rw [Pl.ws_names]; exact h.nodup, by rw [Pl.ws_names]; exact h.count, by rw [Pl.ws_depth]; exact h.deep⟩
theorem dg_put {d : List (Str × Int)} {k n : Str} {a : Int} : dg (dPut d k a) n = if k = n then a else dg d n := by
  unfold dg
  rw [dGet_put]
  split <;> rfl
theorem zeroed_get : ∀ (ls : List Pl) (d : List (Str × Int)) (n : Str), dGet (zeroed d ls) n = if n ∈ ls.map Pl.name then some 0 else dGet d n
  | [], d, n => by simp [zeroed]
  | l :: ls, d, n => by
    have z := zeroed_get ls (dPut d l.name 0) n
    show dGet (zeroed (dPut d l.name 0) ls) n = _
    rw [z, List.map_cons]
    by_cases h : n ∈ ls.map Pl.name
    · rw [if_pos h, if_pos (List.mem_cons_of_mem _ h)]
    · rw [if_neg h, dGet_put]
      by_cases e : l.name = n
      · rw [if_pos e, if_pos (by rw [e]; exact List.mem_cons_self)]
      · rw [if_neg e, if_neg (by simp only [List.mem_cons, not_or]; exact ⟨fun z => e z.symm, h⟩)]
theorem leaf_find {p w : Pl} {n m : Str} {s : Option Int} (hp : p.names.Nodup) (h : p.find n = some w) (hm : Pl.leaf n s ∈ p.all) : w = .leaf n s := by
  obtain ⟨k1, k2⟩ := find_mem p h
  exact all_uniq hp k1 hm k2
theorem Took.ok {p p' : Pl} {d d' : List (Str × Int)} {t : Tel} (c : CsOk p d) (to : TelOk t) (h : Took p d t p' d') : CsOk p' d' := by
  cases h with
  | again h =>
    rename_i n w
    obtain ⟨k1, k2⟩ := find_mem p h
    have kn : ∀ l ∈ w.leaves, l.name ∈ p.names := fun l hl => by
      have h1 := (leaves_sub w).subset hl
      have k : ∀ (m : Nat) (p : Pl), p.depth ≤ m → ∀ z ∈ p.all, ∀ y ∈ z.all, y ∈ p.all := fun m => by
        induction m with
        | zero => intro p h; have := Pl.depth_pos p; omega
        | succ m ih =>
          intro p hd z hz y hy
          rw [Pl.all_eq, Pl.alls_eq] at hz
          rcases List.mem_cons.mp hz with rfl | hz
          · exact hy
          · obtain ⟨q, hq, hz⟩ := List.mem_flatMap.mp hz
            rw [Pl.all_eq, Pl.alls_eq]
            exact List.mem_cons_of_mem _ (List.mem_flatMap.mpr ⟨q, hq, ih q.2 (by have := Pl.part_depth hq; omega) z hz y hy⟩)
      exact mem_names (k p.depth p (Nat.le_refl _) w k1 l h1)
    have hd : ∀ x, dg (zeroed d w.leaves) x = if x ∈ w.leaves.map Pl.name then 0 else dg d x := fun x => by
      unfold dg
      rw [zeroed_get]
      split <;> rfl
    refine ⟨c.plan, fun x m hx => ?_, fun x => ?_, fun x hx => ?_⟩
    · rw [hd]
      have z := c.cnt x m hx
      split
      · omega
      · exact z
    · rw [hd]
      have := c.pos x
      split
      · omega
      · exact this
    · rw [zeroed_get, if_neg (fun z => by
        obtain ⟨l, h1, h2⟩ := List.mem_map.mp z
        exact hx (h2 ▸ kn l h1))]
      exact c.sub x hx
  | found h hl ok =>
    rename_i n ln wt st w
    obtain ⟨k1, k2⟩ := find_mem p h
    have kp : 1 ≤ Pl.kL n p.all := by
      have : w ∈ p.all.filter (Pl.isL n) := List.mem_filter.mpr ⟨k1, by simp [Pl.isL, hl, k2]⟩
      exact List.length_pos_of_mem this
    have hln : ln ∉ p.names := fun z => by
      have e := Pl.wl_cnt (x := n) (wt := wt) (ln := ln) (st := st) p ln
      rw [if_pos rfl] at e
      have z1 : 1 ≤ p.names.count ln := List.count_pos_iff.mpr z
      have z2 := List.nodup_iff_count.mp ok.nodup ln
      omega
    refine ⟨ok, fun x m hx => ?_, c.pos, fun x hx => c.sub x fun z => hx ?_⟩
    · rcases Pl.wl_all p _ hx rfl with h | h
      · exact c.cnt x m h
      · cases h
        have z : dg d ln = 0 := by unfold dg; rw [c.sub ln hln]; rfl
        have z2 := (to.leaf rfl).2 m rfl
        simp only [isNum, Bool.and_eq_true, decide_eq_true_eq] at z2
        omega
    · have e := Pl.wl_cnt (x := n) (wt := wt) (ln := ln) (st := st) p x
      have z1 : 1 ≤ p.names.count x := List.count_pos_iff.mpr z
      exact List.count_pos_iff.mp (by omega)
  | knows h hl hs hk =>
    rename_i n k w
    have z := to.num rfl
    have z0 : isNum k 1 1000 = true := z
    have st : StOk (some k) := fun i e => by cases e; exact z0
    refine ⟨ws_ok c.plan st, fun x m hx => ?_, c.pos, fun x hx => c.sub x (by rw [Pl.ws_names] at hx; exact hx)⟩
    rcases Pl.ws_all p hx with ⟨h1, h2⟩ | h
    · subst h1 h2
      exact ⟨c.pos _, hk⟩
    · exact c.cnt x m h
  | did h hl hs =>
    rename_i n k w
    have z := to.num rfl
    have z0 : isNum k 1 1000 = true := z
    simp only [isNum, Bool.and_eq_true, decide_eq_true_eq] at z0
    obtain ⟨k1, k2⟩ := find_mem p h
    refine ⟨c.plan, fun x m hx => ?_, fun x => ?_, fun x hx => ?_⟩
    · rw [dg_put]
      split
      · rename_i e
        subst e
        have e2 := leaf_find (m := n) c.plan.nodup h hx
        subst e2
        exact ⟨by have := c.pos n; omega, hs m rfl⟩
      · exact c.cnt x m hx
    · rw [dg_put]
      have := c.pos n
      have := c.pos x
      split <;> omega
    · rw [dGet_put, if_neg (fun z => by subst z; exact hx (k2 ▸ mem_names k1))]
      exact c.sub x hx
end Hf

namespace Hf
open PySem PySem.Spec PyProof.Rows L2 ClX
/-! ### sizes of what is told -/
theorem lim_qd {k : Nat} {t b : Int} (hb : 0 < b) (h1 : t.natAbs < 2 ^ k) (h2 : b.natAbs < 2 ^ k) : Lim k (qd t b) := by
  have e := share_cn (t := t) hb
  unfold share cn at e
  injection e with e1 e2
  refine ⟨?_, ?_⟩
  · show ((t : Rat) / (b : Rat)).num.natAbs < _
    rw [← e1]
    refine Nat.lt_of_le_of_lt ?_ h1
    rw [Int.natAbs_ediv_of_dvd (Int.gcd_dvd_left ..)]
    exact Nat.div_le_self _ _
  · show ((t : Rat) / (b : Rat)).den < _
    have : ((t : Rat) / (b : Rat)).den = (b / (Int.gcd t b : Int)).natAbs := by rw [e2]; rfl
    rw [this]
    refine Nat.lt_of_le_of_lt ?_ h2
    rw [Int.natAbs_ediv_of_dvd (Int.gcd_dvd_right ..)]
    exact Nat.div_le_self _ _
theorem lim_mul {m n : Nat} {p q : Rat} (h : Lim m p) (k : Lim n q) : Lim (m + n) (p * q) := by
  rw [ofit_q]
  refine lim_qd (Int.mul_pos (den_pos p) (den_pos q)) ?_ ?_
  · rw [Int.natAbs_mul, Nat.pow_add]
    exact Nat.mul_lt_mul'' h.1 k.1
  · rw [Int.natAbs_mul, Nat.pow_add]
    exact Nat.mul_lt_mul'' (by simpa using h.2) (by simpa using k.2)
theorem lim_div {m n : Nat} {p q : Rat} (h : Lim m p) (k : Lim n q) (hq : 0 < q) : Lim (m + n) (p / q) := by
  rw [parted_q hq]
  refine lim_qd (Int.mul_pos (den_pos p) (num_pos hq)) ?_ ?_
  · rw [Int.natAbs_mul, Nat.pow_add]
    exact Nat.mul_lt_mul'' h.1 (by simpa using k.2)
  · rw [Int.natAbs_mul, Nat.pow_add]
    exact Nat.mul_lt_mul'' (by simpa using h.2) k.1
theorem num_bound {p : Rat} (h0 : 0 ≤ p) (h1 : p ≤ 1) : 0 ≤ p.num ∧ p.num ≤ (p.den : Int) := by
  refine ⟨Rat.num_nonneg.mpr h0, ?_⟩
  have := (Rat.le_iff p 1).mp h1
  have e1 : (1 : Rat).num = 1 := rfl
  have e2 : (1 : Rat).den = 1 := rfl
  rw [e1, e2] at this
  omega
theorem lim_one {n : Nat} {p : Rat} (h : Lim n p) (h0 : 0 ≤ p) (h1 : p ≤ 1) : Lim n (1 - p) := by
  rw [less_q]
  have e1 : (1 : Rat).num = 1 := rfl
  have e2 : (1 : Rat).den = 1 := rfl
  rw [e1, e2]
  obtain ⟨b0, b1⟩ := num_bound h0 h1
  have hd := h.2
  have dp := den_pos p
  refine lim_qd (by omega) ?_ ?_
  · refine Nat.lt_of_le_of_lt ?_ hd
    omega
  · refine Nat.lt_of_le_of_lt ?_ hd
    omega
theorem lim1 : Lim 1 1 := ⟨by decide, by decide⟩
theorem lim0 : Lim 1 0 := ⟨by decide, by decide⟩
/-- what is told next -/
def shownNext (shown last now : Rat) : Rat := if last < now then 1 - (1 - shown) * ((1 - now) / (1 - last)) else shown
structure ShOk (n : Nat) (q : Rat) : Prop where
  lim : Lim n q
  nn : 0 ≤ q
  le : q ≤ 1
theorem ratio_ok {last now : Rat} (h : last < now) (h0 : 0 ≤ last) (h1 : now ≤ 1) : 0 < 1 - last ∧ 0 ≤ (1 - now) / (1 - last) ∧ (1 - now) / (1 - last) ≤ 1 := by
  have a : 0 < 1 - last := by grind
  have b : (1 - now) / (1 - last) * (1 - last) = 1 - now := Rat.div_mul_cancel (by grind)
  refine ⟨a, ?_, ?_⟩
  · refine Rat.not_lt.mp fun z => ?_
    have := Rat.mul_lt_mul_of_pos_right z a
    grind
  · refine Rat.not_lt.mp fun z => ?_
    have := Rat.mul_lt_mul_of_pos_right z a
    grind
theorem prod_ok {p q : Rat} (hp : 0 ≤ p) (hp1 : p ≤ 1) (hq : 0 ≤ q) (hq1 : q ≤ 1) : 0 ≤ p * q ∧ p * q ≤ 1 := by
  refine ⟨Rat.mul_nonneg hp hq, ?_⟩
  have := Rat.mul_le_mul_of_nonneg_right hp1 hq
  grind
theorem shown_next {n : Nat} {shown last now : Rat} (s : ShOk n shown) (l : ShOk 200 last) (w : ShOk 200 now) : ShOk (n + 400) (shownNext shown last now) := by
  unfold shownNext
  split
  · rename_i h
    obtain ⟨a, b, c⟩ := ratio_ok h l.nn w.le
    have p := prod_ok (p := 1 - shown) (q := (1 - now) / (1 - last)) (by have := s.le; grind) (by have := s.nn; grind) b c
    refine ⟨?_, by have := p.2; grind, by have := p.1; grind⟩
    refine lim_one ?_ p.1 p.2
    exact lim_mul (lim_one s.lim s.nn s.le) (lim_div (m := 200) (n := 200) (lim_one w.lim w.nn w.le) (lim_one l.lim l.nn l.le) a)
  · exact ⟨s.lim.mono (by omega), s.nn, s.le⟩
theorem sh_mono {m n : Nat} {q : Rat} (h : ShOk m q) (k : m ≤ n) : ShOk n q := ⟨h.lim.mono k, h.nn, h.le⟩
theorem CsOk.far {p : Pl} {d : List (Str × Int)} (c : CsOk p d) : FarOk p d := ⟨c.plan.fit, c.cnt, c.plan.count⟩
theorem CsOk.sh {p : Pl} {d : List (Str × Int)} (c : CsOk p d) : ShOk 200 (p.far d) := ⟨c.far.lim, (far_bounds c.plan.fit c.cnt).1, (far_bounds c.plan.fit c.cnt).2⟩
/-! ### a run -/
def after (p : Pl) (d : List (Str × Int)) : Tel → Pl × List (Str × Int)
  | .again n => (p, zeroed d (match p.find n with | some w => w.leaves | none => []))
  | .found n wt ln st => (Pl.withLeaf n wt (.leaf ln st) p, d)
  | .knows n k => (Pl.withSteps n k p, d)
  | .did n k => (p, dPut d n (dg d n + k))
def Can (p : Pl) (d : List (Str × Int)) (t : Tel) : Prop := Took p d t (after p d t).1 (after p d t).2
theorem Took.can {p p' : Pl} {d d' : List (Str × Int)} {t : Tel} (h : Took p d t p' d') : Can p d t ∧ after p d t = (p', d') := by
  cases h with
  | again h => exact ⟨by unfold Can; simp only [after, h]; exact .again h, by simp only [after, h]⟩
  | found h hl ok => exact ⟨.found h hl ok, rfl⟩
  | knows h hl hs hk => exact ⟨.knows h hl hs hk, rfl⟩
  | did h hl hs => exact ⟨.did h hl hs, rfl⟩
def stepC (c : Cs) (t : Tel) : Cs := ⟨(after c.plan c.did t).1, (after c.plan c.did t).2, shownNext c.shown (c.plan.far c.did) ((after c.plan c.did t).1.far (after c.plan c.did t).2)⟩
def runC (p : Pl) (ts : List Tel) : Cs := ts.foldl stepC ⟨p, [], 0⟩
def shownL (p : Pl) (ts : List Tel) : List Rat := (List.range (ts.length + 1)).map fun i => (runC p (ts.take i)).shown
def farAt (p : Pl) (ts : List Tel) (i : Nat) : Rat := (runC p (ts.take i)).plan.far (runC p (ts.take i)).did
def fallsL (p : Pl) (ts : List Tel) : List Int := ((List.range ts.length).filter fun i => decide (farAt p ts (i + 1) < farAt p ts i)).map fun (i : Nat) => (i : Int)
/-- a run that can be, what is told of sizes that can be reckoned -/
structure RunOk (p : Pl) (ts : List Tel) : Prop where
  plan : PlanOk p
  can : ∀ i t, ts[i]? = some t → TelOk t ∧ Can (runC p (ts.take i)).plan (runC p (ts.take i)).did t
  sh : ∀ i, i ≤ ts.length → ShOk 8500 (runC p (ts.take i)).shown
  len : ts.length ≤ 1000
theorem runC_next {p : Pl} {ts : List Tel} {i : Nat} {t : Tel} (h : ts[i]? = some t) : runC p (ts.take (i + 1)) = stepC (runC p (ts.take i)) t := by
  unfold runC
  rw [List.take_add_one, h, List.foldl_append]
  rfl
theorem cs_ok {p : Pl} {ts : List Tel} (hp : PlanOk p) (hc : ∀ i t, ts[i]? = some t → TelOk t ∧ Can (runC p (ts.take i)).plan (runC p (ts.take i)).did t) : ∀ i, i ≤ ts.length → CsOk (runC p (ts.take i)).plan (runC p (ts.take i)).did ∧ (runC p (ts.take i)).did.length ≤ 20 * i := fun i => by
  induction i with
  | zero =>
    intro _
    exact ⟨⟨hp, fun n m h => by
      have z : dg [] n = 0 := rfl
      show 0 ≤ dg [] n ∧ dg [] n ≤ m
      rw [z]
      have key : ∀ (k : Nat) (p : Pl), p.depth ≤ k → p.Fit → ∀ w ∈ p.all, w.Fit := fun k => by
        induction k with
        | zero => intro p h; have := Pl.depth_pos p; omega
        | succ k ih =>
          intro p hd hf w hw
          rw [Pl.all_eq, Pl.alls_eq] at hw
          rcases List.mem_cons.mp hw with rfl | hw
          · exact hf
          · obtain ⟨q, hq, hw⟩ := List.mem_flatMap.mp hw
            refine ih q.2 (by have := Pl.part_depth hq; omega) ?_ w hw
            cases p with
            | leaf n s => simp [Pl.parts] at hq
            | lot r n ps => exact (fit_parts hf q hq).2
      have := fit_st (key p.depth p (Nat.le_refl _) hp.fit _ h)
      omega, fun n => (by show (0 : Int) ≤ dg [] n; exact Int.le_refl _), fun n _ => rfl⟩, by show ([] : List (Str × Int)).length ≤ _; simp⟩
  | succ i ih =>
    intro hi
    obtain ⟨t, ht⟩ : ∃ t, ts[i]? = some t := ⟨_, List.getElem?_eq_getElem (by omega)⟩
    obtain ⟨a, b⟩ := ih (by omega)
    obtain ⟨k1, k2⟩ := hc i t ht
    rw [runC_next ht]
    refine ⟨Took.ok a k1 k2, ?_⟩
    have := Took.len k2 a.plan (fun n w h => (find_mem _ h).1)
    show (after _ _ t).2.length ≤ _
    omega
theorem sh_all {p : Pl} {ts : List Tel} (hp : PlanOk p) (hc : ∀ i t, ts[i]? = some t → TelOk t ∧ Can (runC p (ts.take i)).plan (runC p (ts.take i)).did t) : ∀ i, i ≤ ts.length → ShOk (1 + 400 * i) (runC p (ts.take i)).shown := fun i => by
  induction i with
  | zero => intro _; exact (show ShOk 1 0 from ⟨lim0, by decide, by decide⟩)
  | succ i ih =>
    intro hi
    obtain ⟨t, ht⟩ : ∃ t, ts[i]? = some t := ⟨_, List.getElem?_eq_getElem (by omega)⟩
    have a := (cs_ok hp hc i (by omega)).1
    have b := (cs_ok hp hc (i + 1) hi).1
    rw [runC_next ht] at b ⊢
    exact sh_mono (shown_next (ih (by omega)) a.sh b.sh) (by omega)
theorem runOk_few {p : Pl} {ts : List Tel} (hp : PlanOk p) (hc : ∀ i t, ts[i]? = some t → TelOk t ∧ Can (runC p (ts.take i)).plan (runC p (ts.take i)).did t) (hl : ts.length ≤ 21) : RunOk p ts := ⟨hp, hc, fun i hi => sh_mono (sh_all hp hc i hi) (show 1 + 400 * i ≤ 8500 by omega), by omega⟩
end Hf

namespace Hf
open PySem PySem.Spec PyProof.Rows L2 ClX
section
variable {X : Cx} {E : Ent} {Γ Γ' Γ1 Γ2 : List Slot} {D : Ends} {e f g o : Expr} {es : List Expr} {body orelse rest : List Stmt} {pos p p2 : Pos} {α : Type} {r : Rp α} {x : α} {b : Bool}
/-- try whose body never raises, with an else -/
theorem bk_tryE {h₀ : ExceptHandler} {hs : List ExceptHandler} (hb : Bk X.nox E Γ body { thenD X rest D with nx := fun σ H => WB X orelse σ H (thenD X rest D) }) : Bk X E Γ (.Try body (h₀ :: hs) orelse [] pos :: rest) D :=
  bk_of (ps_try_thru WB.pss WB.pss) fun G H σ hh => hb G H σ hh
theorem em_one {op : BoolOp} (h : EvM X Γ Γ' e r x) : EvM X Γ Γ' (.BoolOp op [e] pos) r x := fun E G H σ hh Q k => WE.of (pe_one WE.pe) (h E G H σ hh Q k)
end
section
variable {X : Cx} {E : Ent} {Γ Γ' Γ1 Γ2 : List Slot} {D : Ends} {e f g o : Expr} {es : List Expr} {body orelse rest : List Stmt} {pos p p2 : Pos} {α : Type} {r : Rp α} {x : α} {b : Bool} {a : Str} {d : Addr} {plan plan' : Pl} {shown shown' : Rat} {q : Option Addr}
theorem cNs_nd : cNs.Nodup := by decide
theorem ev_crP (ok : CrOk X.K) (i : Nat) (hg : Γ[i]? = some (.ow (oCr X.K d plan shown) q)) (hN : X.N[i]? = some a := by rfl) (hv : Vis X.env.scope a := by first | exact Or.inl rfl | exact Or.inr (Or.inl rfl) | exact Or.inr (Or.inr rfl)) (hd : (a == ("__debug__" : Str)) = false := by decide) (hcd : (a == ("__classdict__" : Str)) = false := by decide)
    (hb : attributeBase (.Name a p) "plan" X.env (eval (.Name a p) X.env) = eval (.Name a p) X.env := by rfl) : Ev X Γ (.Attribute (.Name a p) "plan" pos) (rWk X.K (cW X.K)) plan := ev_fldO i 0 ok.cls ok.plan hg rfl cNs_nd rfl hN hv hd hcd hb
theorem ev_crD (ok : CrOk X.K) (i : Nat) (hg : Γ[i]? = some (.ow (oCr X.K d plan shown) q)) (hN : X.N[i]? = some a := by rfl) (hv : Vis X.env.scope a := by first | exact Or.inl rfl | exact Or.inr (Or.inl rfl) | exact Or.inr (Or.inr rfl)) (hd : (a == ("__debug__" : Str)) = false := by decide) (hcd : (a == ("__classdict__" : Str)) = false := by decide)
    (hb : attributeBase (.Name a p) "did" X.env (eval (.Name a p) X.env) = eval (.Name a p) X.env := by rfl) : Ev X Γ (.Attribute (.Name a p) "did" pos) (rAt d) () := ev_fldO i 1 ok.cls ok.did hg rfl cNs_nd rfl hN hv hd hcd hb
theorem ev_crS (ok : CrOk X.K) (i : Nat) (hg : Γ[i]? = some (.ow (oCr X.K d plan shown) q)) (hN : X.N[i]? = some a := by rfl) (hv : Vis X.env.scope a := by first | exact Or.inl rfl | exact Or.inr (Or.inl rfl) | exact Or.inr (Or.inr rfl)) (hd : (a == ("__debug__" : Str)) = false := by decide) (hcd : (a == ("__classdict__" : Str)) = false := by decide)
    (hb : attributeBase (.Name a p) "shown" X.env (eval (.Name a p) X.env) = eval (.Name a p) X.env := by rfl) : Ev X Γ (.Attribute (.Name a p) "shown" pos) (rQ X.K) shown := ev_fldO i 2 ok.cls ok.shown hg rfl cNs_nd rfl hN hv hd hcd hb
theorem bk_crP (ok : CrOk X.K) (i : Nat) (hg : Γ[i]? = some (.ow (oCr X.K d plan shown) q)) (he : Ev X Γ e (rWk X.K (cW X.K)) plan') (k : Bk X E (Γ.set i (.ow (oCr X.K d plan' shown) q)) rest D)
    (hN : X.N[i]? = some a := by rfl) (hv : Vis X.env.scope a := by first | exact Or.inl rfl | exact Or.inr (Or.inl rfl) | exact Or.inr (Or.inr rfl)) (hd : (a == ("__debug__" : Str)) = false := by decide) (hcd : (a == ("__classdict__" : Str)) = false := by decide)
    (hs : swapsWith e (some (.Attribute (.Name a p) "plan" p2)) pos.line X.env = pure false := by rfl) : Bk X E Γ (.Assign [.Attribute (.Name a p) "plan" p2] e pos :: rest) D := bk_fldO i 0 ok.cls ok.plan hg he rfl cNs_nd (by decide) k hN hv hd hcd hs
theorem bk_crS (ok : CrOk X.K) (i : Nat) (hg : Γ[i]? = some (.ow (oCr X.K d plan shown) q)) (he : Ev X Γ e (rQ X.K) shown') (k : Bk X E (Γ.set i (.ow (oCr X.K d plan shown') q)) rest D)
    (hN : X.N[i]? = some a := by rfl) (hv : Vis X.env.scope a := by first | exact Or.inl rfl | exact Or.inr (Or.inl rfl) | exact Or.inr (Or.inr rfl)) (hd : (a == ("__debug__" : Str)) = false := by decide) (hcd : (a == ("__classdict__" : Str)) = false := by decide)
    (hs : swapsWith e (some (.Attribute (.Name a p) "shown" p2)) pos.line X.env = pure false := by rfl) : Bk X E Γ (.Assign [.Attribute (.Name a p) "shown" p2] e pos :: rest) D := bk_fldO i 2 ok.cls ok.shown hg he rfl cNs_nd (by decide) k hN hv hd hcd hs
end
theorem etm_notT {X : Cx} {Γ Γ' : List Slot} {e : Expr} {pos : Pos} (h : EvTM X Γ Γ' e true) : EvTM X Γ Γ' (.UnaryOp .Not e pos) false := etm_not h
theorem Can.find {p : Pl} {d : List (Str × Int)} {t : Tel} (h : Can p d t) : ∃ w, p.find t.name = some w := by
  have h' : Took p d t (after p d t).1 (after p d t).2 := h
  clear h
  revert h'
  generalize (after p d t).1 = p', (after p d t).2 = d'
  intro h'
  cases h' with
  | again h => exact ⟨_, h⟩
  | found h => exact ⟨_, h⟩
  | knows h => exact ⟨_, h⟩
  | did h => exact ⟨_, h⟩
theorem again_is {t : Tel} (h : t.isAgain = true) : ∃ n, t = .again n := by
  cases t with
  | again n => exact ⟨n, rfl⟩
  | _ => simp [Tel.isAgain] at h
theorem Can.found {p : Pl} {d : List (Str × Int)} {t : Tel} (h : Can p d t) (ht : t.isFound = true) {w : Pl} (hf : p.find t.name = some w) : w.isLeaf = false ∧ PlanOk (Pl.withLeaf t.name t.num (.leaf t.leaf t.last) p) ∧ after p d t = (Pl.withLeaf t.name t.num (.leaf t.leaf t.last) p, d) := by
  cases t with
  | found n wt ln st =>
    have h' : Took p d (.found n wt ln st) (Pl.withLeaf n wt (.leaf ln st) p) d := h
    refine ⟨?_, ?_, rfl⟩
    · generalize e1 : Pl.withLeaf n wt (.leaf ln st) p = p' at h'
      cases h' with
      | found h1 h2 h3 =>
        rw [show p.find n = some w from hf] at h1
        cases h1
        exact h2
    · show PlanOk (Pl.withLeaf n wt (.leaf ln st) p)
      generalize e1 : Pl.withLeaf n wt (.leaf ln st) p = p' at h'
      cases h' with
      | found h1 h2 h3 => exact h3
  | _ => simp [Tel.isFound] at ht
theorem Can.leafy {p : Pl} {d : List (Str × Int)} {t : Tel} (h : Can p d t) (ha : t.isAgain = false) (hfo : t.isFound = false) {w : Pl} (hf : p.find t.name = some w) : w.isLeaf = true ∧
    ((t.isKnows = true → w.steps = none ∧ dg d t.name ≤ t.num ∧ after p d t = (Pl.withSteps t.name t.num p, d)) ∧ (t.isKnows = false → (∀ s, w.steps = some s → dg d t.name + t.num ≤ s) ∧ after p d t = (p, dPut d t.name (dg d t.name + t.num)))) := by
  cases t with
  | found => simp [Tel.isFound] at hfo
  | again => simp [Tel.isAgain] at ha
  | knows n k =>
    have h' : Took p d (.knows n k) (Pl.withSteps n k p) d := h
    generalize e1 : Pl.withSteps n k p = p' at h'
    cases h' with
    | knows h1 h2 h3 h4 =>
      rw [show p.find n = some w from hf] at h1
      cases h1
      exact ⟨h2, fun _ => ⟨h3, h4, rfl⟩, fun z => by simp [Tel.isKnows] at z⟩
  | did n k =>
    have h' : Took p d (.did n k) p (dPut d n (dg d n + k)) := h
    generalize e1 : dPut d n (dg d n + k) = d' at h'
    cases h' with
    | did h1 h2 h3 =>
      rw [show p.find n = some w from hf] at h1
      cases h1
      exact ⟨h2, fun z => by simp [Tel.isKnows] at z, fun _ => ⟨h3, rfl⟩⟩
theorem TelOk.steps {t : Tel} (h : TelOk t) (ha : t.isAgain = false) (hf : t.isFound = false) : StOk (some t.num) := fun i e => by
  cases e
  have z := h.num ha
  rw [hf] at z
  exact z
theorem all_small {p z : Pl} (h : z ∈ p.all) : z.names.length ≤ p.names.length := by
  have k : ∀ (m : Nat) (p : Pl), p.depth ≤ m → ∀ z ∈ p.all, z.names.length ≤ p.names.length := fun m => by
    induction m with
    | zero => intro p h; have := Pl.depth_pos p; omega
    | succ m ih =>
      intro p hd z hz
      rw [Pl.all_eq, Pl.alls_eq] at hz
      rcases List.mem_cons.mp hz with rfl | hz
      · exact Nat.le_refl _
      · obtain ⟨q, hq, hz⟩ := List.mem_flatMap.mp hz
        exact Nat.le_trans (ih q.2 (by have := Pl.part_depth hq; omega) z hz) (names_sub hq).length_le
  exact k p.depth p (Nat.le_refl _) z h
theorem all_depth {p z : Pl} (h : z ∈ p.all) : z.depth ≤ p.depth := by
  have k : ∀ (m : Nat) (p : Pl), p.depth ≤ m → ∀ z ∈ p.all, z.depth ≤ p.depth := fun m => by
    induction m with
    | zero => intro p h; have := Pl.depth_pos p; omega
    | succ m ih =>
      intro p hd z hz
      rw [Pl.all_eq, Pl.alls_eq] at hz
      rcases List.mem_cons.mp hz with rfl | hz
      · exact Nat.le_refl _
      · obtain ⟨q, hq, hz⟩ := List.mem_flatMap.mp hz
        have := ih q.2 (by have := Pl.part_depth hq; omega) z hz
        have := Pl.part_depth hq
        omega
  exact k p.depth p (Nat.le_refl _) z h
theorem one_all {α : Type} {r : Rp α} {a : α} : ∀ (G : Hp) (vs : List V), Args G vs [⟨r, a⟩] → All2 r G vs [a]
  | G, [v], h => .cons h.1 .nil
theorem enum_at {α : Type} {as : List α} {i : Nat} {q : Int × α} (h : (enumL as)[i]? = some q) : ∃ a, as[i]? = some a ∧ q = ((i : Int), a) := by
  rw [enumL_get] at h
  cases e : as[i]? with
  | none => rw [e] at h; cases h
  | some a => rw [e] at h; cases h; exact ⟨a, rfl, rfl⟩
theorem take_take' {α : Type} {ts : List α} {i j : Nat} (h : j ≤ i) : (ts.take i).take j = ts.take j := by rw [List.take_take, Nat.min_eq_left h]
theorem shown_snoc {p : Pl} {ts : List Tel} {i : Nat} {t : Tel} (h : ts[i]? = some t) : shownL p (ts.take (i + 1)) = shownL p (ts.take i) ++ [(stepC (runC p (ts.take i)) t).shown] := by
  have lt := (List.getElem?_eq_some_iff.mp h).1
  have l1 : (ts.take (i + 1)).length = i + 1 := by rw [List.length_take]; omega
  have l0 : (ts.take i).length = i := by rw [List.length_take]; omega
  unfold shownL
  rw [l1, l0, List.range_succ, List.map_append]
  congr 1
  · refine List.map_congr_left fun j hj => ?_
    have := List.mem_range.mp hj
    rw [take_take' (by omega), take_take' (by omega)]
  · show [(runC p ((ts.take (i + 1)).take (i + 1))).shown] = [_]
    rw [take_take' (Nat.le_refl _), runC_next h]
theorem falls_len (p : Pl) (ts : List Tel) : (fallsL p ts).length ≤ ts.length := by
  unfold fallsL
  rw [List.length_map]
  refine Nat.le_trans (List.length_filter_le _ _) ?_
  rw [List.length_range]
  exact Nat.le_refl _
theorem farAt_take {p : Pl} {ts : List Tel} {i j : Nat} (h : j ≤ i) : farAt p (ts.take i) j = farAt p ts j := by unfold farAt; rw [take_take' h]
theorem falls_snoc {p : Pl} {ts : List Tel} {i : Nat} {t : Tel} (h : ts[i]? = some t) : fallsL p (ts.take (i + 1)) = fallsL p (ts.take i) ++ (if farAt p ts (i + 1) < farAt p ts i then [(i : Int)] else []) := by
  have lt := (List.getElem?_eq_some_iff.mp h).1
  have l1 : (ts.take (i + 1)).length = i + 1 := by rw [List.length_take]; omega
  have l0 : (ts.take i).length = i := by rw [List.length_take]; omega
  unfold fallsL
  rw [l1, l0, List.range_succ, List.filter_append, List.map_append]
  congr 1
  · congr 1
    refine List.filter_congr fun j hj => ?_
    have := List.mem_range.mp hj
    rw [farAt_take (by omega), farAt_take (by omega), farAt_take (by omega), farAt_take (by omega)]
  · rw [List.filter_cons, farAt_take (Nat.le_refl _), farAt_take (by omega)]
    by_cases z : farAt p ts (i + 1) < farAt p ts i
    · rw [if_pos (decide_eq_true z), if_pos z]; rfl
    · rw [if_neg (by simpa using z), if_neg z]; rfl
end Hf

namespace Hf
open PySem PySem.Spec PyProof.Rows L2 ClX
/-! ### what a work is worth -/
namespace Pl
mutual
def worth : Pl → Str → Rat
  | .leaf _ _, _ => 1
  | .lot _ n ps, x => if decide (n = x) = true then 1 else worths ((ps.map fun q => q.1).sum) ps x
def worths : Int → List (Int × Pl) → Str → Rat
  | _, [], _ => 1
  | W, (i, w) :: ps, x => if (!(find w x).isNone) = true then qd i W * worth w x else worths W ps x
end
end Pl
theorem worth_eq (w : Pl) (x : Str) : w.worth x = if decide (w.name = x) = true then 1 else Pl.worths w.weights w.parts x := by
  cases w with
  | leaf n s => simp only [Pl.worth, Pl.parts, Pl.worths]; split <;> rfl
  | lot r n ps => simp only [Pl.worth, Pl.parts, Pl.weights]; rfl
theorem worths_in {W : Int} {ps : List (Int × Pl)} {i : Nat} {q : Int × Pl} {x : Str} (m : ps[i]? = some q) (c : (!(q.2.find x).isNone) = true) : Pl.worths W (ps.drop i) x = qd q.1 W * q.2.worth x := by
  obtain ⟨lt, e⟩ := List.getElem?_eq_some_iff.mp m
  rw [List.drop_eq_getElem_cons lt, e]
  obtain ⟨a, b⟩ := q
  simp only [Pl.worths]
  rw [if_pos c]
theorem worths_next {W : Int} {ps : List (Int × Pl)} {i : Nat} {q : Int × Pl} {x : Str} (m : ps[i]? = some q) (c : (!(q.2.find x).isNone) = false) : Pl.worths W (ps.drop i) x = Pl.worths W (ps.drop (i + 1)) x := by
  obtain ⟨lt, e⟩ := List.getElem?_eq_some_iff.mp m
  rw [List.drop_eq_getElem_cons lt, e]
  obtain ⟨a, b⟩ := q
  simp only [Pl.worths]
  rw [if_neg (by rw [c]; simp)]
theorem weights_lim {w : Pl} (h : w.Fit) (hl : w.isLeaf = false) : 1 ≤ w.weights ∧ w.weights ≤ 600 := by
  obtain ⟨r, n, ps, rfl⟩ := lot_of hl
  have l := fit_len h
  have hp := fit_parts h
  have e := wsum_int (ps := ps) (fun q hq => by have := (hp q hq).1; omega)
  have b := wsum_le (ps := ps) (fun q hq => (hp q hq).1)
  show 1 ≤ (ps.map fun q : Int × Pl => q.1).sum ∧ (ps.map fun q : Int × Pl => q.1).sum ≤ 600
  rw [e]
  omega
theorem part_lim {w : Pl} (h : w.Fit) {q : Int × Pl} (m : q ∈ w.parts) : w.isLeaf = false ∧ Bot w.weights ∧ Lim 10 (qd q.1 w.weights) ∧ q.2.Fit := by
  have hl : w.isLeaf = false := by
    cases w with
    | leaf n s => simp [Pl.parts] at m
    | lot r n ps => rfl
  have b := weights_lim h hl
  obtain ⟨r, n, ps, rfl⟩ := lot_of hl
  have hp := fit_parts h q m
  refine ⟨rfl, ?_, lim_qd (by omega) ?_ ?_, hp.2⟩
  · exact bot_of (k := 10) (by omega) (show _ < 2 ^ 10 by omega) (by decide) (by decide)
  · show _ < 1024
    have := hp.1
    omega
  · show _ < 1024
    omega
theorem worth_lim : ∀ (w : Pl) (x : Str), w.Fit → Lim (10 * w.depth) (w.worth x) := fun w => by
  have key : ∀ (m : Nat) (w : Pl), w.depth ≤ m → ∀ x, w.Fit → Lim (10 * w.depth) (w.worth x) := fun m => by
    induction m with
    | zero => intro w h; have := Pl.depth_pos w; omega
    | succ m ih =>
      intro w hd x hf
      rw [worth_eq]
      have dp := Pl.depth_pos w
      have l1 : Lim (10 * w.depth) 1 := lim1.mono (by omega)
      split
      · exact l1
      · have hs : ∀ (ps : List (Int × Pl)), (∀ q ∈ ps, q ∈ w.parts) → Lim (10 * w.depth) (Pl.worths w.weights ps x) := fun ps => by
          induction ps with
          | nil => intro _; simp only [Pl.worths]; exact l1
          | cons q ps ihp =>
            intro hq
            obtain ⟨i, v⟩ := q
            simp only [Pl.worths]
            have mm := hq (i, v) List.mem_cons_self
            have hv := Pl.part_depth mm
            obtain ⟨_, _, k2, k3⟩ := part_lim hf mm
            split
            · exact (lim_mul k2 (ih v (by simp only at hv; omega) x k3)).mono (by simp only at hv; omega)
            · exact ihp fun q hm => hq q (List.mem_cons_of_mem _ hm)
        exact hs w.parts fun q hq => hq
  exact fun x h => key w.depth w (Nat.le_refl _) x h
theorem fit_all {p z : Pl} (hf : p.Fit) (h : z ∈ p.all) : z.Fit := by
  have key : ∀ (k : Nat) (p : Pl), p.depth ≤ k → p.Fit → ∀ w ∈ p.all, w.Fit := fun k => by
    induction k with
    | zero => intro p h; have := Pl.depth_pos p; omega
    | succ k ih =>
      intro p hd hf w hw
      rw [Pl.all_eq, Pl.alls_eq] at hw
      rcases List.mem_cons.mp hw with rfl | hw
      · exact hf
      · obtain ⟨q, hq, hw⟩ := List.mem_flatMap.mp hw
        refine ih q.2 (by have := Pl.part_depth hq; omega) ?_ w hw
        cases p with
        | leaf n s => simp [Pl.parts] at hq
        | lot r n ps => exact (fit_parts hf q hq).2
  exact key p.depth p (Nat.le_refl _) hf z h
theorem all_all {p z y : Pl} (h : z ∈ p.all) (hy : y ∈ z.all) : y ∈ p.all := by
  have k : ∀ (m : Nat) (p : Pl), p.depth ≤ m → ∀ z ∈ p.all, ∀ y ∈ z.all, y ∈ p.all := fun m => by
    induction m with
    | zero => intro p h; have := Pl.depth_pos p; omega
    | succ m ih =>
      intro p hd z hz y hy
      rw [Pl.all_eq, Pl.alls_eq] at hz
      rcases List.mem_cons.mp hz with rfl | hz
      · exact hy
      · obtain ⟨q, hq, hz⟩ := List.mem_flatMap.mp hz
        rw [Pl.all_eq, Pl.alls_eq]
        exact List.mem_cons_of_mem _ (List.mem_flatMap.mpr ⟨q, hq, ih q.2 (by have := Pl.part_depth hq; omega) z hz y hy⟩)
  exact k p.depth p (Nat.le_refl _) z h y hy
theorem far_sub {p z : Pl} {d : List (Str × Int)} (f : FarOk p d) (h : z ∈ p.all) : FarOk z d := ⟨fit_all f.fit h, fun n m hm => f.cnt n m (all_all h hm), Nat.le_trans (all_small h) f.few⟩
theorem plan_sub {p z : Pl} (f : PlanOk p) (h : z ∈ p.all) : PlanOk z := by
  have k : ∀ (m : Nat) (p : Pl), p.depth ≤ m → PlanOk p → ∀ z ∈ p.all, PlanOk z := fun m => by
    induction m with
    | zero => intro p h; have := Pl.depth_pos p; omega
    | succ m ih =>
      intro p hd f z hz
      rw [Pl.all_eq, Pl.alls_eq] at hz
      rcases List.mem_cons.mp hz with rfl | hz
      · exact f
      · obtain ⟨q, hq, hz⟩ := List.mem_flatMap.mp hz
        exact ih q.2 (by have := Pl.part_depth hq; omega) (f.part hq) z hz
  exact k p.depth p (Nat.le_refl _) f z h
/-- behind a run all is well -/
theorem RunOk.last {p : Pl} {ts : List Tel} (h : RunOk p ts) : CsOk (runC p ts).plan (runC p ts).did := by
  have z := (cs_ok h.plan h.can ts.length (Nat.le_refl _)).1
  rwa [List.take_length] at z
end Hf

namespace Hf
open PySem PySem.Spec PyProof.Rows L2 ClX
theorem leaf_eta {w : Pl} (h : w.isLeaf = true) : w = .leaf w.name w.steps := by
  cases w with
  | leaf n s => rfl
  | lot r n ps => simp [Pl.isLeaf] at h
theorem map_eta (ps : List (Int × Pl)) : (ps.map fun q : Int × Pl => (q.1, q.2)) = ps := by
  induction ps with
  | nil => rfl
  | cons q ps ih => rw [List.map_cons, ih]
theorem row_eta {w : Pl} (h : w.isLeaf = false) : w = .lot (decide (w.kind = ("row" : Str))) w.name w.parts := by
  cases w with
  | leaf n s => simp [Pl.isLeaf] at h
  | lot r n ps =>
    have z := row_of (w := .lot r n ps) rfl
    rw [← z]
    cases r <;> rfl
theorem made_lot {w : Pl} (h : PlanOk w) (hl : w.isLeaf = false) {b : Bool} (hk : decide (w.kind = ("row" : Str)) = b) : LotOk b w.name (w.parts.map fun q : Int × Pl => (q.1, q.2)) ∧ w.name.length ≤ 1000 := by
  rw [map_eta]
  have e := row_eta hl
  rw [hk] at e
  exact h.lot e
theorem made_eq {w : Pl} (hl : w.isLeaf = false) : w = if decide (w.kind = ("row" : Str)) = true then Pl.lot true w.name (w.parts.map fun q : Int × Pl => (q.1, q.2)) else Pl.lot false w.name (w.parts.map fun q : Int × Pl => (q.1, q.2)) := by
  rw [map_eta]
  have e := row_eta hl
  cases hk : decide (w.kind = ("row" : Str)) with
  | true => rw [hk] at e; exact e
  | false => rw [hk] at e; exact e
theorem zz_ok : isNameB "zz" = true ∧ ("zz" : Str).length ≤ 1000 := by decide +kernel
theorem sorts_eq (w : Pl) : [w.isLeaf, w.isRow, w.isBun] = [decide (w.kind = ("leaf" : Str)), decide (w.kind = ("row" : Str)), decide (w.kind = ("bundle" : Str))] := by
  rw [leaf_of rfl, row_of rfl, bun_of rfl]
theorem leaf_steps {w : Pl} (h : w.isLeaf = true) : w.parts = [] := by
  cases w with
  | leaf n s => rfl
  | lot r n ps => simp [Pl.isLeaf] at h
theorem lot_steps {w : Pl} (h : w.isLeaf = false) : w.steps = none := by
  cases w with
  | leaf n s => simp [Pl.isLeaf] at h
  | lot r n ps => rfl
theorem zip_self {α : Type} {l : List α} {q : α × α} (h : q ∈ l.zip l) : q.1 = q.2 ∧ q.1 ∈ l := by
  induction l with
  | nil => simp at h
  | cons a l ih =>
    rw [List.zip_cons_cons] at h
    rcases List.mem_cons.mp h with rfl | h
    · exact ⟨rfl, List.mem_cons_self⟩
    · exact ⟨(ih h).1, List.mem_cons_of_mem _ (ih h).2⟩
theorem pdStrs_nil {l : List Str} : PyData.eqv (pdStrs l) (.list []) = decide (l = []) := by
  have z := pdStrs_eqv (a := l) (b := [])
  exact z
theorem names_ne (w : Pl) : w.names ≠ [] := by rw [Pl.names_eq]; simp
end Hf

namespace Hf
open PySem PySem.Spec PyProof.Rows L2 ClX
theorem leafB (w : Pl) : decide (w.kind = ("leaf" : Str)) = w.isLeaf := by
  cases h : decide (w.kind = ("leaf" : Str)) <;> exact (leaf_of h).symm
theorem leaves_filter : ∀ (w : Pl), w.leaves = (w.all.filter fun q : Pl => decide (q.kind = ("leaf" : Str))).map fun q : Pl => q := fun w => by
  have key : ∀ (m : Nat) (w : Pl), w.depth ≤ m → w.leaves = w.all.filter fun q : Pl => decide (q.kind = ("leaf" : Str)) := fun m => by
    induction m with
    | zero => intro w h; have := Pl.depth_pos w; omega
    | succ m ih =>
      intro w hd
      cases w with
      | leaf n s =>
        rw [leaves_leaf rfl, Pl.all_eq]
        simp only [Pl.parts, Pl.alls]
        rw [List.filter_cons, if_pos (by rw [leafB]; rfl)]
        rfl
      | lot r n ps =>
        rw [leaves_eq _ rfl, Pl.all_eq, List.filter_cons, if_neg (by rw [leafB]; simp [Pl.isLeaf])]
        have hs : ∀ (l : List (Int × Pl)), (∀ q ∈ l, q ∈ ps) → Pl.leavess l = (Pl.alls l).filter fun q : Pl => decide (q.kind = ("leaf" : Str)) := fun l => by
          induction l with
          | nil => intro _; simp [Pl.leavess, Pl.alls]
          | cons q l ihl =>
            intro hq
            obtain ⟨i, v⟩ := q
            have hv := Pl.part_depth (w := .lot r n ps) (hq (i, v) List.mem_cons_self)
            simp only [Pl.leavess, Pl.alls, List.filter_append]
            rw [ihl fun q hm => hq q (List.mem_cons_of_mem _ hm), ih v (by simp only at hv; omega)]
        exact hs ps fun q hq => hq
  rw [List.map_id', key w.depth w (Nat.le_refl _)]
/-! ### a work put in its place, sizes of what fits -/
namespace Pl
mutual
def put (x : Str) (m : Pl) : Pl → Pl
  | .leaf n s => if decide (n = x) = true then m else .leaf n s
  | .lot r n ps => if decide (n = x) = true then m else .lot r n (puts x m ps)
def puts (x : Str) (m : Pl) : List (Int × Pl) → List (Int × Pl)
  | [] => []
  | (i, w) :: ps => (i, put x m w) :: puts x m ps
end
end Pl
theorem puts_map {x : Str} {m : Pl} : ∀ (ps : List (Int × Pl)), Pl.puts x m ps = ps.map fun q : Int × Pl => (q.1, Pl.put x m q.2)
  | [] => by simp only [Pl.puts, List.map_nil]
  | (i, w) :: ps => by simp only [Pl.puts, List.map_cons]; rw [puts_map ps]
theorem put_here {w m : Pl} {x : Str} (c : decide (w.name = x) = true) : Pl.put x m w = m := by
  cases w with
  | leaf n s => simp only [Pl.put]; exact if_pos c
  | lot r n ps => simp only [Pl.put]; exact if_pos c
theorem put_leaf {w m : Pl} {x : Str} (c : decide (w.name = x) = false) (hl : w.isLeaf = true) : Pl.put x m w = w := by
  cases w with
  | leaf n s => simp only [Pl.put]; exact if_neg (by rw [show decide (n = x) = false from c]; simp)
  | lot r n ps => simp [Pl.isLeaf] at hl
theorem put_lot {w m : Pl} {x : Str} (c : decide (w.name = x) = false) (hl : w.isLeaf = false) : Pl.put x m w = .lot w.isRow w.name (w.parts.map fun q : Int × Pl => (q.1, Pl.put x m q.2)) := by
  cases w with
  | leaf n s => simp [Pl.isLeaf] at hl
  | lot r n ps =>
    simp only [Pl.put]
    rw [if_neg (by rw [show decide (n = x) = false from c]; simp), puts_map]
    cases r <;> rfl
theorem fit_part {w : Pl} {q : Int × Pl} (hf : w.Fit) (m : q ∈ w.parts) : q.2.Fit := by
  cases w with
  | leaf n s => simp [Pl.parts] at m
  | lot r n ps => exact (fit_parts hf q m).2
theorem fit_few {w : Pl} (hf : w.Fit) : w.parts.length ≤ 6 := by
  cases w with
  | leaf n s => show ([] : List (Int × Pl)).length ≤ 6; simp
  | lot r n ps => exact (fit_len hf).2
theorem fit_ne {w : Pl} (hf : w.Fit) (hl : w.isLeaf = false) : w.parts ≠ [] := by
  cases w with
  | leaf n s => simp [Pl.isLeaf] at hl
  | lot r n ps =>
    have := (fit_len hf).1
    intro e
    rw [show ps = [] from e] at this
    simp at this
theorem kind_lot {w : Pl} {n : Str} {ps : List (Int × Pl)} (hl : w.isLeaf = false) : w.kind = (Pl.lot w.isRow n ps).kind := by
  cases w with
  | leaf n s => simp [Pl.isLeaf] at hl
  | lot r n ps => cases r <;> rfl
theorem depth_leaf {w : Pl} (hl : w.isLeaf = true) : w.depth = 1 := by
  cases w with
  | leaf n s => simp only [Pl.depth]
  | lot r n ps => simp [Pl.isLeaf] at hl
theorem depths_in : ∀ {ps : List (Int × Pl)}, ps ≠ [] → ∃ q ∈ ps, q.2.depth = Pl.depths ps
  | [], h => absurd rfl h
  | (i, w) :: ps, _ => by
    simp only [Pl.depths]
    by_cases e : ps = []
    · subst e
      exact ⟨(i, w), List.mem_cons_self, by simp only [Pl.depths]; omega⟩
    · obtain ⟨q, hq, e2⟩ := depths_in e
      by_cases c : Pl.depths ps ≤ w.depth
      · exact ⟨(i, w), List.mem_cons_self, by show w.depth = _; omega⟩
      · exact ⟨q, List.mem_cons_of_mem _ hq, by omega⟩
theorem depth_law {w : Pl} (hf : w.Fit) (hl : w.isLeaf = false) : (w.depth : Int) = 1 + maxL (w.parts.map fun q : Int × Pl => (q.2.depth : Int)) := by
  obtain ⟨q, hq, e⟩ := depths_in (fit_ne hf hl)
  have e1 := Pl.depth_eq w
  have e2 : maxL (w.parts.map fun q : Int × Pl => (q.2.depth : Int)) = ((Pl.depths w.parts : Nat) : Int) := by
    refine maxL_eq (List.mem_map.mpr ⟨q, hq, by rw [e]⟩) fun y hy => ?_
    obtain ⟨q2, hq2, rfl⟩ := List.mem_map.mp hy
    have := Pl.depths_mem hq2
    omega
  rw [e1, e2]
  push_cast
  rfl
end Hf

namespace Hf
open PySem PySem.Spec PyProof.Rows L2 ClX
section
variable {X : Cx} {E : Ent} {Γ Γ' : List Slot} {D : Ends} {e tg : Expr} {rest : List Stmt} {pos : Pos} {α : Type} {r : Rp α} {x : α}
/-- a, b = e -/
theorem bk_asg {U : α → List Slot → List Slot} {vs : List Nat} (he : Ev X Γ e r x) (ht : TgOk X tg r U vs) (k : Bk X E (U x Γ) rest D) (hs : swapsWithSole [tg] e pos.line X.env = pure false := by rfl) (hw : swappedStores [tg] e X.env = pure none := by rfl)
    (h1 : (assignEach [tg] X.env).map (·.2) = [assign tg X.env] := by rfl) : Bk X E Γ (.Assign [tg] e pos :: rest) D :=
  bk_of (ps_asg WE.pe WG.pg hs hw h1) fun G H σ hh => he E G H σ hh _ fun v G1 H1 l1 r1 => ht E G1 H1 σ Γ v x (hh.step l1) r1 _ fun σ' _ hh' => k G1 H1 σ' hh'
end
/-! ### how far, by the law's reckoning -/
def sumF (ps : List (Int × Pl)) (did : List (Str × Int)) : Rat := ps.foldl (fun (a : Rat) (q : Int × Pl) => a + (q.1 : Rat) * q.2.far did) 0
theorem sumF_fars {did : List (Str × Int)} : ∀ (ps : List (Int × Pl)) (a : Rat), ps.foldl (fun (a : Rat) (q : Int × Pl) => a + (q.1 : Rat) * q.2.far did) a = a + Pl.fars 1 ps did
  | [], a => by simp only [Pl.fars, List.foldl_nil]; grind
  | (i, w) :: ps, a => by
    rw [List.foldl_cons, sumF_fars ps]
    simp only [Pl.fars]
    have : ((1 : Int) : Rat) = 1 := rfl
    rw [this]
    grind
theorem fars_mul {did : List (Str × Int)} {W : Int} (hW : (W : Rat) ≠ 0) : ∀ (ps : List (Int × Pl)), Pl.fars W ps did = Pl.fars 1 ps did / (W : Rat)
  | [] => by simp only [Pl.fars]; rw [Rat.div_def, Rat.zero_mul]
  | (i, w) :: ps => by
    simp only [Pl.fars]
    rw [fars_mul hW ps]
    have : ((1 : Int) : Rat) = 1 := rfl
    rw [this]
    grind
theorem qd_eq {x : Rat} {t b : Int} (hb : 0 < b) (h : x * (b : Rat) = (t : Rat)) : x = qd t b := by
  unfold qd
  have : (b : Rat) ≠ 0 := by
    have : (0 : Rat) < (b : Rat) := by exact_mod_cast hb
    grind
  grind
theorem far_sumF {w : Pl} {did : List (Str × Int)} (h : w.Fit) (hl : w.isLeaf = false) : w.far did = qd (sumF w.parts did).num (((sumF w.parts did).den : Int) * w.weights) := by
  have b := weights_lim h hl
  have d := den_pos (sumF w.parts did)
  refine qd_eq (Int.mul_pos d (by omega)) ?_
  have hW : ((w.weights : Int) : Rat) ≠ 0 := by
    have : (0 : Rat) < (w.weights : Rat) := by exact_mod_cast (show 0 < w.weights by omega)
    grind
  have e1 : w.far did = sumF w.parts did / (w.weights : Rat) := by
    obtain ⟨r, n, ps, rfl⟩ := lot_of hl
    have z := sumF_fars (did := did) ps 0
    show Pl.far (.lot r n ps) did = sumF ps did / ((Pl.lot r n ps).weights : Rat)
    simp only [Pl.far]
    rw [show sumF ps did = Pl.fars 1 ps did by unfold sumF; rw [z]; grind]
    exact fars_mul hW ps
  have e2 := q_mul (sumF w.parts did)
  rw [e1, e2]
  push_cast
  grind
theorem sumF_step {S f : Rat} {i : Int} : S + (i : Rat) * f = qd (S.num * (f.den : Int) + i * f.num * (S.den : Int)) ((S.den : Int) * (f.den : Int)) := by
  refine qd_eq (Int.mul_pos (den_pos S) (den_pos f)) ?_
  have e1 := q_mul S
  have e2 := q_mul f
  push_cast
  rw [e1, e2]
  push_cast
  grind
theorem sumF_lim {w : Pl} {did : List (Str × Int)} (f : FarOk w did) (hl : w.isLeaf = false) (i : Nat) : Lim 210 (sumF (w.parts.take i) did) := by
  have hd := den_lt f.fit
  have hfew := f.few
  have hc := f.cnt
  have hf := f.fit
  obtain ⟨r, n, ps, rfl⟩ := lot_of hl
  have hp := fit_parts hf
  have hpos : ∀ q ∈ ps, 0 < q.2.den := fun q hq => den_pos' q.2 (hp q hq).2
  have e : sumF (ps.take i) did = Pl.fars ((1 : Nat) : Int) (ps.take i) did := by
    have z := sumF_fars (did := did) (ps.take i) 0
    unfold sumF
    rw [z]
    have : (((1 : Nat) : Int)) = 1 := rfl
    rw [this]
    grind
  have fr := fars_fr (did := did) (W := 1) (by decide) (l := ps.take i) (fun q hq => by
    have hq' := List.mem_of_mem_take hq
    exact ⟨by have := (hp q hq').1; omega, far_fr (hp q hq').2 (hc.part (w := .lot r n ps) hq')⟩)
  rw [← e] at fr
  obtain ⟨N, hN, hS⟩ := fr
  have dt := dens_take ps i hpos
  have wt := wsum_take ps i
  have wl := wsum_le (ps := ps) (fun q hq => (hp q hq).1)
  have fl := fit_len hf
  have dW : Pl.dens ps ≤ (Pl.lot r n ps).den := by
    simp only [Pl.den]
    refine Nat.le_mul_of_pos_left _ ?_
    have := wl.1
    have e2 := wsum_int (ps := ps) (fun q hq => by have := (hp q hq).1; omega)
    omega
  have d2 : Pl.dens (ps.take i) < 2 ^ 200 := by
    refine Nat.lt_of_le_of_lt (Nat.le_trans dt.1 dW) (Nat.lt_of_lt_of_le hd ?_)
    exact Nat.pow_le_pow_right (by decide) (by omega)
  show Lim 210 (sumF (ps.take i) did)
  rw [Nat.one_mul] at hS
  have hS' : sumF (ps.take i) did = qd (N : Int) (Pl.dens (ps.take i) : Int) := qd_eq (by have := dt.2; omega) (by
    have : (((Pl.dens (ps.take i) : Nat) : Int) : Rat) = ((Pl.dens (ps.take i) : Nat) : Rat) := rfl
    rw [this, hS]
    rfl)
  rw [hS']
  refine lim_qd (by have := dt.2; omega) ?_ ?_
  · show N < 2 ^ 210
    have : wsum (ps.take i) * Pl.dens (ps.take i) ≤ 600 * Pl.dens (ps.take i) := Nat.mul_le_mul_right _ (by omega)
    have e3 : (2 : Nat) ^ 210 = 1024 * 2 ^ 200 := by rw [show (210 : Nat) = 10 + 200 from rfl, Nat.pow_add]
    omega
  · show Pl.dens (ps.take i) < 2 ^ 210
    have e3 : (2 : Nat) ^ 210 = 1024 * 2 ^ 200 := by rw [show (210 : Nat) = 10 + 200 from rfl, Nat.pow_add]
    omega
theorem part_wt {w : Pl} (h : w.Fit) {q : Int × Pl} (m : q ∈ w.parts) : 1 ≤ q.1 ∧ q.1 ≤ 100 := by
  cases w with
  | leaf n s => simp [Pl.parts] at m
  | lot r n ps => exact (fit_parts h q m).1
theorem wt_t {i : Int} (h : 1 ≤ i ∧ i ≤ 100) : Top i := top_of (k := 7) (show _ < 128 by omega) (by decide) (by decide)
theorem wt_t6 {i : Int} (h : 1 ≤ i ∧ i ≤ 600) : Top i := top_of (k := 10) (show _ < 1024 by omega) (by decide) (by decide)
theorem wt_top {i : Int} {n : Nat} {q : Rat} (h : 1 ≤ i ∧ i ≤ 100) (l : Lim n q) (hn : n ≤ 5000 := by decide) : Top (i * q.num) := by
  refine top_of (k := 7 + n) ?_ (by omega) (by omega)
  rw [Int.natAbs_mul, Nat.pow_add]
  exact Nat.mul_lt_mul'' (show _ < 128 by omega) l.1
theorem wt_bot {i : Int} {n : Nat} {q : Rat} (l : Lim n q) (h : 1 ≤ i ∧ i ≤ 600) (hn : n ≤ 5000 := by decide) : Bot ((q.den : Int) * i) := by
  refine bot_of (k := n + 10) (Int.mul_pos (den_pos q) (by omega)) ?_ (by omega) (by omega)
  rw [Int.natAbs_mul, Nat.pow_add]
  exact Nat.mul_lt_mul'' (by simpa using l.2) (show _ < 1024 by omega)
end Hf

namespace Hf
open PySem PySem.Spec PyProof.Rows L2 ClX
/-! ### what a telling does, by the law's reckoning -/
def tookL (p : Pl) (d : List (Str × Int)) (t : Tel) : Option Pl × List (Str × Int) :=
  match p.find t.name with
  | none => (none, d)
  | some w => match t with
    | .again _ => (some p, zeroed d w.leaves)
    | .found _ wt ln st => if (w.isLeaf || (decide ((w.parts.length : Int) = 6) || decide (ln ∈ p.names))) = true then (none, d) else
        if (decide (((Pl.put w.name (.lot w.isRow w.name (w.parts ++ [(wt, .leaf ln st)])) p).names.length : Int) ≤ 20) && decide (((Pl.put w.name (.lot w.isRow w.name (w.parts ++ [(wt, .leaf ln st)])) p).depth : Int) ≤ 5)) = true then (some (Pl.put w.name (.lot w.isRow w.name (w.parts ++ [(wt, .leaf ln st)])) p), d) else (none, d)
    | .knows _ k => if w.isLeaf = true then (if (w.steps.isNone && decide (dg d w.name ≤ k)) = true then (some (Pl.put w.name (.leaf w.name (some k)) p), d) else (none, d)) else (none, d)
    | .did _ k => if w.isLeaf = true then (if (!w.steps.isNone && decide (w.steps.getD 0 < dg d w.name + k)) = true then (none, d) else (some p, dPut d w.name (dg d w.name + k))) else (none, d)
namespace Pl
mutual
theorem find_none' : ∀ (p : Pl) {x : Str}, p.find x = none → x ∉ p.names
  | .leaf n s, x, h => by
    simp only [find] at h
    split at h
    · cases h
    · rename_i e
      simp only [names, List.mem_singleton]
      exact fun z => e (decide_eq_true z.symm)
  | .lot r n ps, x, h => by
    simp only [find] at h
    split at h
    · cases h
    · rename_i e
      simp only [names, List.mem_cons, not_or]
      exact ⟨fun z => e (decide_eq_true z.symm), finds_none' ps h⟩
theorem finds_none' : ∀ (ps : List (Int × Pl)) {x : Str}, finds ps x = none → x ∉ namess ps
  | [], x, h => by simp [namess]
  | (i, w) :: ps, x, h => by
    simp only [finds] at h
    simp only [namess, List.mem_append, not_or]
    cases z : find w x with
    | some y => rw [z] at h; cases h
    | none => rw [z] at h; exact ⟨find_none' w z, finds_none' ps h⟩
end
theorem find_none {p : Pl} {x : Str} (h : p.find x = none) : x ∉ p.names := find_none' p h
section
variable {x : Str} {wt : Int} {lf m : Pl} {k : Int}
mutual
theorem put_not : ∀ (p : Pl), x ∉ p.names → put x m p = p
  | .leaf n s, h => by
    simp only [names, List.mem_singleton] at h
    simp only [put]
    rw [if_neg (by simpa using fun e => h e.symm)]
  | .lot r n ps, h => by
    simp only [names, List.mem_cons, not_or] at h
    simp only [put]
    rw [if_neg (by simpa using fun e => h.1 e.symm), puts_not ps h.2]
theorem puts_not : ∀ (ps : List (Int × Pl)), x ∉ namess ps → puts x m ps = ps
  | [], h => by simp [puts]
  | (i, w) :: ps, h => by
    simp only [namess, List.mem_append, not_or] at h
    simp only [puts]
    rw [put_not w h.1, puts_not ps h.2]
end
mutual
theorem wl_not : ∀ (p : Pl), x ∉ p.names → withLeaf x wt lf p = p
  | .leaf n s, h => by simp only [withLeaf]
  | .lot r n ps, h => by
    simp only [names, List.mem_cons, not_or] at h
    simp only [withLeaf]
    rw [if_neg (by simpa using fun e => h.1 e.symm), wls_not ps h.2]
theorem wls_not : ∀ (ps : List (Int × Pl)), x ∉ namess ps → withLeafs x wt lf ps = ps
  | [], h => by simp [withLeafs]
  | (i, w) :: ps, h => by
    simp only [namess, List.mem_append, not_or] at h
    simp only [withLeafs]
    rw [wl_not w h.1, wls_not ps h.2]
end
mutual
theorem ws_not : ∀ (p : Pl), x ∉ p.names → withSteps x k p = p
  | .leaf n s, h => by
    simp only [names, List.mem_singleton] at h
    simp only [withSteps]
    rw [if_neg (by simpa using fun e => h e.symm)]
  | .lot r n ps, h => by
    simp only [names, List.mem_cons, not_or] at h
    simp only [withSteps]
    rw [wss_not ps h.2]
theorem wss_not : ∀ (ps : List (Int × Pl)), x ∉ namess ps → withStepss x k ps = ps
  | [], h => by simp [withStepss]
  | (i, w) :: ps, h => by
    simp only [namess, List.mem_append, not_or] at h
    simp only [withStepss]
    rw [ws_not w h.1, wss_not ps h.2]
end
mutual
/-- a work put in its place is what the package makes of it -/
theorem put_wl : ∀ (p : Pl) {w : Pl}, p.names.Nodup → p.find x = some w → w.isLeaf = false → put x (.lot w.isRow w.name (w.parts ++ [(wt, lf)])) p = withLeaf x wt lf p
  | .leaf n s, w, nd, h, hl => by
    simp only [find] at h
    split at h
    · cases h; simp [isLeaf] at hl
    · cases h
  | .lot r n ps, w, nd, h, hl => by
    simp only [names, List.nodup_cons] at nd
    simp only [find] at h
    simp only [put, withLeaf]
    by_cases e : decide (n = x) = true
    · rw [if_pos e] at h ⊢
      cases h
      rw [if_pos e]
      have hx : x ∉ namess ps := by rw [← of_decide_eq_true e]; exact nd.1
      rw [wls_not ps hx]
      have e2 : (Pl.lot r n ps).isRow = r := by cases r <;> rfl
      rw [e2]
      rfl
    · rw [if_neg e] at h ⊢
      rw [if_neg e, puts_wl ps nd.2 h hl]
theorem puts_wl : ∀ (ps : List (Int × Pl)) {w : Pl}, (namess ps).Nodup → finds ps x = some w → w.isLeaf = false → puts x (.lot w.isRow w.name (w.parts ++ [(wt, lf)])) ps = withLeafs x wt lf ps
  | [], w, nd, h, hl => by simp [finds] at h
  | (i, v) :: ps, w, nd, h, hl => by
    simp only [namess, List.nodup_append] at nd
    simp only [finds] at h
    simp only [puts, withLeafs]
    cases z : find v x with
    | some y =>
      rw [z] at h
      cases h
      have k1 := find_mem v z
      have hx : x ∉ namess ps := fun q => nd.2.2 _ (mem_names k1.1) _ q k1.2
      rw [put_wl v nd.1 z hl, puts_not ps hx, wls_not ps hx]
    | none =>
      rw [z] at h
      have hx : x ∉ v.names := fun q => find_none z q
      rw [put_not v hx, wl_not v hx, puts_wl ps nd.2.1 h hl]
end
mutual
theorem put_ws : ∀ (p : Pl) {w : Pl}, p.names.Nodup → p.find x = some w → w.isLeaf = true → put x (.leaf x (some k)) p = withSteps x k p
  | .leaf n s, w, nd, h, hl => by
    simp only [find] at h
    split at h
    · simp only [put, withSteps]
    · cases h
  | .lot r n ps, w, nd, h, hl => by
    simp only [names, List.nodup_cons] at nd
    simp only [find] at h
    simp only [put, withSteps]
    by_cases e : decide (n = x) = true
    · rw [if_pos e] at h
      cases h
      simp [isLeaf] at hl
    · rw [if_neg e] at h ⊢
      rw [puts_ws ps nd.2 h hl]
theorem puts_ws : ∀ (ps : List (Int × Pl)) {w : Pl}, (namess ps).Nodup → finds ps x = some w → w.isLeaf = true → puts x (.leaf x (some k)) ps = withStepss x k ps
  | [], w, nd, h, hl => by simp [finds] at h
  | (i, v) :: ps, w, nd, h, hl => by
    simp only [namess, List.nodup_append] at nd
    simp only [finds] at h
    simp only [puts, withStepss]
    cases z : find v x with
    | some y =>
      rw [z] at h
      cases h
      have k1 := find_mem v z
      have hx : x ∉ namess ps := fun q => nd.2.2 _ (mem_names k1.1) _ q k1.2
      rw [put_ws v nd.1 z hl, puts_not ps hx, wss_not ps hx]
    | none =>
      rw [z] at h
      have hx : x ∉ v.names := fun q => find_none z q
      rw [put_not v hx, ws_not v hx, puts_ws ps nd.2.1 h hl]
end
end
end Pl
theorem isRow_lot {r : Bool} {n : Str} {ps : List (Int × Pl)} : (Pl.lot r n ps).isRow = r := by cases r <;> rfl
theorem kL_one {p w : Pl} {x : Str} (nd : p.names.Nodup) (h : w ∈ p.all) (hx : w.name = x) (hl : w.isLeaf = false) : Pl.kL x p.all = 1 := by
  have nd2 : (p.all.map Pl.name).Nodup := by rw [all_names]; exact nd
  have key : ∀ l : List Pl, (l.map Pl.name).Nodup → (l.filter (Pl.isL x)).length ≤ 1 := fun l => by
    induction l with
    | nil => intro _; simp
    | cons a l ih =>
      intro nd
      rw [List.map_cons, List.nodup_cons] at nd
      rw [List.filter_cons]
      split
      · rename_i c
        have ha : a.name = x := by
          simp only [Pl.isL, Bool.and_eq_true, decide_eq_true_eq] at c
          exact c.2
        have : l.filter (Pl.isL x) = [] := List.filter_eq_nil_iff.mpr fun b hb c2 => by
          simp only [Pl.isL, Bool.and_eq_true, decide_eq_true_eq] at c2
          exact nd.1 (List.mem_map.mpr ⟨b, hb, c2.2.trans ha.symm⟩)
        rw [this]
        simp
      · exact ih nd.2
  have h1 : 1 ≤ Pl.kL x p.all := by
    have : w ∈ p.all.filter (Pl.isL x) := List.mem_filter.mpr ⟨h, by simp [Pl.isL, hl, hx]⟩
    exact List.length_pos_of_mem this
  have h2 : Pl.kL x p.all ≤ 1 := key _ nd2
  omega
namespace Pl
section
variable {x : Str} {wt : Int} {lf : Pl}
mutual
theorem wl_fit (hw : 1 ≤ wt ∧ wt ≤ 100) (hlf : lf.Fit) : ∀ (p : Pl) {w : Pl}, p.names.Nodup → p.find x = some w → w.isLeaf = false → w.parts.length ≤ 5 → p.Fit → (withLeaf x wt lf p).Fit
  | .leaf n s, w, nd, h, hl, h5, hf => by simp only [withLeaf]; exact hf
  | .lot r n ps, w, nd, h, hl, h5, hf => by
    simp only [names, List.nodup_cons] at nd
    simp only [find] at h
    simp only [withLeaf]
    by_cases e : decide (n = x) = true
    · rw [if_pos e] at h ⊢
      cases h
      have hx : x ∉ namess ps := by rw [← of_decide_eq_true e]; exact nd.1
      rw [wls_not ps hx]
      have h5' : ps.length ≤ 5 := h5
      have ha := hf.1
      refine ⟨?_, ?_⟩
      · unfold arePartsB at ha ⊢
        rw [Bool.and_eq_true] at ha ⊢
        refine ⟨?_, ?_⟩
        · rw [decide_eq_true_eq, List.length_append, List.length_singleton]
          omega
        · rw [List.all_append, Bool.and_eq_true]
          refine ⟨ha.2, ?_⟩
          simp [isNum, hw]
      · rw [fits_mem]
        intro q hq
        rcases List.mem_append.mp hq with hq | hq
        · exact fits_mem.mp hf.2 q hq
        · rw [List.mem_singleton] at hq
          rw [hq]
          exact hlf
    · rw [if_neg e] at h ⊢
      refine ⟨?_, wls_fit hw hlf ps nd.2 h hl h5 hf.2⟩
      have ha := hf.1
      unfold arePartsB at ha ⊢
      rw [withLeafs_map, List.length_map, List.all_map]
      exact ha
theorem wls_fit (hw : 1 ≤ wt ∧ wt ≤ 100) (hlf : lf.Fit) : ∀ (ps : List (Int × Pl)) {w : Pl}, (namess ps).Nodup → finds ps x = some w → w.isLeaf = false → w.parts.length ≤ 5 → Fits ps → Fits (withLeafs x wt lf ps)
  | [], w, nd, h, hl, h5, hf => by simp [withLeafs, Fits]
  | (i, v) :: ps, w, nd, h, hl, h5, hf => by
    simp only [namess, List.nodup_append] at nd
    simp only [finds] at h
    simp only [withLeafs]
    cases z : find v x with
    | some y =>
      rw [z] at h
      cases h
      have k1 := find_mem v z
      have hx : x ∉ namess ps := fun q => nd.2.2 _ (mem_names k1.1) _ q k1.2
      rw [wls_not ps hx]
      exact ⟨wl_fit hw hlf v nd.1 z hl h5 hf.1, hf.2⟩
    | none =>
      rw [z] at h
      have hx : x ∉ v.names := fun q => find_none z q
      rw [wl_not v hx]
      exact ⟨hf.1, wls_fit hw hlf ps nd.2.1 h hl h5 hf.2⟩
end
end
end Pl
theorem wl_ok {p w : Pl} {x ln : Str} {wt : Int} {st : Option Int} (hp : PlanOk p) (h : p.find x = some w) (hl : w.isLeaf = false) (h6 : w.parts.length ≠ 6) (hln : ln ∉ p.names) (hw : 1 ≤ wt ∧ wt ≤ 100) (hn : NameOk ln) (hst : StOk st)
    (hc : (Pl.withLeaf x wt (.leaf ln st) p).names.length ≤ 20) (hd : (Pl.withLeaf x wt (.leaf ln st) p).depth ≤ 5) : PlanOk (Pl.withLeaf x wt (.leaf ln st) p) := by
  obtain ⟨m, hx⟩ := find_mem p h
  have k1 := kL_one hp.nodup m hx hl
  have hf6 := fit_few (fit_all hp.fit m)
  have cnt := Pl.wl_cnt (x := x) (wt := wt) (ln := ln) (st := st) p
  refine ⟨Pl.wl_fit (lf := .leaf ln st) hw (show (Pl.leaf ln st).Fit from hst) p hp.nodup h hl (by omega) hp.fit, fun n hm => ?_, ?_, hc, hd⟩
  · have z : 0 < (Pl.withLeaf x wt (.leaf ln st) p).names.count n := List.count_pos_iff.mpr hm
    rw [cnt] at z
    by_cases e : ln = n
    · subst e; exact hn
    · rw [if_neg e] at z
      exact hp.names n (List.count_pos_iff.mp (by omega))
  · rw [List.nodup_iff_count]
    intro n
    rw [cnt]
    have z := List.nodup_iff_count.mp hp.nodup n
    by_cases e : ln = n
    · subst e
      have : p.names.count ln = 0 := List.count_eq_zero.mpr hln
      rw [if_pos rfl]
      omega
    · rw [if_neg e]
      omega
/-- what the law takes, the package takes -/
theorem tookL_some {p q : Pl} {d d' : List (Str × Int)} {t : Tel} (c : CsOk p d) (to : TelOk t) (hn : t.isFound = true → NameOk t.leaf) (h : tookL p d t = (some q, d')) : Took p d t q d' := by
  unfold tookL at h
  cases hf : p.find t.name with
  | none => rw [hf] at h; cases h
  | some w =>
    rw [hf] at h
    obtain ⟨m, hx⟩ := find_mem p hf
    cases t with
    | again n =>
      cases h
      exact .again hf
    | found e wt ln st =>
      dsimp only at h
      split at h
      · cases h
      · rename_i c1
        split at h
        · rename_i c2
          cases h
          simp only [Bool.or_eq_true, not_or, decide_eq_true_eq, Bool.not_eq_true] at c1
          obtain ⟨hl, h6, hln⟩ := c1
          have hx' : w.name = e := hx
          have hf' : p.find e = some w := hf
          have e3 := Pl.put_wl (x := e) (wt := wt) (lf := .leaf ln st) p c.plan.nodup hf' hl
          rw [hx'] at e3
          rw [hx', e3] at c2 ⊢
          simp only [Bool.and_eq_true, decide_eq_true_eq] at c2
          have hnum := to.num rfl
          have hnum2 : isNum wt 1 100 = true := hnum
          simp only [isNum, Bool.and_eq_true, decide_eq_true_eq] at hnum2
          exact .found hf' hl (wl_ok c.plan hf' hl (by omega) hln hnum2 (hn rfl) (to.leaf rfl).2 (by omega) (by omega))
        · cases h
    | knows n k =>
      dsimp only at h
      split at h
      · rename_i hl
        split at h
        · rename_i c2
          cases h
          simp only [Bool.and_eq_true, decide_eq_true_eq] at c2
          have hx' : w.name = n := hx
          have hf' : p.find n = some w := hf
          rw [hx', Pl.put_ws p c.plan.nodup hf' hl]
          exact .knows hf' hl (by simpa using c2.1) (by rw [← hx']; exact c2.2)
        · cases h
      · cases h
    | did n k =>
      dsimp only at h
      split at h
      · rename_i hl
        split at h
        · cases h
        · rename_i c2
          cases h
          have hx' : w.name = n := hx
          have hf' : p.find n = some w := hf
          rw [hx'] at c2 ⊢
          refine .did hf' hl fun s hs => ?_
          rw [hs] at c2
          simpa using c2
      · cases h
theorem tookL_none {p : Pl} {d d' : List (Str × Int)} {t : Tel} (h : tookL p d t = (none, d')) : d' = d := by
  unfold tookL at h
  cases hf : p.find t.name with
  | none => rw [hf] at h; cases h; rfl
  | some w =>
    rw [hf] at h
    cases t with
    | again n => cases h
    | found e wt ln st =>
      dsimp only at h
      split at h
      · cases h; rfl
      · split at h
        · cases h
        · cases h; rfl
    | knows n k =>
      dsimp only at h
      split at h
      · split at h
        · cases h
        · cases h; rfl
      · cases h; rfl
    | did n k =>
      dsimp only at h
      split at h
      · split at h
        · cases h; rfl
        · cases h
      · cases h; rfl
end Hf

namespace Hf
open PySem PySem.Spec PyProof.Rows L2 ClX
theorem dp_works {K : PySem.W.Frag} {G : Hp} : ∀ {vs : List V} {l : List Pl}, All2 (rPl K) G vs l → DpAll K G vs (l.map pdPl)
  | _, _, .nil => .nil
  | _, _, .cons (a := w) h t => .cons (dp_pl w _ h) (dp_works t)
theorem eqv_works {K : PySem.W.Frag} {l : List Pl} (h : ∀ w ∈ l, w.Ok) (hd : ∀ w ∈ l, w.depth ≤ 6) : Eqv K (rLst (rPl K)) l (.list (l.map pdPl)) := ⟨fun G v ⟨p, vs, e, k, a⟩ => by
  subst e
  exact .lst (.inl (.inl k)) (dp_works a), by
  have z : ∀ l : List Pl, (∀ w ∈ l, w.Ok) → PyData.canLayAll0 (l.map pdPl) = true := fun l => by
    induction l with
    | nil => intro _; rfl
    | cons a l ih =>
      intro h
      have h1 := (pdPl_lay a (h a List.mem_cons_self)).1
      simp [PyData.canLayAll0, ih (fun w m => h w (List.mem_cons_of_mem _ m)), h1]
  have d : ∀ l : List Pl, (∀ w ∈ l, w.Ok) → (∀ w ∈ l, w.depth ≤ 6) → PyData.depthAll (l.map pdPl) ≤ 40 := fun l => by
    induction l with
    | nil => intro _ _; simp [PyData.depthAll]
    | cons a l ih =>
      intro h hd
      have h1 := (pdPl_lay a (h a List.mem_cons_self)).2
      have h2 := hd a List.mem_cons_self
      have h3 := ih (fun w m => h w (List.mem_cons_of_mem _ m)) (fun w m => hd w (List.mem_cons_of_mem _ m))
      simp only [List.map_cons, PyData.depthAll]
      omega
  unfold SeqAt.shaped
  have := d l h hd
  simp only [PyData.canLay0, z l h, PyData.depth, Bool.true_and]
  exact decide_eq_true (by omega)⟩
theorem works_nil {l : List Pl} : PyData.eqv (.list (l.map pdPl)) (.list []) = l.isEmpty := by
  cases l <;> simp [PyData.eqv, PyData.eqvAll]
theorem find_filter {p : Pl} (nd : p.names.Nodup) (x : Str) : (p.all.filter fun q : Pl => decide (q.name = x)).map (fun q : Pl => q) = (p.find x).toList := by
  rw [List.map_id']
  cases h : p.find x with
  | none =>
    have hx := Pl.find_none h
    exact List.filter_eq_nil_iff.mpr fun w hw c => hx (by rw [← of_decide_eq_true c]; exact mem_names hw)
  | some w =>
    obtain ⟨m, e⟩ := find_mem p h
    have nd2 : (p.all.map Pl.name).Nodup := by rw [all_names]; exact nd
    have key : ∀ l : List Pl, (l.map Pl.name).Nodup → w ∈ l → l.filter (fun q : Pl => decide (q.name = x)) = [w] := fun l => by
      induction l with
      | nil => intro _ h; simp at h
      | cons a l ih =>
        intro nd hw
        rw [List.map_cons, List.nodup_cons] at nd
        rcases List.mem_cons.mp hw with e2 | hw
        · subst e2
          rw [List.filter_cons, if_pos (decide_eq_true e)]
          have : l.filter (fun q : Pl => decide (q.name = x)) = [] := List.filter_eq_nil_iff.mpr fun b hb c => nd.1 (List.mem_map.mpr ⟨b, hb, (of_decide_eq_true c).trans e.symm⟩)
          rw [this]
        · rw [List.filter_cons, if_neg (by
            intro c
            exact nd.1 (List.mem_map.mpr ⟨w, hw, e.trans (of_decide_eq_true c).symm⟩))]
          exact ih nd.2 hw
    exact key _ nd2 m
theorem plan_oks {p : Pl} (h : PlanOk p) : ∀ w ∈ p.all, w.Ok ∧ w.depth ≤ 6 := fun w hw => by
  have h2 := plan_sub h hw
  exact ⟨all_ok fun n hn => (h2.names n hn).2.2, Nat.le_trans h2.deep (by decide)⟩
theorem put_fit {x : Str} {m : Pl} (hm : m.Fit) : ∀ (p : Pl), p.Fit → (Pl.put x m p).Fit := fun p => by
  have key : ∀ (k : Nat) (p : Pl), p.depth ≤ k → p.Fit → (Pl.put x m p).Fit := fun k => by
    induction k with
    | zero => intro p h; have := Pl.depth_pos p; omega
    | succ k ih =>
      intro p hd hf
      by_cases c : decide (p.name = x) = true
      · rw [put_here c]; exact hm
      · have c' := (Bool.not_eq_true _).mp c
        cases hl : p.isLeaf with
        | true => rw [put_leaf c' hl]; exact hf
        | false =>
          rw [put_lot c' hl]
          obtain ⟨r, n, ps, rfl⟩ := lot_of hl
          refine ⟨?_, ?_⟩
          · have ha := hf.1
            unfold arePartsB at ha ⊢
            rw [List.length_map, List.all_map]
            exact ha
          · rw [Pl.fits_mem]
            intro q hq
            obtain ⟨q0, hq0, rfl⟩ := List.mem_map.mp hq
            exact ih q0.2 (by have := Pl.part_depth (w := .lot r n ps) hq0; omega) (fit_part (w := .lot r n ps) hf hq0)
  exact fun h => key p.depth p (Nat.le_refl _) h
theorem lot_fit {w : Pl} {wt : Int} {lf : Pl} (hf : w.Fit) (hl : w.isLeaf = false) (h6 : (w.parts.length : Int) ≠ 6) (hw : 1 ≤ wt ∧ wt ≤ 100) (hlf : lf.Fit) : (Pl.lot w.isRow w.name (w.parts ++ [(wt, lf)])).Fit := by
  have few := fit_few hf
  obtain ⟨r, n, ps, rfl⟩ := lot_of hl
  have h6' : (ps.length : Int) ≠ 6 := h6
  have few' : ps.length ≤ 6 := few
  have ha := hf.1
  refine ⟨?_, ?_⟩
  · show arePartsB (ps ++ [(wt, lf)]) = true
    unfold arePartsB at ha ⊢
    rw [Bool.and_eq_true] at ha ⊢
    refine ⟨?_, ?_⟩
    · rw [decide_eq_true_eq, List.length_append, List.length_singleton]
      omega
    · rw [List.all_append, Bool.and_eq_true]
      exact ⟨ha.2, by simp [isNum, hw]⟩
  · show Pl.Fits (ps ++ [(wt, lf)])
    rw [Pl.fits_mem]
    intro q hq
    rcases List.mem_append.mp hq with hq | hq
    · exact Pl.fits_mem.mp hf.2 q hq
    · rw [List.mem_singleton] at hq
      rw [hq]
      exact hlf
/-- with a leaf more: names, depth -/
theorem wl_size {p w : Pl} {x ln : Str} {wt : Int} {st : Option Int} (hp : PlanOk p) (h : p.find x = some w) (hl : w.isLeaf = false) : (Pl.withLeaf x wt (.leaf ln st) p).names.length ≤ 1000 ∧ (Pl.withLeaf x wt (.leaf ln st) p).depth ≤ 6 := by
  have key : ∀ (k : Nat) (p : Pl), p.depth ≤ k → (Pl.withLeaf x wt (.leaf ln st) p).depth ≤ p.depth + 1 ∧ (Pl.withLeaf x wt (.leaf ln st) p).names.length ≤ 2 * p.names.length := fun k => by
    induction k with
    | zero => intro p h; have := Pl.depth_pos p; omega
    | succ k ih =>
      intro p hd
      cases p with
      | leaf n s => simp only [Pl.withLeaf, Pl.names, List.length_singleton]; omega
      | lot r n ps =>
        have hs : ∀ l : List (Int × Pl), (∀ q ∈ l, q.2.depth ≤ k) → Pl.depths (Pl.withLeafs x wt (.leaf ln st) l) ≤ Pl.depths l + 1 ∧ (Pl.namess (Pl.withLeafs x wt (.leaf ln st) l)).length ≤ 2 * (Pl.namess l).length := fun l => by
          induction l with
          | nil => intro _; simp [Pl.withLeafs, Pl.depths, Pl.namess]
          | cons q l ihl =>
            intro hq
            obtain ⟨i, v⟩ := q
            have a := ih v (hq (i, v) List.mem_cons_self)
            have b := ihl fun q hm => hq q (List.mem_cons_of_mem _ hm)
            simp only [Pl.withLeafs, Pl.depths, Pl.namess, List.length_append]
            omega
        have b := hs ps fun q hq => by have := Pl.part_depth (w := .lot r n ps) hq; omega
        have dapp : ∀ (a b : List (Int × Pl)), Pl.depths (a ++ b) = max (Pl.depths a) (Pl.depths b) := fun a b => by
          induction a with
          | nil => simp [Pl.depths]
          | cons q a ih2 =>
            obtain ⟨i, v⟩ := q
            simp only [List.cons_append, Pl.depths, ih2]
            omega
        simp only [Pl.withLeaf, Pl.depth, Pl.names, List.length_cons]
        split
        · rw [dapp, Pl.namess_app, List.length_append]
          simp only [Pl.depths, Pl.depth, Pl.namess, Pl.names, List.append_nil, List.length_singleton]
          omega
        · omega
  have z := key p.depth p (Nat.le_refl _)
  have := hp.count
  have := hp.deep
  omega
end Hf

namespace Hf
open PySem PySem.Spec PyProof.Rows L2 ClX
/-! ### a telling, drawn -/
def cut (c : Int) (k : Nat) : Int := (numbersL c [8, 20, 9, 12, 8, 20]).getD k 0
theorem cut_at (c : Int) : numbersL c [8, 20, 9, 12, 8, 20] = [restOf c % 8, restOf c / 8 % 20, restOf c / 8 / 20 % 9, restOf c / 8 / 20 / 9 % 12, restOf c / 8 / 20 / 9 / 12 % 8, restOf c / 8 / 20 / 9 / 12 / 8 % 20] := rfl
theorem cut_len (c : Int) : (numbersL c [8, 20, 9, 12, 8, 20]).length = 6 := rfl
theorem cut_in (c : Int) : (0 ≤ cut c 0 ∧ cut c 0 < 8) ∧ (0 ≤ cut c 1 ∧ cut c 1 < 20) ∧ (0 ≤ cut c 2 ∧ cut c 2 < 9) ∧ (0 ≤ cut c 3 ∧ cut c 3 < 12) ∧ (0 ≤ cut c 4 ∧ cut c 4 < 8) ∧ (0 ≤ cut c 5 ∧ cut c 5 < 20) := by
  have m : ∀ (i n : Int), 0 < n → 0 ≤ i % n ∧ i % n < n := fun i n h => ⟨Int.emod_nonneg _ (by omega), Int.emod_lt_of_pos _ h⟩
  exact ⟨m _ _ (by decide), m _ _ (by decide), m _ _ (by decide), m _ _ (by decide), m _ _ (by decide), m _ _ (by decide)⟩
def pick (l : List Pl) (k : Int) (p : Pl) : Pl := l.getD (k % (l.length : Int)).toNat p
def unkL (p : Pl) : List Pl := (p.leaves.filter fun q : Pl => q.steps.isNone).map fun q : Pl => q
def lotsL (p : Pl) : List Pl := (p.all.filter fun q : Pl => !q.isLeaf).map fun q : Pl => q
def leafL (p : Pl) (c : Int) : Pl := pick p.leaves (cut c 1) p
def sizeL (l : Pl) : Int := if (!l.steps.isNone) = true then l.steps.getD 0 else 9
def nameL (p : Pl) (c : Int) : Str := if (!(unkL p).isEmpty) = true then (pick (unkL p) (cut c 5) p).name else (leafL p c).name
def elderL (p : Pl) (c : Int) : Pl := if (!(lotsL p).isEmpty) = true then pick (lotsL p) (cut c 1) p else pick p.all (cut c 1) p
def stepsL : List (Option Int) := [none, some 1, some 2, some 3, some 5, some 7, some 12, some 40]
def restL (p : Pl) (d : List (Str × Int)) (c : Int) : Int := if decide (6 < cut c 2) = true then sizeL (leafL p c) - dg d (leafL p c).name else min (sizeL (leafL p c) - dg d (leafL p c).name) (1 + cut c 2)
def tellL (p : Pl) (d : List (Str × Int)) (c : Int) : Tel :=
  if decide (cut c 0 < 4) = true then .did (leafL p c).name (max 1 (restL p d c))
  else if decide (cut c 0 = 4) = true then .knows (nameL p c) (max 1 (min 1000 (dg d (nameL p c) + cut c 3)))
  else if decide (cut c 0 < 7) = true then .found (elderL p c).name (1 + cut c 2) (namesL.getD (cut c 5).toNat Str.empty) (stepsL.getD (cut c 4).toNat none)
  else .again (pick p.all (cut c 1) p).name
theorem pick_in {l : List Pl} {k : Int} {p : Pl} (h : l ≠ []) (h0 : 0 ≤ k) : pick l k p ∈ l ∧ 0 ≤ k % (l.length : Int) ∧ k % (l.length : Int) < (l.length : Int) := by
  have hl : 0 < l.length := List.length_pos_iff.mpr h
  have a := Int.emod_nonneg k (b := (l.length : Int)) (by omega)
  have b := Int.emod_lt_of_pos k (b := (l.length : Int)) (by omega)
  refine ⟨?_, a, b⟩
  unfold pick
  rw [List.getD_eq_getElem?_getD, List.getElem?_eq_getElem (by omega)]
  exact List.getElem_mem _
theorem leaves_ne : ∀ {p : Pl}, p.Fit → p.leaves ≠ [] := fun {p} => by
  have key : ∀ (k : Nat) (p : Pl), p.depth ≤ k → p.Fit → p.leaves ≠ [] := fun k => by
    induction k with
    | zero => intro p h; have := Pl.depth_pos p; omega
    | succ k ih =>
      intro p hd hf
      cases hl : p.isLeaf with
      | true => rw [leaves_leaf hl]; simp
      | false =>
        rw [leaves_eq p hl]
        have ne := fit_ne hf hl
        cases e : p.parts with
        | nil => exact absurd e ne
        | cons q ps =>
          obtain ⟨i, v⟩ := q
          have mm : (i, v) ∈ p.parts := by rw [e]; exact List.mem_cons_self
          have hv := Pl.part_depth mm
          have z := ih v (by simp only at hv; omega) (fit_part hf mm)
          simp only [Pl.leavess]
          intro w
          exact z (List.append_eq_nil_iff.mp w).1
  exact fun h => key p.depth p (Nat.le_refl _) h
theorem all_ne (p : Pl) : p.all ≠ [] := by rw [Pl.all_eq]; simp
theorem steps_leaf {w : Pl} (h : PlanOk w) {i : Int} (e : w.steps = some i) : 1 ≤ i ∧ i ≤ 1000 := by
  have z := h.steps i e
  simp only [isNum, Bool.and_eq_true, decide_eq_true_eq] at z
  exact z
theorem unk_sub {p : Pl} : ∀ w ∈ unkL p, w ∈ p.leaves := fun w h => by
  unfold unkL at h
  rw [List.map_id'] at h
  exact (List.mem_filter.mp h).1
theorem lots_sub {p : Pl} : ∀ w ∈ lotsL p, w ∈ p.all := fun w h => by
  unfold lotsL at h
  rw [List.map_id'] at h
  exact (List.mem_filter.mp h).1
theorem tell_ok {p : Pl} {d : List (Str × Int)} (c : Int) (h : CsOk p d) : TelOk (tellL p d c) ∧ ((tellL p d c).isFound = true → NameOk (tellL p d c).leaf) := by
  obtain ⟨b0, b1, b2, b3, b4, b5⟩ := cut_in c
  have nm : ∀ w ∈ p.all, isNameB w.name = true ∧ w.name.length ≤ 1000 := fun w hw => by
    have z := (plan_sub h.plan hw).name
    exact ⟨z.1, z.2.1⟩
  have la : ∀ w ∈ p.leaves, w ∈ p.all := fun w hw => (leaves_sub p).subset hw
  have lf := (pick_in (p := p) (leaves_ne h.plan.fit) b1.1).1
  have al := (pick_in (p := p) (all_ne p) b1.1).1
  unfold tellL
  split
  · refine ⟨⟨nm _ (la _ lf), fun _ => ?_, fun z => by simp [Tel.isFound] at z⟩, fun z => by simp [Tel.isFound] at z⟩
    show isNum (max 1 _) 1 1000 = true
    have hp := h.pos (leafL p c).name
    have hs : sizeL (leafL p c) ≤ 1000 := by
      unfold sizeL
      split
      · rename_i q
        cases e : (leafL p c).steps with
        | none => rw [e] at q; simp at q
        | some i => exact (steps_leaf (plan_sub h.plan (la _ lf)) e).2
      · omega
    have hr : restL p d c ≤ 1000 := by
      unfold restL
      split <;> omega
    show isNum (max 1 (restL p d c)) 1 1000 = true
    simp only [isNum, Bool.and_eq_true, decide_eq_true_eq]
    omega
  · split
    · have hn : isNameB (nameL p c) = true ∧ (nameL p c).length ≤ 1000 := by
        unfold nameL
        split
        · rename_i q
          have z := (pick_in (l := unkL p) (k := cut c 5) (p := p) (by intro e; rw [e] at q; simp at q) b5.1).1
          exact nm _ (la _ (unk_sub _ z))
        · exact nm _ (la _ lf)
      refine ⟨⟨hn, fun _ => ?_, fun z => by simp [Tel.isFound] at z⟩, fun z => by simp [Tel.isFound] at z⟩
      show isNum (max 1 (min 1000 _)) 1 1000 = true
      simp only [isNum, Bool.and_eq_true, decide_eq_true_eq]
      omega
    · split
      · have he : isNameB (elderL p c).name = true ∧ (elderL p c).name.length ≤ 1000 := by
          unfold elderL
          split
          · rename_i q
            have z := (pick_in (l := lotsL p) (k := cut c 1) (p := p) (by intro e; rw [e] at q; simp at q) b1.1).1
            exact nm _ (lots_sub _ z)
          · exact nm _ al
        have hl : NameOk (namesL.getD (cut c 5).toNat Str.empty) := by
          refine namesL_ok _ ?_
          have l20 : namesL.length = 20 := by decide
          rw [List.getD_eq_getElem?_getD, List.getElem?_eq_getElem (by omega)]
          exact List.getElem_mem _
        have hst : StOk (stepsL.getD (cut c 4).toNat none) := by
          have key : ∀ k : Fin 8, ∀ i, stepsL.getD k none = some i → isNum i 1 1000 = true := by
            intro k
            match k with
            | 0 => intro i e; cases e
            | 1 => intro i e; cases e; decide
            | 2 => intro i e; cases e; decide
            | 3 => intro i e; cases e; decide
            | 4 => intro i e; cases e; decide
            | 5 => intro i e; cases e; decide
            | 6 => intro i e; cases e; decide
            | 7 => intro i e; cases e; decide
          exact key ⟨(cut c 4).toNat, by omega⟩
        refine ⟨⟨he, fun _ => ?_, fun _ => ⟨⟨hl.1, hl.2.1⟩, hst⟩⟩, fun _ => hl⟩
        show isNum (1 + cut c 2) 1 100 = true
        simp only [isNum, Bool.and_eq_true, decide_eq_true_eq]
        omega
      · exact ⟨⟨nm _ al, fun z => by simp [Tel.isAgain] at z, fun z => by simp [Tel.isFound] at z⟩, fun z => by simp [Tel.isFound] at z⟩
theorem ev_ifE_eq {X : Cx} {Γ : List Slot} {e f g : Expr} {pos : Pos} {α : Type} {r : Rp α} {x x' y : α} {p : Bool} (q : (if p = true then x else x') = y) (h : EvT X Γ e p) (h1 : p = true → Ev X Γ f r x) (h2 : p = false → Ev X Γ g r x') : Ev X Γ (.IfExp e f g pos) r y := Ev.eq (ev_ifE h h1 h2) q
end Hf

namespace Hf
open PySem PySem.Spec PyProof.Rows L2 ClX
/-! ### a run, drawn -/
def stepR (s : Pl × List (Str × Int) × List Tel) (c : Int) : Pl × List (Str × Int) × List Tel :=
  match (tookL s.1 s.2.1 (tellL s.1 s.2.1 c)).1 with
  | some q => (q, (tookL s.1 s.2.1 (tellL s.1 s.2.1 c)).2, s.2.2 ++ [tellL s.1 s.2.1 c])
  | none => (s.1, (tookL s.1 s.2.1 (tellL s.1 s.2.1 c)).2, s.2.2)
def runS (p : Pl) (cs : List Int) : Pl × List (Str × Int) × List Tel := cs.foldl stepR (p, [], [])
/-- what holds of a run that is drawn -/
structure Drawn (p : Pl) (n : Nat) (s : Pl × List (Str × Int) × List Tel) : Prop where
  co : CsOk s.1 s.2.1
  plan : (runC p s.2.2).plan = s.1
  did : (runC p s.2.2).did = s.2.1
  can : ∀ i t, s.2.2[i]? = some t → TelOk t ∧ Can (runC p (s.2.2.take i)).plan (runC p (s.2.2.take i)).did t
  len : s.2.1.length ≤ 20 * n
  few : s.2.2.length ≤ n
theorem drawn_0 {p : Pl} (h : PlanOk p) : Drawn p 0 (p, [], []) := by
  have z := (cs_ok (ts := []) h (fun i t e => by simp at e) 0 (Nat.le_refl _)).1
  exact ⟨z, rfl, rfl, fun i t e => by simp at e, by simp, by simp⟩
theorem drawn_step {p : Pl} {n : Nat} {s : Pl × List (Str × Int) × List Tel} (h : Drawn p n s) (c : Int) : Drawn p (n + 1) (stepR s c) := by
  obtain ⟨to, hn⟩ := tell_ok c h.co
  unfold stepR
  cases e : tookL s.1 s.2.1 (tellL s.1 s.2.1 c) with
  | mk a b =>
    cases a with
    | none =>
      have e2 := tookL_none e
      dsimp only
      rw [e2]
      exact ⟨h.co, h.plan, h.did, h.can, by have := h.len; show s.2.1.length ≤ _; omega, by have := h.few; show s.2.2.length ≤ _; omega⟩
    | some q =>
      dsimp only
      have tk := tookL_some h.co to hn e
      obtain ⟨cn, ea⟩ := tk.can
      have co2 := Took.ok h.co to tk
      have hl := Took.len tk h.co.plan (fun n w z => (find_mem _ z).1)
      have er : runC p (s.2.2 ++ [tellL s.1 s.2.1 c]) = stepC (runC p s.2.2) (tellL s.1 s.2.1 c) := by
        unfold runC
        rw [List.foldl_append]
        rfl
      have e3 : after (runC p s.2.2).plan (runC p s.2.2).did (tellL s.1 s.2.1 c) = (q, b) := by rw [h.plan, h.did]; exact ea
      refine ⟨co2, ?_, ?_, fun i t ht => ?_, by have := h.len; show b.length ≤ _; omega, by have := h.few; simp only [List.length_append, List.length_singleton]; omega⟩
      · show (runC p (s.2.2 ++ [tellL s.1 s.2.1 c])).plan = q
        rw [er]
        show (after _ _ _).1 = q
        rw [e3]
      · show (runC p (s.2.2 ++ [tellL s.1 s.2.1 c])).did = b
        rw [er]
        show (after _ _ _).2 = b
        rw [e3]
      · have ht' : (s.2.2 ++ [tellL s.1 s.2.1 c])[i]? = some t := ht
        show TelOk t ∧ Can (runC p ((s.2.2 ++ [tellL s.1 s.2.1 c]).take i)).plan (runC p ((s.2.2 ++ [tellL s.1 s.2.1 c]).take i)).did t
        by_cases lt : i < s.2.2.length
        · rw [List.getElem?_append_left lt] at ht'
          rw [List.take_append_of_le_length (by omega)]
          exact h.can i t ht'
        · rw [List.getElem?_append_right (by omega)] at ht'
          have hi : i = s.2.2.length := by
            cases z : i - s.2.2.length with
            | zero => omega
            | succ k => rw [z] at ht'; simp at ht'
          subst hi
          rw [Nat.sub_self] at ht'
          simp only [List.getElem?_cons_zero, Option.some.injEq] at ht'
          subst ht'
          rw [List.take_left']
          · rw [h.plan, h.did]
            exact ⟨to, cn⟩
          · rfl
theorem drawn_run {p : Pl} (h : PlanOk p) (cs : List Int) : ∀ i, i ≤ cs.length → Drawn p i (runS p (cs.take i)) := fun i => by
  induction i with
  | zero => intro _; exact drawn_0 h
  | succ i ih =>
    intro hi
    obtain ⟨c, hc⟩ : ∃ c, cs[i]? = some c := ⟨_, List.getElem?_eq_getElem (by omega)⟩
    have e : runS p (cs.take (i + 1)) = stepR (runS p (cs.take i)) c := by
      unfold runS
      rw [List.take_add_one, hc, List.foldl_append]
      rfl
    rw [e]
    exact drawn_step (ih (by omega)) c
end Hf

namespace Hf
open PySem PySem.Spec PyProof.Rows L2 ClX
/-! ### the plan and what was done, at first and behind each telling -/
def standsL (p : Pl) (ts : List Tel) : List (Pl × List (Str × Int)) := (List.range (ts.length + 1)).map fun i => ((runC p (ts.take i)).plan, (runC p (ts.take i)).did)
theorem stands_snoc {p : Pl} {ts : List Tel} {i : Nat} {t : Tel} (h : ts[i]? = some t) : standsL p (ts.take (i + 1)) = standsL p (ts.take i) ++ [((runC p (ts.take (i + 1))).plan, (runC p (ts.take (i + 1))).did)] := by
  have lt := (List.getElem?_eq_some_iff.mp h).1
  have l1 : (ts.take (i + 1)).length = i + 1 := by rw [List.length_take]; omega
  have l0 : (ts.take i).length = i := by rw [List.length_take]; omega
  unfold standsL
  rw [l1, l0, List.range_succ, List.map_append]
  congr 1
  · refine List.map_congr_left fun j hj => ?_
    have := List.mem_range.mp hj
    rw [take_take' (by omega), take_take' (by omega)]
  · show [((runC p ((ts.take (i + 1)).take (i + 1))).plan, (runC p ((ts.take (i + 1)).take (i + 1))).did)] = _
    rw [take_take' (Nat.le_refl _)]
/-- a value that isn't None, seen as itself -/
theorem holds_unopt {E : Ent} {G H : Hp} {σ : L2.St} {Γ : List Slot} {α : Type} {r : Rp α} {x : α} (i : Nat) (hg : Γ[i]? = some (.sh (rOpt r) (some x))) (h : Holds E G H σ Γ) : Holds E G H σ (Γ.set i (.sh r x)) := by
  refine ⟨h.le, h.fl, by rw [List.length_set]; exact h.len, fun j s e => ?_, fun j1 j2 s t e1 e2 o1 o2 z => ?_⟩
  · rcases get_set e with ⟨rfl, rfl⟩ | ⟨n, e⟩
    · obtain ⟨v, h1, h2⟩ := h.sh hg
      exact ⟨v, h1, h2⟩
    · exact h.ok j s e
  · rcases get_set e1 with ⟨rfl, rfl⟩ | ⟨n1, e1⟩
    · cases o1
    · rcases get_set e2 with ⟨rfl, rfl⟩ | ⟨n2, e2⟩
      · cases o2
      · exact h.sep j1 j2 s t e1 e2 o1 o2 z
end Hf

namespace Hf
open PySem PySem.Spec PyProof.Rows L2 ClX
/-! ### the worth of each work, by the law's reckoning -/
namespace Pl
mutual
def worthsD : Pl → Rat → List (Str × Rat) → List (Str × Rat)
  | .leaf n _, x, d => dPut d n x
  | .lot _ n ps, x, d => worthsDs ((ps.map fun q => q.1).sum) ps x (dPut d n x)
def worthsDs : Int → List (Int × Pl) → Rat → List (Str × Rat) → List (Str × Rat)
  | _, [], _, d => d
  | W, (i, w) :: ps, x, d => worthsDs W ps x (worthsD w (x * qd i W) d)
end
theorem find_isN : ∀ (w : Pl) (n : Str), (!(w.find n).isNone) = decide (n ∈ w.names) := fun w n => by
  cases h : w.find n with
  | none =>
    have := find_none h
    simp [this]
  | some z =>
    obtain ⟨m, e⟩ := find_mem w h
    have : n ∈ w.names := e ▸ mem_names m
    simp [this]
mutual
theorem worthsD_get : ∀ (p : Pl) (x : Rat) (d : List (Str × Rat)) (n : Str), p.names.Nodup → dGet (worthsD p x d) n = if n ∈ p.names then some (x * p.worth n) else dGet d n
  | .leaf a s, x, d, n, nd => by
    simp only [worthsD, names, List.mem_singleton, worth, dGet_put]
    by_cases e : a = n
    · rw [if_pos e, if_pos e.symm]
      grind
    · rw [if_neg e, if_neg (fun z => e z.symm)]
  | .lot r a ps, x, d, n, nd => by
    simp only [names, List.nodup_cons] at nd
    simp only [worthsD, names, List.mem_cons, worth]
    rw [worthsDs_get ps ((ps.map fun q => q.1).sum) x (dPut d a x) n nd.2]
    by_cases e : a = n
    · subst e
      rw [if_neg nd.1, if_pos (.inl rfl), if_pos (decide_eq_true rfl), dGet_put, if_pos rfl]
      grind
    · have e2 : ¬ n = a := fun z => e z.symm
      rw [dGet_put, if_neg e, if_neg (show ¬ decide (a = n) = true by simpa using e)]
      by_cases m : n ∈ namess ps
      · rw [if_pos m, if_pos (.inr m)]
      · rw [if_neg m, if_neg (by simp [e2, m])]
theorem worthsDs_get : ∀ (ps : List (Int × Pl)) (W : Int) (x : Rat) (d : List (Str × Rat)) (n : Str), (namess ps).Nodup → dGet (worthsDs W ps x d) n = if n ∈ namess ps then some (x * worths W ps n) else dGet d n
  | [], W, x, d, n, nd => by simp [worthsDs, namess]
  | (i, w) :: ps, W, x, d, n, nd => by
    simp only [namess, List.nodup_append] at nd
    simp only [worthsDs, namess, List.mem_append, worths]
    rw [worthsDs_get ps W x _ n nd.2.1, worthsD_get w _ d n nd.1, find_isN]
    by_cases m1 : n ∈ w.names
    · have m2 : n ∉ namess ps := fun z => nd.2.2 _ m1 _ z rfl
      rw [if_neg m2, if_pos m1, if_pos (.inl m1), if_pos (decide_eq_true m1)]
      grind
    · rw [if_neg m1, if_neg (show ¬ decide (n ∈ w.names) = true by simpa using m1)]
      by_cases m2 : n ∈ namess ps
      · rw [if_pos m2, if_pos (.inr m2)]
      · rw [if_neg m2, if_neg (by simp [m1, m2])]
end
mutual
theorem worthsD_len : ∀ (p : Pl) (x : Rat) (d : List (Str × Rat)), (worthsD p x d).length ≤ d.length + p.names.length
  | .leaf a s, x, d => by
    have := dPut_len (a := x) (k := a) (ds := d)
    simp only [worthsD, names, List.length_singleton]
    exact this
  | .lot r a ps, x, d => by
    have h1 := dPut_len (a := x) (k := a) (ds := d)
    have h2 := worthsDs_len ps ((ps.map fun q => q.1).sum) x (dPut d a x)
    simp only [worthsD, names, List.length_cons]
    omega
theorem worthsDs_len : ∀ (ps : List (Int × Pl)) (W : Int) (x : Rat) (d : List (Str × Rat)), (worthsDs W ps x d).length ≤ d.length + (namess ps).length
  | [], W, x, d => by simp [worthsDs, namess]
  | (i, w) :: ps, W, x, d => by
    have h1 := worthsD_len w (x * qd i W) d
    have h2 := worthsDs_len ps W x (worthsD w (x * qd i W) d)
    simp only [worthsDs, namess, List.length_append]
    omega
end
theorem worthsDs_fold {W : Int} {x : Rat} : ∀ (ps : List (Int × Pl)) (d : List (Str × Rat)), worthsDs W ps x d = ps.foldl (fun (d : List (Str × Rat)) (q : Int × Pl) => worthsD q.2 (x * qd q.1 W) d) d
  | [], d => by simp [worthsDs]
  | (i, w) :: ps, d => by
    simp only [worthsDs, List.foldl_cons]
    exact worthsDs_fold ps _
end Pl
theorem worthsD_lot {p : Pl} {x : Rat} {d : List (Str × Rat)} (h : p.isLeaf = false) : p.worthsD x d = p.parts.foldl (fun (d : List (Str × Rat)) (q : Int × Pl) => Pl.worthsD q.2 (x * qd q.1 p.weights) d) (dPut d p.name x) := by
  cases p with
  | leaf n s => simp [Pl.isLeaf] at h
  | lot r n ps =>
    simp only [Pl.worthsD]
    exact Pl.worthsDs_fold ps _
theorem worthsD_leaf {p : Pl} {x : Rat} {d : List (Str × Rat)} (h : p.isLeaf = true) : p.worthsD x d = dPut d p.name x := by
  cases p with
  | leaf n s => simp only [Pl.worthsD]; rfl
  | lot r n ps => simp [Pl.isLeaf] at h
theorem mul_qd {x : Rat} {i W : Int} (h : 0 < W) : x * qd i W = qd (x.num * i) ((x.den : Int) * W) := by
  refine qd_eq (Int.mul_pos (den_pos x) h) ?_
  have hW : (W : Rat) ≠ 0 := by
    have : (0 : Rat) < (W : Rat) := by exact_mod_cast h
    grind
  have e := q_mul x
  unfold qd
  push_cast
  rw [e]
  push_cast
  grind
end Hf

namespace Hf
open PySem PySem.Spec PyProof.Rows L2 ClX
/-! ### worths within one another -/
theorem worths_at {W : Int} {n : Str} {q : Int × Pl} : ∀ {ps : List (Int × Pl)}, (Pl.namess ps).Nodup → q ∈ ps → n ∈ q.2.names → Pl.worths W ps n = qd q.1 W * q.2.worth n
  | (i, w) :: ps, nd, h, hn => by
    simp only [Pl.namess, List.nodup_append] at nd
    simp only [Pl.worths]
    rcases List.mem_cons.mp h with rfl | h
    · rw [Pl.find_isN, if_pos (decide_eq_true hn)]
    · have hn2 : n ∈ Pl.namess ps := by rw [Pl.namess_eq]; exact List.mem_flatMap.mpr ⟨q, h, hn⟩
      have : n ∉ w.names := fun z => nd.2.2 _ z _ hn2 rfl
      rw [Pl.find_isN, if_neg (by simpa using this)]
      exact worths_at nd.2.1 h hn
theorem worth_part {p : Pl} {q : Int × Pl} {n : Str} (nd : p.names.Nodup) (h : q ∈ p.parts) (hn : n ∈ q.2.names) : p.worth n = qd q.1 p.weights * q.2.worth n := by
  rw [Pl.names_eq, List.nodup_cons] at nd
  have hn2 : n ∈ Pl.namess p.parts := by rw [Pl.namess_eq]; exact List.mem_flatMap.mpr ⟨q, h, hn⟩
  rw [worth_eq, if_neg (by
    intro c
    rw [of_decide_eq_true c] at nd
    exact nd.1 hn2)]
  exact worths_at nd.2 h hn
theorem worth_self (p : Pl) : p.worth p.name = 1 := by rw [worth_eq, if_pos (decide_eq_true rfl)]
theorem worth_in {p z : Pl} (nd : p.names.Nodup) (h : z ∈ p.all) {n : Str} (hn : n ∈ z.names) : p.worth n = p.worth z.name * z.worth n := by
  have key : ∀ (k : Nat) (p : Pl), p.depth ≤ k → p.names.Nodup → ∀ z ∈ p.all, n ∈ z.names → p.worth n = p.worth z.name * z.worth n := fun k => by
    induction k with
    | zero => intro p h; have := Pl.depth_pos p; omega
    | succ k ih =>
      intro p hd nd z hz hn
      rw [Pl.all_eq, Pl.alls_eq] at hz
      rcases List.mem_cons.mp hz with rfl | hz
      · rw [worth_self]; grind
      · obtain ⟨q, hq, hz⟩ := List.mem_flatMap.mp hz
        have nq : q.2.names.Nodup := nd.sublist (names_sub hq)
        have e := ih q.2 (by have := Pl.part_depth hq; omega) nq z hz hn
        have hz2 : z.name ∈ q.2.names := mem_names hz
        have hn2 : n ∈ q.2.names := by
          rw [← all_names] at hn ⊢
          obtain ⟨y, hy, e⟩ := List.mem_map.mp hn
          exact List.mem_map.mpr ⟨y, all_all hz hy, e⟩
        rw [worth_part nd hq hn2, worth_part nd hq hz2, e]
        grind
  exact key p.depth p (Nat.le_refl _) nd z h hn
theorem foldl_sum {α : Type} {f : α → Rat} : ∀ (l : List α) (a : Rat), l.foldl (fun (a : Rat) (x : α) => a + f x) a = a + (l.map f).sum
  | [], a => by simp only [List.foldl_nil, List.map_nil, List.sum_nil]; grind
  | x :: l, a => by
    rw [List.foldl_cons, foldl_sum l, List.map_cons, List.sum_cons]
    grind
theorem sum_mul {α : Type} {f : α → Rat} {c : Rat} : ∀ (l : List α), (l.map fun x => c * f x).sum = c * (l.map f).sum
  | [] => by simp only [List.map_nil, List.sum_nil]; grind
  | x :: l => by
    rw [List.map_cons, List.sum_cons, List.map_cons, List.sum_cons, sum_mul l]
    grind
theorem sum_qd {W : Int} (hW : (W : Rat) ≠ 0) : ∀ (l : List (Int × Pl)), (l.map fun q : Int × Pl => qd q.1 W).sum = (((l.map fun q : Int × Pl => q.1).sum : Int) : Rat) / (W : Rat)
  | [] => by simp only [List.map_nil, List.sum_nil]; rw [Rat.div_def]; grind
  | x :: l => by
    rw [List.map_cons, List.sum_cons, List.map_cons, List.sum_cons, sum_qd hW l]
    unfold qd
    push_cast
    grind
/-- the parts of each come together to their elder's -/
theorem parts_worth {p z : Pl} (nd : p.names.Nodup) (hf : p.Fit) (h : z ∈ p.all) (hl : z.isLeaf = false) : (z.parts.map fun q : Int × Pl => p.worth q.2.name).sum = p.worth z.name := by
  have hz := fit_all hf h
  have nz : z.names.Nodup := nd.sublist (by
    have key : ∀ (k : Nat) (p : Pl), p.depth ≤ k → ∀ z ∈ p.all, List.Sublist z.names p.names := fun k => by
      induction k with
      | zero => intro p h; have := Pl.depth_pos p; omega
      | succ k ih =>
        intro p hd z hz
        rw [Pl.all_eq, Pl.alls_eq] at hz
        rcases List.mem_cons.mp hz with rfl | hz
        · exact List.Sublist.refl _
        · obtain ⟨q, hq, hz⟩ := List.mem_flatMap.mp hz
          exact (ih q.2 (by have := Pl.part_depth hq; omega) z hz).trans (names_sub hq)
    exact key p.depth p (Nat.le_refl _) z h)
  have e : (z.parts.map fun q : Int × Pl => p.worth q.2.name) = z.parts.map fun q : Int × Pl => p.worth z.name * qd q.1 z.weights := List.map_congr_left fun q hq => by
    have m : q.2.name ∈ q.2.names := by rw [Pl.names_eq]; exact List.mem_cons_self
    have m2 : q.2.name ∈ z.names := (names_sub hq).subset m
    rw [worth_in nd h m2, worth_part nz hq m, worth_self]
    grind
  have w := weights_lim hz hl
  have hW : ((z.weights : Int) : Rat) ≠ 0 := by
    have : (0 : Rat) < (z.weights : Rat) := by exact_mod_cast (show 0 < z.weights by omega)
    grind
  rw [e, sum_mul, sum_qd hW]
  show p.worth z.name * ((z.weights : Rat) / (z.weights : Rat)) = _
  grind
theorem sum_app {l m : List Rat} : (l ++ m).sum = l.sum + m.sum := by
  induction l with
  | nil => simp only [List.nil_append, List.sum_nil]; grind
  | cons a l ih => rw [List.cons_append, List.sum_cons, List.sum_cons, ih]; grind
/-- how far it is: how far each leaf is, times its worth -/
theorem far_worth {d : List (Str × Int)} : ∀ {p : Pl}, p.names.Nodup → (p.leaves.map fun l : Pl => l.far d * p.worth l.name).sum = p.far d := fun {p} => by
  have key : ∀ (k : Nat) (p : Pl), p.depth ≤ k → p.names.Nodup → (p.leaves.map fun l : Pl => l.far d * p.worth l.name).sum = p.far d := fun k => by
    induction k with
    | zero => intro p h; have := Pl.depth_pos p; omega
    | succ k ih =>
      intro p hd nd
      cases hl : p.isLeaf with
      | true =>
        rw [leaves_leaf hl, List.map_cons, List.map_nil, List.sum_cons, List.sum_nil, worth_self]
        grind
      | false =>
        rw [leaves_eq p hl]
        have hs : ∀ (l : List (Int × Pl)), (∀ q ∈ l, q ∈ p.parts) → ((Pl.leavess l).map fun z : Pl => z.far d * p.worth z.name).sum = Pl.fars p.weights l d := fun l => by
          induction l with
          | nil => intro _; simp only [Pl.leavess, Pl.fars, List.map_nil, List.sum_nil]
          | cons q l ihl =>
            intro hq
            obtain ⟨i, v⟩ := q
            have mm := hq (i, v) List.mem_cons_self
            have hv := Pl.part_depth mm
            have e := ih v (by simp only at hv; omega) (nd.sublist (names_sub mm))
            simp only [Pl.leavess, Pl.fars]
            rw [List.map_append, sum_app, ihl fun q hm => hq q (List.mem_cons_of_mem _ hm), ← e]
            have e2 : (v.leaves.map fun z : Pl => z.far d * p.worth z.name) = v.leaves.map fun z : Pl => qd i p.weights * (z.far d * v.worth z.name) := List.map_congr_left fun z hz => by
              have m : z.name ∈ v.names := mem_names ((leaves_sub v).subset hz)
              rw [worth_part nd mm m]
              grind
            rw [e2, sum_mul]
            rfl
        rw [hs p.parts fun q hq => hq]
        obtain ⟨r, n, ps, rfl⟩ := lot_of hl
        simp only [Pl.far]
        rfl
  exact key p.depth p (Nat.le_refl _)
end Hf

namespace Hf
open PySem PySem.Spec PyProof.Rows L2 ClX
/-! ### a list of tellings that == reads -/
def pdTel : Tel → PyData
  | .did n k => .tuple [.str "did", .str n, .int k]
  | .knows n k => .tuple [.str "knows", .str n, .int k]
  | .found e w n s => .tuple [.str "found", .str e, .int w, .str n, pdOpt s]
  | .again n => .tuple [.str "again", .str n]
def TelLay (t : Tel) : Prop := NOk t.name ∧ (t.isFound = true → NOk t.leaf)
theorem dp_tel {K : PySem.W.Frag} {G : Hp} {v : V} {t : Tel} (h : (rTel K).rel G v t) : Dp K G v (pdTel t) := by
  obtain ⟨p, rfl, h⟩ := h
  cases t with
  | did n k => exact .tup h (.cons (.str _) (.cons (.str _) (.cons (.int _) .nil)))
  | knows n k => exact .tup h (.cons (.str _) (.cons (.str _) (.cons (.int _) .nil)))
  | again n => exact .tup h (.cons (.str _) (.cons (.str _) .nil))
  | found e w n s =>
    refine .tup h (.cons (.str _) (.cons (.str _) (.cons (.int _) (.cons (.str _) (.cons ?_ .nil)))))
    cases s with
    | none => exact .non
    | some i => exact .int i
theorem dp_tels {K : PySem.W.Frag} {G : Hp} : ∀ {vs : List V} {l : List Tel}, All2 (rTel K) G vs l → DpAll K G vs (l.map pdTel)
  | _, _, .nil => .nil
  | _, _, .cons h t => .cons (dp_tel h) (dp_tels t)
theorem pdTel_lay {t : Tel} (h : TelLay t) : PyData.canLay0 (pdTel t) = true ∧ PyData.depth (pdTel t) ≤ 4 := by
  have k1 : PyData.strOk "did" = true := by decide +kernel
  have k2 : PyData.strOk "knows" = true := by decide +kernel
  have k3 : PyData.strOk "found" = true := by decide +kernel
  have k4 : PyData.strOk "again" = true := by decide +kernel
  cases t with
  | did n k =>
    have hn : PyData.strOk n = true := h.1
    simp [pdTel, PyData.canLay0, PyData.canLayAll0, PyData.depth, PyData.depthAll, k1, hn]
  | knows n k =>
    have hn : PyData.strOk n = true := h.1
    simp [pdTel, PyData.canLay0, PyData.canLayAll0, PyData.depth, PyData.depthAll, k2, hn]
  | again n =>
    have hn : PyData.strOk n = true := h.1
    simp [pdTel, PyData.canLay0, PyData.canLayAll0, PyData.depth, PyData.depthAll, k4, hn]
  | found e w n s =>
    have hn : PyData.strOk e = true := h.1
    have hl : PyData.strOk n = true := h.2 rfl
    cases s <;> simp [pdTel, pdOpt, PyData.canLay0, PyData.canLayAll0, PyData.depth, PyData.depthAll, k3, hn, hl]
theorem eqv_tels {K : PySem.W.Frag} {l : List Tel} (h : ∀ t ∈ l, TelLay t) : Eqv K (rLst (rTel K)) l (.list (l.map pdTel)) := ⟨fun G v ⟨p, vs, e, k, a⟩ => by
  subst e
  exact .lst (.inl (.inl k)) (dp_tels a), by
  have z : ∀ l : List Tel, (∀ t ∈ l, TelLay t) → PyData.canLayAll0 (l.map pdTel) = true ∧ PyData.depthAll (l.map pdTel) ≤ 6 := fun l => by
    induction l with
    | nil => intro _; simp [PyData.canLayAll0, PyData.depthAll]
    | cons a l ih =>
      intro h
      have h1 := pdTel_lay (h a List.mem_cons_self)
      have h2 := ih fun t m => h t (List.mem_cons_of_mem _ m)
      refine ⟨by simp [PyData.canLayAll0, h1.1, h2.1], ?_⟩
      simp only [List.map_cons, PyData.depthAll]
      omega
  obtain ⟨h1, h2⟩ := z l h
  unfold SeqAt.shaped
  simp only [PyData.canLay0, h1, PyData.depth, Bool.true_and]
  exact decide_eq_true (by omega)⟩
theorem tels_nil {l : List Tel} : PyData.eqv (.list (l.map pdTel)) (.list []) = l.isEmpty := by
  cases l <;> simp [PyData.eqv, PyData.eqvAll]
end Hf

namespace Hf
open PySem PySem.Spec PyProof.Rows L2 ClX
/-! ### sums that are reckoned one behind another; fractions that == reads -/
theorem lim_add {m n : Nat} {p q : Rat} (h : Lim m p) (k : Lim n q) : Lim (m + n + 1) (p + q) := by
  rw [plus_q]
  have a1 : (p.num * (q.den : Int)).natAbs < 2 ^ (m + n) := by
    rw [Int.natAbs_mul, Nat.pow_add]
    exact Nat.mul_lt_mul'' h.1 (by simpa using k.2)
  have a2 : (q.num * (p.den : Int)).natAbs < 2 ^ (m + n) := by
    rw [Int.natAbs_mul, Nat.pow_add, Nat.mul_comm (2 ^ m)]
    exact Nat.mul_lt_mul'' k.1 (by simpa using h.2)
  have a3 : ((p.den : Int) * (q.den : Int)).natAbs < 2 ^ (m + n) := by
    rw [Int.natAbs_mul, Nat.pow_add]
    exact Nat.mul_lt_mul'' (by simpa using h.2) (by simpa using k.2)
  have e : (2 : Nat) ^ (m + n + 1) = 2 * 2 ^ (m + n) := by rw [Nat.pow_succ]; omega
  refine lim_qd (Int.mul_pos (den_pos p) (den_pos q)) ?_ ?_
  · rw [e]
    have := Int.natAbs_add_le (p.num * (q.den : Int)) (q.num * (p.den : Int))
    omega
  · rw [e]; omega
theorem eqv_q {K : PySem.W.Frag} {q : Rat} : Eqv K (rQ K) q (pdPair (cn q)) := ⟨fun G v h => (eqv_pair (K := K) (a := cn q)).dp G v h, (eqv_pair (K := K) (a := cn q)).sh⟩
theorem q_eqv {p q : Rat} : PyData.eqv (pdPair (cn p)) (pdPair (cn q)) = decide (p = q) := by
  rw [pdPair_eqv]
  exact decide_eq_decide.mpr ⟨cn_inj, fun e => by rw [e]⟩
theorem stands_last {p : Pl} {ts : List Tel} {d : Pl × List (Str × Int)} : (standsL p ts).getLastD d = ((runC p ts).plan, (runC p ts).did) := by
  unfold standsL
  rw [List.range_succ, List.map_append, List.map_singleton, List.take_length]
  simp
theorem stands_ne {p : Pl} {ts : List Tel} : standsL p ts ≠ [] := by
  unfold standsL
  rw [List.range_succ]
  simp
theorem fold_lim {α : Type} {f : α → Rat} {k : Nat} {l : List α} (h : ∀ x ∈ l, Lim k (f x)) : ∀ i, Lim (1 + (k + 1) * i) ((l.take i).foldl (fun (a : Rat) (x : α) => a + f x) 0) := fun i => by
  induction i with
  | zero => rw [List.take_zero]; exact lim0.mono (by omega)
  | succ i ih =>
    cases e : l[i]? with
    | none =>
      have : l.take (i + 1) = l.take i := by rw [List.take_add_one, e]; simp
      rw [this]
      exact ih.mono (by rw [Nat.mul_add]; omega)
    | some x =>
      rw [List.take_add_one, e, List.foldl_append]
      exact (lim_add ih (h x (List.mem_of_getElem? e))).mono (by rw [Nat.mul_add]; omega)
end Hf

namespace Hf
open PySem PySem.Spec PyProof.Rows L2 ClX
/-! ### what the law got -/
def gotL (p : Pl) (l : List Pl) : List (Str × Rat) := l.foldl (fun (d : List (Str × Rat)) (w : Pl) => dPut d w.name (p.worth w.name)) []
theorem got_fold {p : Pl} {n : Str} : ∀ (l : List Pl) (d : List (Str × Rat)), dGet (l.foldl (fun (d : List (Str × Rat)) (w : Pl) => dPut d w.name (p.worth w.name)) d) n = if n ∈ l.map Pl.name then some (p.worth n) else dGet d n
  | [], d => by simp
  | w :: l, d => by
    rw [List.foldl_cons, got_fold l, dGet_put, List.map_cons]
    by_cases m : n ∈ l.map Pl.name
    · rw [if_pos m, if_pos (List.mem_cons_of_mem _ m)]
    · rw [if_neg m]
      by_cases e : w.name = n
      · rw [if_pos e, if_pos (by rw [e]; exact List.mem_cons_self), e]
      · rw [if_neg e, if_neg (by simp only [List.mem_cons, not_or]; exact ⟨fun z => e z.symm, m⟩)]
theorem got_all {p : Pl} {n : Str} (h : n ∈ p.names) : dGet (gotL p p.all) n = some (p.worth n) := by
  unfold gotL
  rw [got_fold, if_pos (by rw [all_names]; exact h)]
theorem got_len (p : Pl) : ∀ (l : List Pl) (d : List (Str × Rat)), (l.foldl (fun (d : List (Str × Rat)) (w : Pl) => dPut d w.name (p.worth w.name)) d).length ≤ d.length + l.length
  | [], d => by simp
  | w :: l, d => by
    have a := got_len p l (dPut d w.name (p.worth w.name))
    have b := dPut_len (a := p.worth w.name) (k := w.name) (ds := d)
    rw [List.foldl_cons, List.length_cons]
    omega
theorem due_all {p : Pl} {n : Str} (nd : p.names.Nodup) (h : n ∈ p.names) : dGet (p.worthsD 1 []) n = some (p.worth n) := by
  rw [Pl.worthsD_get p 1 [] n nd, if_pos h]
  congr 1
  grind
end Hf

namespace Hf
open PySem PySem.Spec PyProof.Rows L2 ClX
/-! ### what the package takes, the law takes -/
theorem finds_in {x : Str} {w : Pl} : ∀ {ps : List (Int × Pl)}, Pl.finds ps x = some w → ∃ q ∈ ps, q.2.find x = some w
  | [], h => by simp [Pl.finds] at h
  | (i, v) :: ps, h => by
    simp only [Pl.finds] at h
    cases z : v.find x with
    | some y =>
      rw [z] at h
      cases h
      exact ⟨(i, v), List.mem_cons_self, z⟩
    | none =>
      rw [z] at h
      obtain ⟨q, hq, e⟩ := finds_in h
      exact ⟨q, List.mem_cons_of_mem _ hq, e⟩
theorem put_mem {x : Str} {m : Pl} : ∀ {p w : Pl}, p.find x = some w → m ∈ (Pl.put x m p).all := fun {p w} => by
  have key : ∀ (k : Nat) (p : Pl), p.depth ≤ k → p.find x = some w → m ∈ (Pl.put x m p).all := fun k => by
    induction k with
    | zero => intro p h; have := Pl.depth_pos p; omega
    | succ k ih =>
      intro p hd hf
      by_cases c : decide (p.name = x) = true
      · rw [put_here c, Pl.all_eq]
        exact List.mem_cons_self
      · have c' := (Bool.not_eq_true _).mp c
        rw [find_eq, if_neg c] at hf
        obtain ⟨q, hq, e⟩ := finds_in hf
        have hl : p.isLeaf = false := by
          cases p with
          | leaf n s => simp [Pl.parts] at hq
          | lot r n ps => rfl
        have z := ih q.2 (by have := Pl.part_depth hq; omega) e
        rw [put_lot c' hl, Pl.all_eq, Pl.alls_eq]
        refine List.mem_cons_of_mem _ (List.mem_flatMap.mpr ⟨(q.1, Pl.put x m q.2), List.mem_map.mpr ⟨q, hq, rfl⟩, z⟩)
  exact fun h => key p.depth p (Nat.le_refl _) h
theorem can_took {p : Pl} {d : List (Str × Int)} {t : Tel} (c : CsOk p d) (h : Can p d t) : tookL p d t = (some (after p d t).1, (after p d t).2) := by
  obtain ⟨w, hf⟩ := h.find
  obtain ⟨hwm, hwx⟩ := find_mem p hf
  cases t with
  | again n =>
    have hf' : p.find n = some w := hf
    unfold tookL
    simp only [Tel.name, hf', after]
  | found e wt ln st =>
    have hf' : p.find e = some w := hf
    have hwx' : w.name = e := hwx
    obtain ⟨hl, ok, haf⟩ := h.found rfl hf
    have ok' : PlanOk (Pl.withLeaf e wt (.leaf ln st) p) := ok
    have e3 := Pl.put_wl (x := e) (wt := wt) (lf := .leaf ln st) p c.plan.nodup hf' hl
    have hm := put_mem (m := .lot w.isRow w.name (w.parts ++ [(wt, .leaf ln st)])) hf'
    rw [e3] at hm
    have h6 := fit_few (fit_all ok'.fit hm)
    have h6' : (w.parts ++ [(wt, Pl.leaf ln st)]).length ≤ 6 := h6
    rw [List.length_append, List.length_singleton] at h6'
    have k1 := kL_one c.plan.nodup hwm hwx' hl
    have cnt := Pl.wl_cnt (x := e) (wt := wt) (ln := ln) (st := st) p ln
    have nd := List.nodup_iff_count.mp ok'.nodup ln
    rw [if_pos rfl, k1] at cnt
    have hln : ln ∉ p.names := List.count_eq_zero.mp (by omega)
    have h1 := ok'.count
    have h2 := ok'.deep
    unfold tookL
    simp only [Tel.name, hf']
    rw [if_neg (by
      simp only [Bool.or_eq_true, not_or, decide_eq_true_eq, Bool.not_eq_true]
      exact ⟨hl, by omega, hln⟩), hwx']
    rw [hwx'] at e3
    rw [e3, if_pos (by
      simp only [Bool.and_eq_true, decide_eq_true_eq]
      exact ⟨by omega, by omega⟩)]
    rfl
  | knows n k =>
    have hf' : p.find n = some w := hf
    have hwx' : w.name = n := hwx
    obtain ⟨hl, hk, _⟩ := h.leafy rfl rfl hf
    obtain ⟨hs, hd, _⟩ := hk rfl
    have hd' : dg d n ≤ k := hd
    unfold tookL
    simp only [Tel.name, hf']
    rw [if_pos hl, if_pos (by rw [hs, hwx']; simpa using hd'), hwx', Pl.put_ws p c.plan.nodup hf' hl]
    rfl
  | did n k =>
    have hf' : p.find n = some w := hf
    have hwx' : w.name = n := hwx
    obtain ⟨hl, _, hk⟩ := h.leafy rfl rfl hf
    obtain ⟨hs, _⟩ := hk rfl
    have hs' : ∀ s, w.steps = some s → dg d n + k ≤ s := hs
    unfold tookL
    simp only [Tel.name, hf']
    rw [if_pos hl, if_neg (by
      rw [hwx']
      cases z : w.steps with
      | none => simp
      | some s =>
        have := hs' s z
        simp
        omega), hwx']
    rfl
theorem run_took {p : Pl} {ts : List Tel} (h : RunOk p ts) : ∀ i t, ts[i]? = some t → tookL (runC p (ts.take i)).plan (runC p (ts.take i)).did t = (some (runC p (ts.take (i + 1))).plan, (runC p (ts.take (i + 1))).did) := fun i t e => by
  have lt := (List.getElem?_eq_some_iff.mp e).1
  rw [runC_next e]
  exact can_took (cs_ok h.plan h.can i (by omega)).1 (h.can i t e).2
theorem run_lay {p : Pl} {ts : List Tel} (h : RunOk p ts) : ∀ t ∈ ts, TelLay t := fun t m => by
  obtain ⟨i, lt, e⟩ := List.mem_iff_getElem.mp m
  have e' : ts[i]? = some t := by rw [List.getElem?_eq_getElem lt, e]
  obtain ⟨to, c⟩ := h.can i t e'
  have co := (cs_ok h.plan h.can i (by omega)).1
  obtain ⟨w, hf⟩ := c.find
  obtain ⟨hwm, hwx⟩ := find_mem _ hf
  refine ⟨?_, fun ht => ?_⟩
  · have z := mem_names hwm
    rw [hwx] at z
    exact (co.plan.names _ z).2.2
  · obtain ⟨hl, ok, _⟩ := c.found ht hf
    have k1 := kL_one co.plan.nodup hwm hwx hl
    have cnt := Pl.wl_cnt (x := t.name) (wt := t.num) (ln := t.leaf) (st := t.last) (runC p (ts.take i)).plan t.leaf
    rw [if_pos rfl, k1] at cnt
    exact (ok.names t.leaf (List.count_pos_iff.mp (by omega))).2.2
theorem run_drawn {p : Pl} {cs : List Int} (hp : PlanOk p) (hl : cs.length ≤ 20) : RunOk p (runS p cs).2.2 := by
  have dr := drawn_run hp cs cs.length (Nat.le_refl _)
  rw [List.take_length] at dr
  exact runOk_few hp dr.can (by have := dr.few; omega)
end Hf

namespace Hf
open PySem PySem.Spec PyProof.Rows L2 ClX
/-! ### an answer told by what was frozen at the entry; a new list inside it -/
theorem nw_mono {G0 G1 : Hp} {α : Type} {r : Rp α} (e : Ex G0 G1) {G : Hp} {v : V} {as : List α} (h : (rNw G1 r).rel G v as) : (rNw G0 r).rel G v as := by
  obtain ⟨p, vs, h1, h0, h2, h3⟩ := h
  exact ⟨p, vs, h1, Evl.fresh_back e h0, h2, h3⟩
theorem nw_lst {G1 : Hp} {α : Type} {r : Rp α} {G : Hp} {v : V} {as : List α} (h : (rNw G1 r).rel G v as) : (rLst r).rel G v as := by
  obtain ⟨p, vs, h1, h0, h2, h3⟩ := h
  exact ⟨p, vs, h1, h2, h3⟩
theorem t3_imp {K : PySem.W.Frag} {α β γ : Type} {r r' : Rp α} {s s' : Rp β} {t t' : Rp γ} {a : α × β × γ} {G : Hp} {v : V} (h1 : ∀ v, r.rel G v a.1 → r'.rel G v a.1) (h2 : ∀ v, s.rel G v a.2.1 → s'.rel G v a.2.1) (h3 : ∀ v, t.rel G v a.2.2 → t'.rel G v a.2.2) (h : (rT3 K r s t).rel G v a) : (rT3 K r' s' t').rel G v a := by
  obtain ⟨p, x, y, z, e, hp, k1, k2, k3⟩ := h
  exact ⟨p, x, y, z, e, hp, h1 _ k1, h2 _ k2, h3 _ k3⟩
theorem RetOk.imp {E : Ent} {D : Ends} {α β : Type} {r : Rp α} {x : α} {s : Rp β} {y : β} (h : RetOk E D r x) (k : ∀ G v, s.rel G v y → r.rel G v x) : RetOk E D s y := fun v G H l rv => h v G H l (k G v rv)
def PSpG {ι : Type} (Pre : ι → Prop) (args : ι → List Ty) {α : Type} (r : Hp → Rp α) (res : ι → α) : Sp := fun vs H Q _ => ∃ (x : ι) (G : Hp), Pre x ∧ Ex G H ∧ Args G vs (args x) ∧ ∀ v G' H', Le G H G' H' → (r G).rel G' v (res x) → Q v H'
theorem psp_of {ι α : Type} {Pre : ι → Prop} {args : ι → List Ty} {r : Hp → Rp α} {s : Rp α} {res : ι → α} (h : ∀ G G' v x, (r G).rel G' v (res x) → s.rel G' v (res x)) : ∀ vs H Q, PSp Pre args s res vs H Q E0 → PSpG Pre args r res vs H Q E0 := fun vs H Q ⟨x, G, hp, e, a, k⟩ => ⟨x, G, hp, e, a, fun v G' H' l rv => k v G' H' l (h _ _ _ _ rv)⟩
theorem Has.sub {P : Program} {w : World} {K : PySem.W.Frag} {mg : Str → Option Value} {base : Heap} {x : Str} {k : Nat} {sp sp' : Sp} (h : Has P w K mg base x k sp) (hs : ∀ vs H Q, sp' vs H Q E0 → sp vs H Q E0) : Has P w K mg base x k sp' := by
  obtain ⟨f, fd, ps, spF, dvs, ds, hm, hk, hb, hv, F, hi⟩ := h.ex
  exact ⟨f, fd, ps, spF, dvs, ds, hm, hk, hb, hv, F, fun vs H Q z => hi vs H Q (hs vs H Q z)⟩
section
variable {P : Program} {w : World} {K : PySem.W.Frag} {mg : Str → Option Value} {base : Heap} {x qual : Str} {params : Arguments} {body : List Stmt} {scope : Scope} {dvs : List V} {kws : List (Str × V)} {f : Addr} {fd : FuncData}
theorem fn_pureG {N ps : List Str} {k : Nat} {ι : Type} {Pre : ι → Prop} {args : ι → List Ty} {α : Type} {r : Hp → Rp α} {res : ι → α} (F : FunD K x qual params body scope dvs kws f fd) (S : FnScope N ps scope) (hl : ∀ y, (args y).length = ps.length)
    (hb : ∀ (y : ι), Pre y → ∀ (cdv : Value) (A : Around) (outer : List Env) (s : Shared) (H : Hp) (E0 : XK) (G : Hp) (D : Ends), Room k (A.deeper (envOfC qual scope s.heap.objs.size f cdv)) → RetOk { G := G, H := H } D (r G) (res y) → (∀ σ G' H', LeE G H (fun _ => False) G' H' → (r G).rel G' .non (res y) → D.nx σ H') →
      Bk (cxOf (CXL P w) P w K mg base N qual scope f cdv A outer s H E0) { G := G, H := H } (slots0 (args y) (N.length - ps.length)) body D) :
    FnOk P w K mg base (CXL P w) (k + 1) f fd ps (PSpG Pre args r res) := by
  refine F.ok S (fun vs H Q E ⟨y, G, _, _, a, _⟩ => by rw [args_length a, hl]) fun cdv A outer s H vs Q E hr ⟨y, G, hp, e, a, hq⟩ => ⟨_, WB.pss, ?_⟩
  have h := holds_start (N := N) e a (by rw [hl]; have z := congrArg List.length S.pre; rw [List.length_take] at z; omega)
  rw [hl] at h
  exact hb y hp cdv A outer s H E G _ hr (fun v G' H' l rv => hq v G' H' (l.le fun _ z => z) rv) (fun σ G' H' l rv => hq _ G' H' (l.le fun _ z => z) rv) G H _ h
end
section
variable {X : Cx} {E : Ent} {Γ Γ' : List Slot} {D : Ends} {e f g o : Expr} {es : List Expr} {rest : List Stmt} {pos p p2 apos cpos : Pos} {α β γ ι : Type} {r : Rp α} {x : α} {s : Rp β} {y : β} {as : List α} {j k : Nat}
theorem Holds.reSh {E : Ent} {G H : Hp} {σ : L2.St} {Γ : List Slot} (i : Nat) (h : Holds E G H σ Γ) (hg : Γ[i]? = some (.sh r x)) (kk : ∀ v, σ[i]? = some (some v) → r.rel G v x → s.rel G v y) : Holds E G H σ (Γ.set i (.sh s y)) := by
  refine ⟨h.le, h.fl, by rw [List.length_set]; exact h.len, fun j u e => ?_, fun j1 j2 u t e1 e2 o1 o2 z => ?_⟩
  · rcases get_set e with ⟨rfl, rfl⟩ | ⟨n, e⟩
    · obtain ⟨v, h1, h2⟩ := h.sh hg
      exact ⟨v, h1, kk v h1 h2⟩
    · exact h.ok j u e
  · rcases get_set e1 with ⟨rfl, rfl⟩ | ⟨n1, e1⟩
    · cases o1
    · rcases get_set e2 with ⟨rfl, rfl⟩ | ⟨n2, e2⟩
      · cases o2
      · exact h.sep j1 j2 u t e1 e2 o1 o2 z
theorem Holds.reOw {E : Ent} {G H : Hp} {σ : L2.St} {Γ : List Slot} {c c' : Oc} {q : Option Addr} (i : Nat) (h : Holds E G H σ Γ) (hg : Γ[i]? = some (.ow c q)) (kk : ∀ p o, σ[i]? = some (some (.ref p)) → H p = some o → c.rel G o → c'.rel G o) : Holds E G H σ (Γ.set i (.ow c' q)) := by
  have ow : ∀ (j : Nat) (u : Slot), (Γ.set i (.ow c' q))[j]? = some u → u.isOw = true → ∃ u', Γ[j]? = some u' ∧ u'.isOw = true := fun j u e o => by
    rcases get_set e with ⟨rfl, rfl⟩ | ⟨n, e⟩
    · exact ⟨_, hg, rfl⟩
    · exact ⟨u, e, o⟩
  refine ⟨h.le, h.fl, by rw [List.length_set]; exact h.len, fun j u e => ?_, fun j1 j2 u t e1 e2 o1 o2 z => ?_⟩
  · rcases get_set e with ⟨rfl, rfl⟩ | ⟨n, e⟩
    · obtain ⟨p, o, h1, h2, h3, h4, h5⟩ := h.ow hg
      exact ⟨p, o, h1, h2, h3, h4, kk p o h1 h4 h5⟩
    · exact h.ok j u e
  · obtain ⟨u1, a1, b1⟩ := ow j1 u e1 o1
    obtain ⟨u2, a2, b2⟩ := ow j2 t e2 o2
    exact h.sep j1 j2 u1 u2 a1 a2 b1 b2 z
/-- one's own new list is frozen; that it is new is kept -/
theorem bk_freezeN (i : Nat) (hg : Γ[i]? = some (.ow (oLst r as))) (kk : Bk X E (Γ.set i (.sh (rNw E.G r) as)) rest D) : Bk X E Γ rest D := fun G H σ hh => by
  obtain ⟨p, o, h1, h2, h3, h4, vs, h5, h6⟩ := hh.ow hg
  have e0 : E.G p = none := Evl.fresh_back hh.le.g h2
  obtain ⟨G', h'⟩ := hh.freeze hg
  have lt : i < Γ.length := (List.getElem?_eq_some_iff.mp hg).1
  have h'' := h'.reSh (s := rNw E.G r) (y := as) i (r := rLst r) (x := as) (by rw [List.getElem?_set_self lt]) (fun v hv ⟨p', vs', e1, e2, e3⟩ => by
    rw [h1] at hv
    cases hv
    cases e1
    exact ⟨p, vs', rfl, e0, e2, e3⟩)
  rw [List.set_set] at h''
  exact kk G' H σ h''
/-- one's own list seen as one of any values -/
theorem bk_anyV (i : Nat) {q : Option Addr} (hg : Γ[i]? = some (.ow (oLst r as) q)) (kk : ∀ vs : List V, vs.length = as.length → Bk X E (Γ.set i (.ow (oLst rV vs) q)) rest D) : Bk X E Γ rest D := fun G H σ hh => by
  obtain ⟨p, o, h1, h2, h3, h4, vs, h5, h6⟩ := hh.ow hg
  have all : ∀ vs : List V, All2 rV G vs vs := fun vs => by
    induction vs with
    | nil => exact .nil
    | cons v l ih => exact .cons rfl ih
  refine kk vs h6.length G H σ (hh.reOw i hg fun p' o' a1 a2 _ => ?_)
  rw [h1] at a1
  cases a1
  rw [h4] at a2
  cases a2
  exact ⟨vs, h5, all vs⟩
theorem ev_nonV {pos : Pos} {j : Nat} : Ev X Γ (.Constant .none j pos) rV V.non := fun E G H σ hh Q q => ev_unit E G H σ hh Q fun v G' H' l rv => q v G' H' l (by
  have z : v = V.non := rv
  exact z)
/-- an expression that tells a list that is new -/
def EvNw (X : Cx) (Γ : List Slot) (e : Expr) (r : Rp α) (as : List α) : Prop := ∀ (E : Ent) (G H : Hp) (σ : L2.St), Holds E G H σ Γ → ∀ Q : VK, (∀ v G' H', Le G H G' H' → (rNw G r).rel G' v as → Q v H') → WE X e σ H Q
theorem EvNw.own (h : EvNw X Γ e r as) (th : ∀ a ∈ as, Thin r a) : EvO X Γ e (oLst r as) := fun E G H σ hh Q q => h E G H σ hh Q fun v G' H' l ⟨p, vs, h1, h0, h2, h3⟩ => by
  subst h1
  have hn : H p = none := l.new p _ h2 h0
  have gc : cutG G' p p = none := by unfold cutG; rw [if_pos rfl]
  have up : upd (cutG G' p) p (.lst vs) = G' := cutG_upd h2
  have ht : ∀ (vs' : List V) (as' : List α), (∀ a ∈ as', Thin r a) → All2 r G' vs' as' → All2 r (cutG G' p) vs' as' := fun vs' as' t a => by
    induction a with
    | nil => exact .nil
    | cons h k ih => exact .cons (t _ List.mem_cons_self (cutG G' p) p (.lst vs) _ trivial (by rw [up]; exact h)) (ih fun a m => t a (List.mem_cons_of_mem _ m))
  refine q p (.lst vs) (cutG G' p) H' hn ⟨fun a o z => ?_, l.h, fun a o z => ?_, fun a o z1 z2 => ?_⟩ gc (l.gh _ _ h2) ⟨vs, rfl, ht vs as th h3⟩
  · have ne : a ≠ p := fun w => by subst w; rw [h0] at z; cases z
    unfold cutG
    rw [if_neg ne]
    exact l.g a o z
  · unfold cutG at z
    split at z
    · cases z
    · exact l.gh a o z
  · unfold cutG at z1
    split at z1
    · cases z1
    · exact l.new a o z1 z2
theorem en_callB {fn : Str} {ι : Type} {Pre : ι → Prop} {args : ι → List Ty} {rr : Rp β} {tt : Hp → Rp γ} {res : ι → β × List α × γ} {kk : Nat} {p2 : Pos} (h : Has X.prog X.w X.K X.mg X.base fn k (PSpG Pre args (fun G => rT3 X.K rr (rNw G r) (tt G)) res)) (hr : Room j X.A) (hk : k ≤ j) (y : ι) (hp : Pre y) (ha : EvA X Γ (e :: es) (args y)) (hz : (res y).2.1 = as) (hg : Gl X fn := by rfl) (hdb : (fn == ("__debug__" : Str)) = false := by decide)
    (he : starEach (e :: es) X.env = (false, eval e X.env) :: starEach es X.env := by rfl) (hpl : (backTo pos (starEach es X.env)).any (·.1) = false := by rfl) : EvNw X Γ (.Subscript (.Call (.Name fn p) (e :: es) [] pos) (.Constant (.int 1) kk p2) cpos) r as := fun E G H σ hh Q q =>
  WE.of (pe_ix ix_tup WE.pe pe_int (plain_of rfl)) (we_call h hr hk (ha E G H σ hh _ fun vs G1 H1 l1 a1 => ⟨y, G1, hp, l1.gh, a1, fun v G2 H2 l2 ⟨p, v1, v2, v3, e1, hp, h1, h2, h3⟩ => ⟨p, _, 1, v2, e1, rfl, Evl.ex_t l2.gh hp, rfl, q _ G2 H2 (l1.trans l2) (hz ▸ nw_mono l1.g h2)⟩⟩) hg hdb he hpl)
theorem en_callC {fn : Str} {ι : Type} {Pre : ι → Prop} {args : ι → List Ty} {rr : Rp β} {tt : Hp → Rp γ} {res : ι → β × γ × List α} {kk : Nat} {p2 : Pos} (h : Has X.prog X.w X.K X.mg X.base fn k (PSpG Pre args (fun G => rT3 X.K rr (tt G) (rNw G r)) res)) (hr : Room j X.A) (hk : k ≤ j) (y : ι) (hp : Pre y) (ha : EvA X Γ (e :: es) (args y)) (hz : (res y).2.2 = as) (hg : Gl X fn := by rfl) (hdb : (fn == ("__debug__" : Str)) = false := by decide)
    (he : starEach (e :: es) X.env = (false, eval e X.env) :: starEach es X.env := by rfl) (hpl : (backTo pos (starEach es X.env)).any (·.1) = false := by rfl) : EvNw X Γ (.Subscript (.Call (.Name fn p) (e :: es) [] pos) (.Constant (.int 2) kk p2) cpos) r as := fun E G H σ hh Q q =>
  WE.of (pe_ix ix_tup WE.pe pe_int (plain_of rfl)) (we_call h hr hk (ha E G H σ hh _ fun vs G1 H1 l1 a1 => ⟨y, G1, hp, l1.gh, a1, fun v G2 H2 l2 ⟨p, v1, v2, v3, e1, hp, h1, h2, h3⟩ => ⟨p, _, 2, v3, e1, rfl, Evl.ex_t l2.gh hp, rfl, q _ G2 H2 (l1.trans l2) (hz ▸ nw_mono l1.g h3)⟩⟩) hg hdb he hpl)
/-! ### x in a list of data -/
theorem gv_inD {c : PyData} {ds : List PyData} (a : Eqv X.K r x c) (b : Eqv X.K s y (.list ds)) : Gives (rInD X.K) r x s y rBool (ds.any fun z => PyData.eqv z c) := fun G H v w e h1 h2 Q q => ⟨c, ds, dp_mono e _ _ (a.dp G v h1), dp_mono e _ _ (b.dp G w h2), a.sh, b.sh, q _ G H (.refl e) rfl⟩
theorem ev_inDt {c : PyData} {ds : List PyData} (hr : Room k X.A) (a : Eqv X.K r x c) (b : Eqv X.K s y (.list ds)) (ha : Ev X Γ e r x) (hb : Ev X Γ f s y) (hm : behindInMarks .In f = false := by rfl) : Ev X Γ (.Compare e [.In] [f] pos) rBool (ds.any fun z => PyData.eqv z c) := ev_cmpR (op_inD (by have := hr.un; omega)) ha hb (gv_inD a b) hm
end
/-! ### lists of fractions -/
def pdQs (l : List Rat) : PyData := .list (l.map fun q => pdPair (cn q))
theorem all2_q {K : PySem.W.Frag} {G : Hp} : ∀ {vs : List V} {l : List Rat}, All2 (rQ K) G vs l → All2 (rT2 K rInt rInt) G vs (l.map cn)
  | _, _, .nil => .nil
  | _, _, .cons h t => .cons h (all2_q t)
theorem eqv_qs {K : PySem.W.Frag} {l : List Rat} : Eqv K (rLst (rQ K)) l (pdQs l) := by
  have z := eqv_pairs (K := K) (ns := l.map cn)
  have e : pdPairs (l.map cn) = pdQs l := by unfold pdPairs pdQs; rw [List.map_map]; rfl
  rw [e] at z
  exact ⟨fun G v ⟨p, vs, h1, h2, h3⟩ => z.dp G v ⟨p, vs, h1, h2, all2_q h3⟩, z.sh⟩
theorem cns_inj : ∀ {a b : List Rat}, a.map cn = b.map cn → a = b
  | [], [], _ => rfl
  | [], _ :: _, h => by simp at h
  | _ :: _, [], h => by simp at h
  | x :: a, y :: b, h => by
    rw [List.map_cons, List.map_cons, List.cons.injEq] at h
    rw [cn_inj h.1, cns_inj h.2]
theorem qs_eqv {a b : List Rat} : PyData.eqv (pdQs a) (pdQs b) = decide (a = b) := by
  have e : ∀ l : List Rat, pdPairs (l.map cn) = pdQs l := fun l => by unfold pdPairs pdQs; rw [List.map_map]; rfl
  rw [← e a, ← e b, pdPairs_eqv]
  exact decide_eq_decide.mpr ⟨cns_inj, fun h => by rw [h]⟩
theorem qs_any {l : List Rat} {q : Rat} : ((l.map fun q => pdPair (cn q)).any fun z => PyData.eqv z (pdPair (cn q))) = decide (q ∈ l) := by
  rw [List.any_map]
  induction l with
  | nil => simp
  | cons a l ih =>
    rw [List.any_cons, ih]
    simp only [Function.comp]
    rw [q_eqv, Bool.eq_iff_iff]
    simp only [Bool.or_eq_true, decide_eq_true_eq, List.mem_cons]
    constructor
    · rintro (h | h)
      · exact .inl h.symm
      · exact .inr h
    · rintro (h | h)
      · exact .inl h.symm
      · exact .inr h
end Hf

namespace Hf
open PySem PySem.Spec PyProof.Rows L2 ClX
/-! ### how far and what is told: rising, alike, one behind another -/
theorem rat_div_mono {a b m : Rat} (h : a ≤ b) (hm : 0 < m) : a / m ≤ b / m := by
  refine Rat.not_lt.mp fun z => ?_
  have := Rat.mul_lt_mul_of_pos_right z hm
  have e1 : a / m * m = a := Rat.div_mul_cancel (by grind)
  have e2 : b / m * m = b := Rat.div_mul_cancel (by grind)
  grind
namespace Pl
mutual
theorem far_congr {d d' : List (Str × Int)} (h : ∀ n, dg d n = dg d' n) : ∀ w : Pl, far w d = far w d'
  | .leaf n s => by
    cases s with
    | none => simp only [far]
    | some m => simp only [far]; rw [h]
  | .lot r n ps => by
    simp only [far]
    exact fars_congr h ps
theorem fars_congr {d d' : List (Str × Int)} {W : Int} (h : ∀ n, dg d n = dg d' n) : ∀ ps : List (Int × Pl), fars W ps d = fars W ps d'
  | [] => by simp only [fars]
  | (i, w) :: ps => by
    simp only [fars]
    rw [far_congr h w, fars_congr h ps]
end
mutual
theorem far_nil : ∀ w : Pl, far w [] = 0
  | .leaf n s => by
    cases s with
    | none => simp only [far]
    | some m =>
      simp only [far]
      have : dg [] n = 0 := rfl
      rw [this, Rat.div_def]
      have : ((0 : Int) : Rat) = 0 := rfl
      rw [this, Rat.zero_mul]
  | .lot r n ps => by
    simp only [far]
    exact fars_nil ps
theorem fars_nil {W : Int} : ∀ ps : List (Int × Pl), fars W ps [] = 0
  | [] => by simp only [fars]
  | (i, w) :: ps => by
    simp only [fars]
    rw [far_nil w, fars_nil ps]
    grind
end
end Pl
theorem far_mono {d d' : List (Str × Int)} (h : ∀ n, dg d n ≤ dg d' n) : ∀ {w : Pl}, w.Fit → w.far d ≤ w.far d' := fun {w} => by
  have key : ∀ (k : Nat) (w : Pl), w.depth ≤ k → w.Fit → w.far d ≤ w.far d' := fun k => by
    induction k with
    | zero => intro w h; have := Pl.depth_pos w; omega
    | succ k ih =>
      intro w hd hf
      cases w with
      | leaf n s =>
        cases s with
        | none => simp only [Pl.far]; exact Rat.le_refl
        | some m =>
          simp only [Pl.far]
          have b := hf m rfl
          simp only [isNum, Bool.and_eq_true, decide_eq_true_eq] at b
          have : (0 : Rat) < (m : Rat) := by exact_mod_cast (show 0 < m by omega)
          exact rat_div_mono (by exact_mod_cast h n) this
      | lot r n ps =>
        have hp := fit_parts hf
        have W := weights_lim hf rfl
        have hW : (0 : Rat) < (((ps.map fun q : Int × Pl => q.1).sum : Int) : Rat) := by exact_mod_cast (show 0 < (ps.map fun q : Int × Pl => q.1).sum from by have := W.1; show 0 < (Pl.lot r n ps).weights; omega)
        simp only [Pl.far]
        generalize (ps.map fun q : Int × Pl => q.1).sum = W0 at hW
        have hs : ∀ l : List (Int × Pl), (∀ q ∈ l, q ∈ ps) → Pl.fars W0 l d ≤ Pl.fars W0 l d' := fun l => by
          induction l with
          | nil => intro _; simp only [Pl.fars]; exact Rat.le_refl
          | cons q l ihl =>
            intro hq
            obtain ⟨i, v⟩ := q
            have mm := hq (i, v) List.mem_cons_self
            have hv := Pl.part_depth (w := .lot r n ps) mm
            have a := ih v (by simp only at hv; omega) (hp _ mm).2
            have b := ihl fun q hm => hq q (List.mem_cons_of_mem _ hm)
            have hi := (hp _ mm).1.1
            simp only [Pl.fars]
            have c : (0 : Rat) ≤ (i : Rat) / (W0 : Rat) := by
              have := rat_div_mono (a := 0) (b := (i : Rat)) (by exact_mod_cast (show (0 : Int) ≤ i by omega)) hW
              have z : (0 : Rat) / (W0 : Rat) = 0 := by rw [Rat.div_def, Rat.zero_mul]
              rw [z] at this
              exact this
            have e := Rat.mul_le_mul_of_nonneg_left a c
            grind
        exact hs ps fun q hq => hq
  exact fun hf => key w.depth w (Nat.le_refl _) hf
/-- told in two steps or in one -/
theorem next_next {s a b c : Rat} (h1 : a ≤ b) (h2 : b ≤ c) (hc : c ≤ 1) : shownNext (shownNext s a b) b c = shownNext s a c := by
  unfold shownNext
  by_cases e1 : a < b
  · by_cases e2 : b < c
    · have e3 : a < c := by grind
      rw [if_pos e1, if_pos e2, if_pos e3]
      have n1 : 1 - a ≠ 0 := by grind
      have n2 : 1 - b ≠ 0 := by grind
      have k : (1 - b) / (1 - a) * ((1 - c) / (1 - b)) = (1 - c) / (1 - a) := by
        rw [Rat.div_def, Rat.div_def, Rat.div_def]
        have := Rat.mul_inv_cancel (1 - b) n2
        grind
      grind
    · have e3 : b = c := by grind
      subst e3
      rw [if_neg e2]
  · have e3 : a = b := by grind
    subst e3
    rw [if_neg e1]
theorem next_same {s a : Rat} : shownNext s a a = s := by
  unfold shownNext
  rw [if_neg (by grind)]
theorem next_le {n : Nat} {s l w : Rat} (hs : ShOk n s) (hl : ShOk 200 l) (hw : ShOk 200 w) : s ≤ shownNext s l w := by
  unfold shownNext
  split
  · rename_i h
    obtain ⟨a, b, c⟩ := ratio_ok h hl.nn hw.le
    have := Rat.mul_le_mul_of_nonneg_left c (show 0 ≤ 1 - s by have := hs.le; grind)
    grind
  · exact Rat.le_refl
theorem next_one {n : Nat} {s l w : Rat} (hs : ShOk n s) (hl : ShOk 200 l) (hw : ShOk 200 w) (h : l = 1 → s = 1) : shownNext s l w = 1 ↔ (s = 1 ∨ w = 1) := by
  unfold shownNext
  split
  · rename_i h2
    obtain ⟨a, b, c⟩ := ratio_ok h2 hl.nn hw.le
    have e : (1 - w) / (1 - l) * (1 - l) = 1 - w := Rat.div_mul_cancel (by grind)
    constructor
    · intro z
      have z2 : (1 - s) * ((1 - w) / (1 - l)) = 0 := by grind
      rcases Rat.mul_eq_zero.mp z2 with z3 | z3
      · exact .inl (by grind)
      · exact .inr (by rw [z3] at e; grind)
    · rintro (z | z)
      · rw [z]; grind
      · subst z
        have e4 : (1 : Rat) - 1 = 0 := by grind
        rw [e4, Rat.div_def, Rat.zero_mul, Rat.mul_zero]
        grind
  · rename_i h2
    constructor
    · exact fun z => .inl z
    · rintro (z | z)
      · exact z
      · exact h (by have := hl.le; grind)
/-! ### runs from a state -/
def runFrom (c : Cs) (ts : List Tel) : Cs := ts.foldl stepC c
theorem runFrom_app {c : Cs} {a b : List Tel} : runFrom c (a ++ b) = runFrom (runFrom c a) b := List.foldl_append
def Path : Cs → List Tel → Prop
  | _, [] => True
  | c, t :: ts => (TelOk t ∧ Can c.plan c.did t) ∧ Path (stepC c t) ts
def AllSh (n : Nat) : Cs → List Tel → Prop
  | c, [] => ShOk n c.shown
  | c, t :: ts => ShOk n c.shown ∧ AllSh n (stepC c t) ts
theorem path_app : ∀ {a b : List Tel} {c : Cs}, Path c (a ++ b) ↔ Path c a ∧ Path (runFrom c a) b
  | [], b, c => by simp [Path, runFrom]
  | t :: a, b, c => by
    show (TelOk t ∧ Can c.plan c.did t) ∧ Path (stepC c t) (a ++ b) ↔ ((TelOk t ∧ Can c.plan c.did t) ∧ Path (stepC c t) a) ∧ Path (runFrom (stepC c t) a) b
    rw [path_app (a := a) (c := stepC c t)]
    exact and_assoc.symm
theorem allSh_mono {m n : Nat} (h : m ≤ n) : ∀ {ts : List Tel} {c : Cs}, AllSh m c ts → AllSh n c ts
  | [], c, k => sh_mono k h
  | t :: ts, c, k => ⟨sh_mono k.1 h, allSh_mono h k.2⟩
theorem allSh_app {n : Nat} : ∀ {a b : List Tel} {c : Cs}, AllSh n c a → AllSh n (runFrom c a) b → AllSh n c (a ++ b)
  | [], b, c, _, h => h
  | t :: a, b, c, h, k => ⟨h.1, allSh_app (a := a) h.2 k⟩
theorem allSh_head {n : Nat} {ts : List Tel} {c : Cs} (h : AllSh n c ts) : ShOk n c.shown := by
  cases ts with
  | nil => exact h
  | cons t ts => exact h.1
theorem path_get : ∀ {ts : List Tel} {c : Cs}, Path c ts → ∀ i t, ts[i]? = some t → TelOk t ∧ Can (runFrom c (ts.take i)).plan (runFrom c (ts.take i)).did t
  | [], c, _, i, t, e => by simp at e
  | t0 :: ts, c, h, 0, t, e => by
    simp only [List.getElem?_cons_zero, Option.some.injEq] at e
    subst e
    exact h.1
  | t0 :: ts, c, h, i + 1, t, e => path_get (c := stepC c t0) h.2 i t (by simpa using e)
theorem get_path : ∀ {ts : List Tel} {c : Cs}, (∀ i t, ts[i]? = some t → TelOk t ∧ Can (runFrom c (ts.take i)).plan (runFrom c (ts.take i)).did t) → Path c ts
  | [], c, _ => trivial
  | t0 :: ts, c, h => ⟨h 0 t0 rfl, get_path fun i t e => h (i + 1) t (by simpa using e)⟩
theorem allSh_get {n : Nat} : ∀ {ts : List Tel} {c : Cs}, AllSh n c ts → ∀ i, ShOk n (runFrom c (ts.take i)).shown
  | [], c, h, i => by
    rw [List.take_nil]
    exact h
  | t0 :: ts, c, h, 0 => h.1
  | t0 :: ts, c, h, i + 1 => allSh_get (c := stepC c t0) h.2 i
def cs0 (p : Pl) : Cs := ⟨p, [], 0⟩
theorem run_path {p : Pl} {ts : List Tel} (h : RunOk p ts) : Path (cs0 p) ts := get_path h.can
theorem runOk_of {p : Pl} {ts : List Tel} (hp : PlanOk p) (h : Path (cs0 p) ts) (k : AllSh 8500 (cs0 p) ts) (l : ts.length ≤ 1000) : RunOk p ts := ⟨hp, path_get h, fun i _ => allSh_get k i, l⟩
theorem cs0_ok {p : Pl} (h : PlanOk p) : CsOk (cs0 p).plan (cs0 p).did := (cs_ok (ts := []) h (fun i t e => by simp at e) 0 (Nat.le_refl _)).1
theorem step_ok' {c : Cs} {t : Tel} (co : CsOk c.plan c.did) (to : TelOk t) (h : Can c.plan c.did t) : CsOk (stepC c t).plan (stepC c t).did := Took.ok co to h
theorem path_ok : ∀ {ts : List Tel} {c : Cs}, CsOk c.plan c.did → Path c ts → CsOk (runFrom c ts).plan (runFrom c ts).did
  | [], c, co, _ => co
  | t :: ts, c, co, h => path_ok (ts := ts) (c := stepC c t) (step_ok' co h.1.1 h.1.2) h.2
/-! ### steps told one by one -/
theorem dPut_same {d : List (Str × Int)} {n : Str} {a b : Int} : dPut (dPut d n a) n b = dPut d n b := by
  by_cases h : (d.any fun q => decide (q.1 = n)) = true
  · have e1 : ∀ x, dPut d n x = d.map fun q => if q.1 = n then (q.1, x) else q := fun x => by unfold dPut; rw [if_pos h]
    rw [e1, e1]
    have h2 : ((d.map fun q => if q.1 = n then (q.1, a) else q).any fun q => decide (q.1 = n)) = true := by
      obtain ⟨q, hq, e⟩ := List.any_eq_true.mp h
      refine List.any_eq_true.mpr ⟨_, List.mem_map.mpr ⟨q, hq, rfl⟩, ?_⟩
      have e' := of_decide_eq_true e
      simp [e']
    unfold dPut
    rw [if_pos h2, List.map_map]
    refine List.map_congr_left fun q _ => ?_
    simp only [Function.comp]
    by_cases e : q.1 = n
    · simp [e]
    · simp [e]
  · have e1 : ∀ x, dPut d n x = d ++ [(n, x)] := fun x => by unfold dPut; rw [if_neg h]
    rw [e1, e1]
    have h2 : ((d ++ [(n, a)]).any fun q => decide (q.1 = n)) = true := by
      refine List.any_eq_true.mpr ⟨(n, a), by simp, by simp⟩
    unfold dPut
    rw [if_pos h2, List.map_append]
    congr 1
    · have : d.map (fun q => if q.1 = n then (q.1, b) else q) = d.map id := List.map_congr_left fun q hq => by
        have : ¬ q.1 = n := fun e => h (List.any_eq_true.mpr ⟨q, hq, decide_eq_true e⟩)
        rw [if_neg this]
        rfl
      rw [this, List.map_id]
    · simp
def dStep (d : List (Str × Int)) (n : Str) : Nat → List (Str × Int)
  | 0 => d
  | j + 1 => dPut d n (dg d n + ((j + 1 : Nat) : Int))
theorem dStep_dg {d : List (Str × Int)} {n m : Str} (j : Nat) : dg (dStep d n j) m = if n = m then dg d n + (j : Int) else dg d m := by
  cases j with
  | zero =>
    by_cases e : n = m
    · subst e; rw [if_pos rfl]; show dg d n = _; simp
    · rw [if_neg e]; rfl
  | succ j =>
    show dg (dPut d n _) m = _
    rw [dg_put]
theorem dStep_next {d : List (Str × Int)} {n : Str} (j : Nat) : dPut (dStep d n j) n (dg (dStep d n j) n + 1) = dStep d n (j + 1) := by
  rw [dStep_dg, if_pos rfl]
  cases j with
  | zero =>
    show dPut d n _ = dPut d n _
    congr 1
    simp
  | succ j =>
    show dPut (dPut d n _) n _ = dPut d n _
    rw [dPut_same]
    congr 1
    push_cast
    omega
theorem did_mono {p : Pl} {d : List (Str × Int)} {n : Str} (hf : p.Fit) {i j : Nat} (h : i ≤ j) : p.far (dStep d n i) ≤ p.far (dStep d n j) := far_mono (fun m => by
  rw [dStep_dg, dStep_dg]
  split <;> omega) hf
theorem did_can {p : Pl} {d : List (Str × Int)} {n : Str} {k : Int} (h : Can p d (.did n k)) {j : Nat} (hj : (j : Int) + 1 ≤ k) : Can p (dStep d n j) (.did n 1) := by
  obtain ⟨w, hf⟩ := h.find
  obtain ⟨hl, _, hk⟩ := h.leafy rfl rfl hf
  obtain ⟨hs, _⟩ := hk rfl
  refine Took.can (Took.did (w := w) hf hl fun s e => ?_) |>.1
  have := hs s e
  have e2 : dg (dStep d n j) n = dg d n + (j : Int) := by rw [dStep_dg, if_pos rfl]
  have e3 : (Tel.did n k).name = n := rfl
  have e4 : (Tel.did n k).num = k := rfl
  rw [e3, e4] at this
  show dg (dStep d n j) n + 1 ≤ s
  omega
theorem one_num {n : Str} : isNum (Tel.did n 1).num 1 (if (Tel.did n 1).isFound = true then 100 else 1000) = true := rfl
theorem did_ok {p : Pl} {d : List (Str × Int)} {n : Str} {k : Int} (co : CsOk p d) (to : TelOk (.did n k)) (h : Can p d (.did n k)) {j : Nat} (hj : (j : Int) ≤ k) : CsOk p (dStep d n j) := by
  have t1 : TelOk (.did n 1) := ⟨to.name, fun _ => one_num, fun z => by simp [Tel.isFound] at z⟩
  induction j with
  | zero => exact co
  | succ j ih =>
    have c := ih (by omega)
    have := Took.ok c t1 (did_can (j := j) h (by omega))
    rw [show (after p (dStep d n j) (.did n 1)).2 = dStep d n (j + 1) from dStep_next j] at this
    exact this
theorem did_seg {c : Cs} {n : Str} {k : Int} (co : CsOk c.plan c.did) (to : TelOk (.did n k)) (h : Can c.plan c.did (.did n k)) : ∀ j : Nat, (j : Int) ≤ k →
    Path c (List.replicate j (.did n 1)) ∧ runFrom c (List.replicate j (.did n 1)) = ⟨c.plan, dStep c.did n j, shownNext c.shown (c.plan.far c.did) (c.plan.far (dStep c.did n j))⟩ := fun j => by
  have t1 : TelOk (.did n 1) := ⟨to.name, fun _ => one_num, fun z => by simp [Tel.isFound] at z⟩
  induction j with
  | zero =>
    intro _
    refine ⟨trivial, ?_⟩
    show c = (⟨c.plan, c.did, shownNext c.shown (c.plan.far c.did) (c.plan.far c.did)⟩ : Cs)
    rw [next_same]
  | succ j ih =>
    intro hj
    obtain ⟨h1, h2⟩ := ih (by omega)
    have cj := did_ok (j := j) co to h (by omega)
    have cj1 := did_ok (j := j + 1) co to h (by omega)
    rw [List.replicate_succ', path_app, runFrom_app, h2]
    refine ⟨⟨h1, ⟨t1, did_can h (by omega)⟩, trivial⟩, ?_⟩
    show stepC _ _ = _
    have e : (after c.plan (dStep c.did n j) (.did n 1)) = (c.plan, dStep c.did n (j + 1)) := by
      show (c.plan, _) = _
      rw [dStep_next]
    unfold stepC
    simp only [e]
    have m1 : c.plan.far c.did ≤ c.plan.far (dStep c.did n j) := did_mono (i := 0) co.plan.fit (Nat.zero_le _)
    have m2 : c.plan.far (dStep c.did n j) ≤ c.plan.far (dStep c.did n (j + 1)) := did_mono co.plan.fit (Nat.le_succ _)
    rw [next_next m1 m2 cj1.sh.le]
def oneT : Tel → List Tel
  | .did n k => if k < 40 then List.replicate k.toNat (.did n 1) else [.did n k]
  | t => [t]
def oneL (ts : List Tel) : List Tel := ts.flatMap oneT
theorem did_sh {c : Cs} {n : Str} {k : Int} {m : Nat} (co : CsOk c.plan c.did) (to : TelOk (.did n k)) (h : Can c.plan c.did (.did n k)) (hs : ShOk m c.shown) : ∀ j : Nat, (j : Int) ≤ k → AllSh (m + 400) c (List.replicate j (.did n 1)) := fun j => by
  induction j with
  | zero => intro _; exact sh_mono hs (by omega)
  | succ j ih =>
    intro hj
    have a := ih (by omega)
    have e1 := (did_seg co to h j (by omega)).2
    have e2 := (did_seg co to h (j + 1) hj).2
    rw [List.replicate_succ'] at e2 ⊢
    rw [runFrom_app] at e2
    refine allSh_app a ⟨?_, ?_⟩
    · exact allSh_get a j |> fun z => by
        rw [List.take_of_length_le (by simp)] at z
        exact z
    · show ShOk (m + 400) (stepC (runFrom c (List.replicate j (.did n 1))) (.did n 1)).shown
      have e3 : stepC (runFrom c (List.replicate j (.did n 1))) (.did n 1) = _ := e2
      rw [e3]
      exact shown_next hs co.sh (did_ok (j := j + 1) co to h hj).sh
theorem one_tel {c : Cs} {t : Tel} {m : Nat} (co : CsOk c.plan c.did) (to : TelOk t) (h : Can c.plan c.did t) (hs : ShOk m c.shown) : Path c (oneT t) ∧ runFrom c (oneT t) = stepC c t ∧ AllSh (m + 400) c (oneT t) ∧ (oneT t).length ≤ 39 := by
  have plain : Path c [t] ∧ runFrom c [t] = stepC c t ∧ AllSh (m + 400) c [t] ∧ [t].length ≤ 39 := by
    refine ⟨⟨⟨to, h⟩, trivial⟩, rfl, ⟨sh_mono hs (by omega), ?_⟩, by simp⟩
    exact shown_next hs co.sh (step_ok' co to h).sh
  cases t with
  | did n k =>
    have e0 : oneT (.did n k) = if k < 40 then List.replicate k.toNat (.did n 1) else [.did n k] := rfl
    rw [e0]
    by_cases hk : k < 40
    · rw [if_pos hk]
      have hn := to.num rfl
      have hn2 : isNum k 1 1000 = true := hn
      simp only [isNum, Bool.and_eq_true, decide_eq_true_eq] at hn2
      have hle : ((k.toNat : Nat) : Int) ≤ k := by omega
      obtain ⟨h1, h2⟩ := did_seg co to h k.toNat hle
      refine ⟨h1, ?_, did_sh co to h hs _ hle, by rw [List.length_replicate]; omega⟩
      rw [h2]
      have e : dStep c.did n k.toNat = (after c.plan c.did (.did n k)).2 := by
        show _ = dPut c.did n (dg c.did n + k)
        obtain ⟨j, hj⟩ : ∃ j, k.toNat = j + 1 := ⟨k.toNat - 1, by omega⟩
        rw [hj]
        show dPut c.did n _ = _
        congr 1
        omega
      rw [e]
      rfl
    · rw [if_neg hk]
      exact plain
  | knows n k => exact plain
  | found a b c d => exact plain
  | again n => exact plain
theorem one_run : ∀ {ts : List Tel} {c : Cs} {m : Nat}, CsOk c.plan c.did → ShOk m c.shown → Path c ts → Path c (oneL ts) ∧ runFrom c (oneL ts) = runFrom c ts ∧ AllSh (m + 400 * ts.length + 400) c (oneL ts) ∧ (oneL ts).length ≤ 39 * ts.length
  | [], c, m, co, hs, _ => ⟨trivial, rfl, sh_mono hs (by omega), by simp [oneL]⟩
  | t :: ts, c, m, co, hs, h => by
    obtain ⟨a1, a2, a3, a4⟩ := one_tel co h.1.1 h.1.2 hs
    have c2 := step_ok' co h.1.1 h.1.2
    obtain ⟨b1, b2, b3, b4⟩ := one_run (m := m + 400) c2 (shown_next hs co.sh c2.sh) h.2
    have e : oneL (t :: ts) = oneT t ++ oneL ts := by simp [oneL]
    rw [e, path_app, runFrom_app, a2]
    refine ⟨⟨a1, b1⟩, b2, allSh_app (allSh_mono (by simp only [List.length_cons]; omega) a3) (by rw [a2]; exact allSh_mono (by simp only [List.length_cons]; omega) b3), ?_⟩
    rw [List.length_append, List.length_cons]
    omega
theorem one_runOk {p : Pl} {ts : List Tel} (h : RunOk p ts) (hl : ts.length ≤ 20) : RunOk p (oneL ts) ∧ runC p (oneL ts) = runC p ts := by
  obtain ⟨a, b, c, d⟩ := one_run (m := 1) (cs0_ok h.plan) (show ShOk 1 0 from ⟨lim0, by decide, by decide⟩) (run_path h)
  exact ⟨runOk_of h.plan a (allSh_mono (by omega) c) (by omega), b⟩
end Hf

set_option exponentiation.threshold 2000
namespace Hf
open PySem PySem.Spec PyProof.Rows L2 ClX
/-! ### what is told: never less, the whole just if it was so far; the law's reckoning -/
theorem run_co {p : Pl} {ts : List Tel} (h : RunOk p ts) {i : Nat} (hi : i ≤ ts.length) : CsOk (runC p (ts.take i)).plan (runC p (ts.take i)).did := (cs_ok h.plan h.can i hi).1
theorem far_sh {p : Pl} {ts : List Tel} (h : RunOk p ts) {i : Nat} (hi : i ≤ ts.length) : ShOk 200 (farAt p ts i) := (run_co h hi).sh
theorem shown_step {p : Pl} {ts : List Tel} {i : Nat} (hi : i < ts.length) : (runC p (ts.take (i + 1))).shown = shownNext (runC p (ts.take i)).shown (farAt p ts i) (farAt p ts (i + 1)) := by
  have e := runC_next (p := p) (List.getElem?_eq_getElem hi)
  unfold farAt
  rw [e]
  rfl
theorem shown_mono {p : Pl} {ts : List Tel} (h : RunOk p ts) {i : Nat} (hi : i < ts.length) : (runC p (ts.take i)).shown ≤ (runC p (ts.take (i + 1))).shown := by
  rw [shown_step hi]
  exact next_le (h.sh i (by omega)) (far_sh h (by omega)) (far_sh h (by omega))
theorem shown_fall {p : Pl} {ts : List Tel} {i : Nat} (hi : i < ts.length) (c : farAt p ts (i + 1) < farAt p ts i) : (runC p (ts.take (i + 1))).shown = (runC p (ts.take i)).shown := by
  rw [shown_step hi]
  unfold shownNext
  rw [if_neg (by grind)]
theorem far_first {p : Pl} {ts : List Tel} : farAt p ts 0 = 0 := Pl.far_nil p
theorem shown_whole {p : Pl} {ts : List Tel} (h : RunOk p ts) : ∀ i, i ≤ ts.length → ((runC p (ts.take i)).shown = 1 ↔ ∃ j, j ≤ i ∧ farAt p ts j = 1) := fun i => by
  induction i with
  | zero =>
    intro _
    constructor
    · intro z
      have e : (runC p (ts.take 0)).shown = 0 := rfl
      rw [e] at z
      grind
    · rintro ⟨j, hj, e⟩
      have : j = 0 := by omega
      subst this
      rw [far_first] at e
      grind
  | succ i ih =>
    intro hi
    have a := ih (by omega)
    rw [shown_step (by omega), next_one (h.sh i (by omega)) (far_sh h (by omega)) (far_sh h hi) fun e => a.mpr ⟨i, Nat.le_refl _, e⟩, a]
    constructor
    · rintro (⟨j, h1, h2⟩ | e)
      · exact ⟨j, by omega, h2⟩
      · exact ⟨i + 1, Nat.le_refl _, e⟩
    · rintro ⟨j, h1, h2⟩
      by_cases c : j = i + 1
      · subst c; exact .inr h2
      · exact .inl ⟨j, by omega, h2⟩
theorem shown_at {p : Pl} {ts : List Tel} {i : Nat} (hi : i ≤ ts.length) : (shownL p ts)[i]? = some (runC p (ts.take i)).shown := by
  unfold shownL
  rw [List.getElem?_map, List.getElem?_range (by omega)]
  rfl
theorem shown_len {p : Pl} {ts : List Tel} : (shownL p ts).length = ts.length + 1 := by simp [shownL]
theorem shown_getD {p : Pl} {ts : List Tel} {i : Nat} (hi : i ≤ ts.length) {d : Rat} : (shownL p ts).getD i d = (runC p (ts.take i)).shown := by
  rw [List.getD_eq_getElem?_getD, shown_at hi]
  rfl
theorem shown_last {p : Pl} {ts : List Tel} {d : Rat} : (shownL p ts).getLastD d = (runC p ts).shown := by
  unfold shownL
  rw [List.range_succ, List.map_append, List.map_singleton, List.take_length]
  simp
def farsL (p : Pl) (ts : List Tel) : List Rat := (standsL p ts).map fun s => s.1.far s.2
theorem fars_at {p : Pl} {ts : List Tel} {i : Nat} (hi : i ≤ ts.length) : (farsL p ts)[i]? = some (farAt p ts i) := by
  unfold farsL standsL
  rw [List.getElem?_map, List.getElem?_map, List.getElem?_range (by omega)]
  rfl
theorem fars_len {p : Pl} {ts : List Tel} : (farsL p ts).length = ts.length + 1 := by simp [farsL, standsL]
theorem fars_getD {p : Pl} {ts : List Tel} {i : Nat} (hi : i ≤ ts.length) {d : Rat} : (farsL p ts).getD i d = farAt p ts i := by
  rw [List.getD_eq_getElem?_getD, fars_at hi]
  rfl
theorem fars_take {p : Pl} {ts : List Tel} {i : Nat} (hi : i ≤ ts.length) : (1 : Rat) ∈ (farsL p ts).take (i + 1) ↔ ∃ j, j ≤ i ∧ farAt p ts j = 1 := by
  constructor
  · intro h
    obtain ⟨j, hj, e⟩ := List.mem_iff_getElem.mp h
    rw [List.length_take, fars_len] at hj
    have e2 : ((farsL p ts).take (i + 1))[j]? = some 1 := by rw [List.getElem?_eq_getElem (by rw [List.length_take, fars_len]; omega), e]
    rw [List.getElem?_take, if_pos (by omega), fars_at (by omega)] at e2
    exact ⟨j, by omega, Option.some.inj e2⟩
  · rintro ⟨j, hj, e⟩
    refine List.mem_of_getElem? (i := j) ?_
    rw [List.getElem?_take, if_pos (by omega), fars_at (by omega), e]
theorem stand_at {p : Pl} {ts : List Tel} {i : Nat} (hi : i ≤ ts.length) : (standsL p ts)[i]? = some ((runC p (ts.take i)).plan, (runC p (ts.take i)).did) := by
  unfold standsL
  rw [List.getElem?_map, List.getElem?_range (by omega)]
  rfl
theorem stand_len {p : Pl} {ts : List Tel} : (standsL p ts).length = ts.length + 1 := by simp [standsL]
theorem stand_getD {p : Pl} {ts : List Tel} {i : Nat} (hi : i ≤ ts.length) {d : Pl × List (Str × Int)} : (standsL p ts).getD i d = ((runC p (ts.take i)).plan, (runC p (ts.take i)).did) := by
  rw [List.getD_eq_getElem?_getD, stand_at hi]
  rfl
theorem falls_mem {p : Pl} {ts : List Tel} {i : Nat} (hi : i < ts.length) : ((i : Int) ∈ fallsL p ts) ↔ farAt p ts (i + 1) < farAt p ts i := by
  unfold fallsL
  rw [List.mem_map]
  constructor
  · rintro ⟨j, hj, e⟩
    have : j = i := by exact_mod_cast e
    subst this
    exact of_decide_eq_true (List.mem_filter.mp hj).2
  · intro h
    exact ⟨i, List.mem_filter.mpr ⟨List.mem_range.mpr hi, decide_eq_true h⟩, rfl⟩
/-- the law's due falls -/
theorem due_falls {p : Pl} {ts : List Tel} {f : Int → Bool} (h : ∀ i : Nat, i < ts.length → f (i : Int) = decide (farAt p ts (i + 1) < farAt p ts i)) : ((rangeL 0 ts.length).filter f).map (fun k : Int => k) = fallsL p ts := by
  have e : rangeL 0 ts.length = (List.range ts.length).map fun (i : Nat) => (i : Int) := by
    unfold rangeL
    refine List.map_congr_left fun i _ => by omega
  rw [List.map_id', e, List.filter_map]
  unfold fallsL
  congr 1
  refine List.filter_congr fun i hi => ?_
  exact h i (List.mem_range.mp hi)
/-! the law's next -/
theorem next_alg {s l w R S L W : Rat} (k : R * (1 - l) = 1 - w) : (1 - (1 - s) * R) * (S * (W * (L - l * L))) = S * (W * (L - l * L)) - (S - s * S) * ((W - w * W) * L) := by
  have e : W - w * W = W * (R * (1 - l)) := by rw [k]; grind
  rw [e]
  grind
theorem next_law {s l w : Rat} (h : l < w) (hw : w ≤ 1) : shownNext s l w = qd ((s.den : Int) * ((w.den : Int) * ((l.den : Int) - l.num)) - ((s.den : Int) - s.num) * (((w.den : Int) - w.num) * (l.den : Int))) ((s.den : Int) * ((w.den : Int) * ((l.den : Int) - l.num))) ∧ 0 < (w.den : Int) * ((l.den : Int) - l.num) := by
  have hl1 : l < 1 := by grind
  have e := (Rat.lt_iff l 1).mp hl1
  have e1 : (1 : Rat).num = 1 := rfl
  have e2 : (1 : Rat).den = 1 := rfl
  rw [e1, e2] at e
  have pos : 0 < (l.den : Int) - l.num := by omega
  have two := Int.mul_pos (den_pos w) pos
  refine ⟨qd_eq (Int.mul_pos (den_pos s) two) ?_, two⟩
  unfold shownNext
  rw [if_pos h]
  have a := q_mul s
  have b := q_mul l
  have c := q_mul w
  have d1 := den_ne s
  have d2 := den_ne l
  have d3 := den_ne w
  have n : 1 - l ≠ 0 := by grind
  have k : (1 - w) / (1 - l) * (1 - l) = 1 - w := Rat.div_mul_cancel n
  simp only [Rat.intCast_sub, Rat.intCast_mul]
  rw [a, b, c]
  exact next_alg k
theorem next_size {n : Nat} {s l w : Rat} (hs : ShOk n s) (hl : ShOk 200 l) (hw : ShOk 200 w) (h : l < w) (hn : n ≤ 8500) :
    Top ((w.den : Int) - w.num) ∧ Top ((l.den : Int) - l.num) ∧ Top ((s.den : Int) - s.num) ∧ Top (((w.den : Int) - w.num) * (l.den : Int)) ∧ Top ((w.den : Int) * ((l.den : Int) - l.num)) ∧ Bot ((s.den : Int) * ((w.den : Int) * ((l.den : Int) - l.num))) := by
  have sub : ∀ {m : Nat} {q : Rat}, ShOk m q → 0 ≤ (q.den : Int) - q.num ∧ ((q.den : Int) - q.num).natAbs < 2 ^ m := fun {m q} h => by
    obtain ⟨b0, b1⟩ := num_bound h.nn h.le
    have := h.lim.2
    refine ⟨by omega, Nat.lt_of_le_of_lt (show _ ≤ q.den by omega) this⟩
  have np := hs.lim.pos
  obtain ⟨a1, a2⟩ := sub hw
  obtain ⟨b1, b2⟩ := sub hl
  obtain ⟨c1, c2⟩ := sub hs
  have two := (next_law (s := s) h hw.le).2
  have t1 : (((w.den : Int) - w.num) * (l.den : Int)).natAbs < 2 ^ 400 := by
    rw [Int.natAbs_mul, show (400 : Nat) = 200 + 200 from rfl, Nat.pow_add]
    exact Nat.mul_lt_mul'' a2 (by simpa using hl.lim.2)
  have t2 : ((w.den : Int) * ((l.den : Int) - l.num)).natAbs < 2 ^ 400 := by
    rw [Int.natAbs_mul, show (400 : Nat) = 200 + 200 from rfl, Nat.pow_add]
    exact Nat.mul_lt_mul'' (by simpa using hw.lim.2) b2
  refine ⟨top_of a2 (by decide) (by decide), top_of b2 (by decide) (by decide), top_of c2 np (by omega), top_of t1 (by decide) (by decide), top_of t2 (by decide) (by decide), ?_⟩
  refine bot_of (k := n + 400) (Int.mul_pos (den_pos s) two) ?_ (by omega) (by omega)
  rw [Int.natAbs_mul, Nat.pow_add]
  exact Nat.mul_lt_mul'' (by simpa using hs.lim.2) t2
/-! ### two tellings of steps told the other way round -/
structure CsEq (c c' : Cs) : Prop where
  plan : c.plan = c'.plan
  shown : c.shown = c'.shown
  did : ∀ n, dg c.did n = dg c'.did n
theorem zeroed_dg {d : List (Str × Int)} {ls : List Pl} {n : Str} : dg (zeroed d ls) n = if n ∈ ls.map Pl.name then 0 else dg d n := by
  unfold dg
  rw [zeroed_get]
  split <;> rfl
theorem eq_step {c c' : Cs} {t : Tel} (e : CsEq c c') (h : Can c.plan c.did t) : Can c'.plan c'.did t ∧ CsEq (stepC c t) (stepC c' t) := by
  obtain ⟨p, d, s⟩ := c
  obtain ⟨p', d', s'⟩ := c'
  obtain ⟨e1, e2, e3⟩ := e
  simp only at e1 e2 e3
  subst e1 e2
  have key : ∀ p2 d2 d2', after p d t = (p2, d2) → after p d' t = (p2, d2') → (∀ n, dg d2 n = dg d2' n) → CsEq (stepC ⟨p, d, s⟩ t) (stepC ⟨p, d', s⟩ t) := fun p2 d2 d2' h1 h2 h3 => by
    unfold stepC
    simp only [h1, h2]
    refine ⟨rfl, ?_, h3⟩
    show shownNext s (p.far d) (p2.far d2) = shownNext s (p.far d') (p2.far d2')
    rw [Pl.far_congr e3, Pl.far_congr h3]
  obtain ⟨w, hf⟩ := h.find
  cases t with
  | again n =>
    have hf' : p.find n = some w := hf
    refine ⟨(Took.again hf').can.1, key p (zeroed d w.leaves) (zeroed d' w.leaves) (by simp only [after, hf']) (by simp only [after, hf']) fun m => ?_⟩
    rw [zeroed_dg, zeroed_dg, e3]
  | found n wt ln st =>
    obtain ⟨hl, ok, _⟩ := h.found rfl hf
    exact ⟨(Took.found (d := d') hf hl ok).can.1, key _ d d' rfl rfl e3⟩
  | knows n k =>
    obtain ⟨hl, hk, _⟩ := h.leafy rfl rfl hf
    obtain ⟨h1, h2, _⟩ := hk rfl
    have h2' : dg d n ≤ k := h2
    exact ⟨(Took.knows (d := d') hf hl h1 (by rw [← e3]; exact h2')).can.1, key _ d d' rfl rfl e3⟩
  | did n k =>
    obtain ⟨hl, _, hk⟩ := h.leafy rfl rfl hf
    obtain ⟨h1, _⟩ := hk rfl
    refine ⟨(Took.did (d := d') hf hl fun s' z => by rw [← e3]; exact h1 s' z).can.1, key p (dPut d n (dg d n + k)) (dPut d' n (dg d' n + k)) rfl rfl fun m => ?_⟩
    rw [dg_put, dg_put, e3, e3]
theorem eq_path : ∀ {ts : List Tel} {c c' : Cs}, CsEq c c' → Path c ts → Path c' ts ∧ ∀ i, CsEq (runFrom c (ts.take i)) (runFrom c' (ts.take i))
  | [], c, c', e, _ => ⟨trivial, fun i => by rw [List.take_nil]; exact e⟩
  | t :: ts, c, c', e, h => by
    obtain ⟨a, b⟩ := eq_step e h.1.2
    obtain ⟨k1, k2⟩ := eq_path (ts := ts) b h.2
    refine ⟨⟨⟨h.1.1, a⟩, k1⟩, fun i => ?_⟩
    cases i with
    | zero => exact e
    | succ i => exact k2 i
theorem far_le_step {p : Pl} {d : List (Str × Int)} {n : Str} {k : Int} (hf : p.Fit) (hk : 0 ≤ k) : p.far d ≤ p.far (dPut d n (dg d n + k)) := far_mono (fun m => by
  rw [dg_put]
  split
  · rename_i e; subst e; omega
  · omega) hf
theorem did_num {n : Str} {k : Int} (to : TelOk (.did n k)) : 1 ≤ k ∧ k ≤ 1000 := by
  have hn2 : isNum k 1 1000 = true := to.num rfl
  simpa only [isNum, Bool.and_eq_true, decide_eq_true_eq] using hn2
theorem swap_two {c : Cs} {a b : Str} {m n : Int} (co : CsOk c.plan c.did) (ta : TelOk (.did a m)) (tb : TelOk (.did b n)) (ha : Can c.plan c.did (.did a m)) (hb : Can (stepC c (.did a m)).plan (stepC c (.did a m)).did (.did b n)) :
    Path c [.did b n, .did a m] ∧ CsEq (runFrom c [.did a m, .did b n]) (runFrom c [.did b n, .did a m]) ∧ (c.plan.far c.did ≤ c.plan.far (stepC c (.did a m)).did ∧ c.plan.far (stepC c (.did a m)).did ≤ c.plan.far (runFrom c [.did a m, .did b n]).did) ∧ (c.plan.far c.did ≤ c.plan.far (stepC c (.did b n)).did ∧ c.plan.far (stepC c (.did b n)).did ≤ c.plan.far (runFrom c [.did b n, .did a m]).did) := by
  obtain ⟨p, d, s⟩ := c
  have hm := did_num ta
  have hn := did_num tb
  have cf := step_ok' (step_ok' (c := ⟨p, d, s⟩) co ta ha) tb hb
  obtain ⟨w, hf⟩ := ha.find
  obtain ⟨hl, _, hk⟩ := ha.leafy rfl rfl hf
  obtain ⟨h1, _⟩ := hk rfl
  have h1' : ∀ z, w.steps = some z → dg d a + m ≤ z := h1
  have hb' : Can p (dPut d a (dg d a + m)) (.did b n) := hb
  obtain ⟨v, hg⟩ := hb'.find
  obtain ⟨hl2, _, hk2⟩ := hb'.leafy rfl rfl hg
  obtain ⟨h2, _⟩ := hk2 rfl
  have h2' : ∀ z, v.steps = some z → dg (dPut d a (dg d a + m)) b + n ≤ z := h2
  have hf' : p.find a = some w := hf
  have hg' : p.find b = some v := hg
  have c1 : Can p d (.did b n) := (Took.did (d := d) hg' hl2 fun z e => by
    have := h2' z e
    rw [dg_put] at this
    split at this
    · rename_i e; subst e; omega
    · omega).can.1
  have c2 : Can p (dPut d b (dg d b + n)) (.did a m) := (Took.did (d := dPut d b (dg d b + n)) hf' hl fun z e => by
    rw [dg_put]
    split
    · rename_i e2
      subst e2
      rw [hg'] at hf'
      cases hf'
      have := h2' z e
      rw [dg_put, if_pos rfl] at this
      omega
    · exact h1' z e).can.1
  have ed : ∀ x, dg (dPut (dPut d a (dg d a + m)) b (dg (dPut d a (dg d a + m)) b + n)) x = dg (dPut (dPut d b (dg d b + n)) a (dg (dPut d b (dg d b + n)) a + m)) x := fun x => by
    simp only [dg_put]
    by_cases e1 : a = x <;> by_cases e2 : b = x
    · subst e1 e2; simp; omega
    · subst e1; simp [e2]
    · subst e2; simp [e1]
    · simp [e1, e2]
  have m1 := far_le_step (d := d) (n := a) (k := m) co.plan.fit (by omega)
  have m2 := far_le_step (d := dPut d a (dg d a + m)) (n := b) (k := n) co.plan.fit (by omega)
  have m3 := far_le_step (d := d) (n := b) (k := n) co.plan.fit (by omega)
  have m4 := far_le_step (d := dPut d b (dg d b + n)) (n := a) (k := m) co.plan.fit (by omega)
  have le1 : p.far (dPut (dPut d a (dg d a + m)) b (dg (dPut d a (dg d a + m)) b + n)) ≤ 1 := cf.sh.le
  have efar := Pl.far_congr ed p
  refine ⟨⟨⟨tb, c1⟩, ⟨ta, c2⟩, trivial⟩, ⟨rfl, ?_, ed⟩, ⟨m1, m2⟩, ⟨m3, m4⟩⟩
  show shownNext (shownNext s (p.far d) _) _ (p.far (dPut (dPut d a (dg d a + m)) b (dg (dPut d a (dg d a + m)) b + n))) = shownNext (shownNext s (p.far d) _) _ (p.far (dPut (dPut d b (dg d b + n)) a (dg (dPut d b (dg d b + n)) a + m)))
  have x1 := next_next (s := s) m1 m2 le1
  have x2 := next_next (s := s) m3 m4 (by rw [← efar]; exact le1)
  exact (x1.trans (congrArg (shownNext s (p.far d)) efar)).trans x2.symm
theorem run_take {p : Pl} {ts : List Tel} {i : Nat} : runC p (ts.take i) = runFrom (cs0 p) (ts.take i) := rfl
theorem swap_run {p : Pl} {l r : List Tel} {a b : Str} {m n : Int} (h : RunOk p (l ++ .did a m :: .did b n :: r)) (hl : (l ++ .did a m :: .did b n :: r).length ≤ 20) :
    RunOk p (l ++ .did b n :: .did a m :: r) ∧ (runC p (l ++ .did b n :: .did a m :: r)).shown = (runC p (l ++ .did a m :: .did b n :: r)).shown ∧ fallsL p (l ++ .did b n :: .did a m :: r) = fallsL p (l ++ .did a m :: .did b n :: r) := by
  have hp := run_path h
  obtain ⟨h1, h2⟩ := path_app.mp hp
  obtain ⟨⟨ta, ca⟩, ⟨tb, cb⟩, h3⟩ := h2
  have co := path_ok (cs0_ok h.plan) h1
  obtain ⟨k1, k2, ⟨k3, k4⟩, k5, k6⟩ := swap_two co ta tb ca cb
  obtain ⟨q1, q2⟩ := eq_path k2 h3
  have hp2 : Path (cs0 p) (l ++ .did b n :: .did a m :: r) := path_app.mpr ⟨h1, ⟨k1.1, k1.2.1, q1⟩⟩
  have ok : RunOk p (l ++ .did b n :: .did a m :: r) := runOk_few h.plan (path_get hp2) (by simp at hl ⊢; omega)
  have late : ∀ i, CsEq (runC p ((l ++ .did a m :: .did b n :: r).take (l.length + 2 + i))) (runC p ((l ++ .did b n :: .did a m :: r).take (l.length + 2 + i))) := fun i => by
    have e : ∀ (x y : Tel), (l ++ x :: y :: r).take (l.length + 2 + i) = l ++ (x :: y :: r.take i) := fun x y => by
      rw [List.take_append, List.take_of_length_le (by omega)]
      have : l.length + 2 + i - l.length = i + 1 + 1 := by omega
      rw [this]
      rfl
    rw [e, e]
    have e2 : ∀ (x y : Tel), runC p (l ++ (x :: y :: r.take i)) = runFrom (runFrom (runFrom (cs0 p) l) [x, y]) (r.take i) := fun x y => by
      show runFrom (cs0 p) (l ++ ([x, y] ++ r.take i)) = _
      rw [runFrom_app, runFrom_app]
    rw [e2, e2]
    exact q2 i
  have early : ∀ i, i ≤ l.length → ∀ (x y : Tel), (l ++ x :: y :: r).take i = l.take i := fun i hi x y => by
    rw [List.take_append]
    have : i - l.length = 0 := by omega
    rw [this]
    simp
  have mid : ∀ (x y : Tel), (l ++ x :: y :: r).take (l.length + 1) = l ++ [x] := fun x y => by
    rw [List.take_append, List.take_of_length_le (by omega)]
    have : l.length + 1 - l.length = 1 := by omega
    rw [this]
    rfl
  refine ⟨ok, ?_, ?_⟩
  · have z := (late r.length).shown
    have e : ∀ (x y : Tel), (l ++ x :: y :: r).take (l.length + 2 + r.length) = l ++ x :: y :: r := fun x y => List.take_of_length_le (by simp; omega)
    rw [e, e] at z
    exact z.symm
  · unfold fallsL
    have len : (l ++ Tel.did b n :: Tel.did a m :: r).length = (l ++ Tel.did a m :: Tel.did b n :: r).length := by simp
    rw [len]
    congr 1
    refine List.filter_congr fun i hi => ?_
    have far_late : ∀ i, l.length + 2 ≤ i → farAt p (l ++ .did b n :: .did a m :: r) i = farAt p (l ++ .did a m :: .did b n :: r) i := fun i hi => by
      obtain ⟨j, rfl⟩ : ∃ j, i = l.length + 2 + j := ⟨i - (l.length + 2), by omega⟩
      have z := late j
      unfold farAt
      rw [← z.plan]
      exact (Pl.far_congr z.did _).symm
    have far_early : ∀ i, i ≤ l.length → farAt p (l ++ .did b n :: .did a m :: r) i = farAt p (l ++ .did a m :: .did b n :: r) i := fun i hi => by
      unfold farAt
      rw [early i hi, early i hi]
    have f0 : ∀ x y, farAt p (l ++ x :: y :: r) l.length = (runFrom (cs0 p) l).plan.far (runFrom (cs0 p) l).did := fun x y => by
      unfold farAt
      rw [early _ (Nat.le_refl _), List.take_length]
      rfl
    have f1 : ∀ x y, farAt p (l ++ x :: y :: r) (l.length + 1) = (stepC (runFrom (cs0 p) l) x).plan.far (stepC (runFrom (cs0 p) l) x).did := fun x y => by
      unfold farAt
      rw [mid]
      have : runC p (l ++ [x]) = stepC (runFrom (cs0 p) l) x := by
        show runFrom (cs0 p) (l ++ [x]) = _
        rw [runFrom_app]
        rfl
      rw [this]
    have f2 : ∀ x y, farAt p (l ++ x :: y :: r) (l.length + 2) = (runFrom (runFrom (cs0 p) l) [x, y]).plan.far (runFrom (runFrom (cs0 p) l) [x, y]).did := fun x y => by
      unfold farAt
      have e : (l ++ x :: y :: r).take (l.length + 2) = l ++ [x, y] := by
        rw [List.take_append, List.take_of_length_le (by omega)]
        have : l.length + 2 - l.length = 2 := by omega
        rw [this]
        rfl
      rw [e]
      have : runC p (l ++ [x, y]) = runFrom (runFrom (cs0 p) l) [x, y] := runFrom_app
      rw [this]
    rw [decide_eq_decide]
    rcases Nat.lt_trichotomy i l.length with c | c | c
    · rw [far_early i (by omega), far_early (i + 1) (by omega)]
    · subst c
      rw [f0, f1, f0, f1]
      constructor
      · intro z; exact absurd z (by have k := k5; exact Rat.not_lt.mpr k)
      · intro z; exact absurd z (by have k := k3; exact Rat.not_lt.mpr k)
    · by_cases c2 : i = l.length + 1
      · subst c2
        rw [f1, f2, f1, f2]
        constructor
        · intro z; exact absurd z (by have k := k6; exact Rat.not_lt.mpr k)
        · intro z; exact absurd z (by have k := k4; exact Rat.not_lt.mpr k)
      · rw [far_late i (by omega), far_late (i + 1) (by omega)]
/-! ### small words of the walk -/
def Wide (p q : Rat) : Prop := ∃ m n, m ≤ 50000 ∧ n ≤ 50000 ∧ Lim m p ∧ Lim n q
theorem Wide.cm11 {p q : Rat} (h : Wide p q) : CMulW p.num (q.den : Int) := by
  obtain ⟨m, n, h1, h2, a, b⟩ := h
  exact cm (a.top1 h1) (b.top2 h2)
theorem Wide.cm12 {p q : Rat} (h : Wide p q) : CMulW q.num (p.den : Int) := by
  obtain ⟨m, n, h1, h2, a, b⟩ := h
  exact cm (b.top1 h2) (a.top2 h1)
theorem stand_mem {p : Pl} {ts : List Tel} (h : RunOk p ts) {s : Pl × List (Str × Int)} (m : s ∈ standsL p ts) : CsOk s.1 s.2 := by
  unfold standsL at m
  obtain ⟨i, hi, rfl⟩ := List.mem_map.mp m
  have := List.mem_range.mp hi
  exact run_co h (by omega)
theorem one_len {ts : List Tel} (h : ∀ t ∈ ts, TelOk t) : (oneL ts).length ≤ 39 * ts.length := by
  induction ts with
  | nil => simp [oneL]
  | cons t ts ih =>
    have e : oneL (t :: ts) = oneT t ++ oneL ts := by simp [oneL]
    have b := ih fun x m => h x (List.mem_cons_of_mem _ m)
    have a : (oneT t).length ≤ 39 := by
      have ht := h t List.mem_cons_self
      cases t with
      | did n k =>
        have e0 : oneT (.did n k) = if k < 40 then List.replicate k.toNat (.did n 1) else [.did n k] := rfl
        rw [e0]
        split
        · rw [List.length_replicate]; omega
        · simp
      | knows n k => simp [oneT]
      | found a b c d => simp [oneT]
      | again n => simp [oneT]
    rw [e, List.length_append, List.length_cons]
    omega
theorem one_snoc {ts : List Tel} {t : Tel} : oneL (ts ++ [t]) = oneL ts ++ oneT t := by simp [oneL]
theorem one_next {ts : List Tel} {i : Nat} {t : Tel} (h : ts[i]? = some t) : oneL (ts.take (i + 1)) = oneL (ts.take i) ++ oneT t := by
  rw [List.take_add_one, h]
  exact one_snoc
theorem rep_one {t : Tel} {k : Int} : repL [t] k = List.replicate k.toNat t := by
  unfold repL
  induction k.toNat with
  | zero => rfl
  | succ n ih => rw [List.replicate_succ, List.flatten_cons, ih, List.replicate_succ]; rfl
theorem did_is {t : Tel} (h : t.isDid = true) : ∃ n k, t = .did n k := by
  cases t with
  | did n k => exact ⟨n, k, rfl⟩
  | _ => simp [Tel.isDid] at h
theorem two_split {ts : List Tel} {i : Nat} {a b : Tel} (ha : ts[i]? = some a) (hb : ts[i + 1]? = some b) : ts = ts.take i ++ a :: b :: ts.drop (i + 2) := by
  obtain ⟨l1, e1⟩ := List.getElem?_eq_some_iff.mp ha
  obtain ⟨l2, e2⟩ := List.getElem?_eq_some_iff.mp hb
  conv => lhs; rw [← List.take_append_drop i ts]
  rw [List.drop_eq_getElem_cons l1, List.drop_eq_getElem_cons l2, e1, e2]
theorem shown_snoc' {p : Pl} {ts : List Tel} {i : Nat} {t : Tel} (h : ts[i]? = some t) : shownL p (ts.take (i + 1)) = shownL p (ts.take i) ++ [shownNext (runC p (ts.take i)).shown (farAt p ts i) (farAt p ts (i + 1))] := by
  have lt := (List.getElem?_eq_some_iff.mp h).1
  rw [shown_snoc h, ← shown_step lt, runC_next h]
theorem ne_of_iff {p q : Prop} [Decidable p] [Decidable q] (h : p ↔ q) : (decide p != decide q) = false := by
  by_cases c : p
  · rw [decide_eq_true c, decide_eq_true (h.mp c)]; rfl
  · rw [decide_eq_false c, decide_eq_false (fun z => c (h.mpr z))]; rfl
end Hf

namespace Hf
open PySem PySem.Spec PyProof.Rows L2 ClX
/-! ### the time left: plain -/
def pk (a : Int × Int) (w : Int) : Int := if w = 0 then a.1 else a.2
def pg (pc : List (Str × (Int × Int))) (n : Str) : Int × Int := (dGet pc n).getD (0, 0)
def togV (row : Bool) (ts : List Int) : Int := if row = true then ts.sum else maxL ts
namespace Pl
mutual
def leftV (did : List (Str × Int)) (pc : List (Str × (Int × Int))) (wh : Int) : Pl → Option Int
  | .leaf n s => match s with
    | none => none
    | some m => some ((m - dg did n) * pk (pg pc n) wh)
  | .lot r _ ps => if ((leftsV did pc wh ps).any fun o => o.isNone) = true then none else some (togV r ((leftsV did pc wh ps).map fun o => o.getD 0))
def leftsV (did : List (Str × Int)) (pc : List (Str × (Int × Int))) (wh : Int) : List (Int × Pl) → List (Option Int)
  | [] => []
  | (_, w) :: ps => leftV did pc wh w :: leftsV did pc wh ps
end
theorem leftsV_map {did : List (Str × Int)} {pc : List (Str × (Int × Int))} {wh : Int} : ∀ ps : List (Int × Pl), leftsV did pc wh ps = ps.map fun q : Int × Pl => leftV did pc wh q.2
  | [] => by simp only [leftsV, List.map_nil]
  | (i, w) :: ps => by simp only [leftsV, List.map_cons]; rw [leftsV_map ps]
end Pl
def PaceOk (a : Int × Int) : Prop := (0 ≤ a.1 ∧ a.1 ≤ 1000) ∧ 0 ≤ a.2 ∧ a.2 ≤ 1000
structure LeftOk (w : Pl) (did : List (Str × Int)) (pc : List (Str × (Int × Int))) : Prop where
  fit : w.Fit
  cnt : CntOk did w
  few : w.names.length ≤ 20
  pace : ∀ l ∈ w.leaves, ∃ a, dGet pc l.name = some a ∧ PaceOk a
theorem leaves_of_part {w : Pl} {q : Int × Pl} (m : q ∈ w.parts) {l : Pl} (h : l ∈ q.2.leaves) : l ∈ w.leaves := by
  have hl : w.isLeaf = false := by
    cases w with
    | leaf n s => simp [Pl.parts] at m
    | lot r n ps => rfl
  rw [leaves_eq w hl, Pl.leavess_eq]
  exact List.mem_flatMap.mpr ⟨q, m, h⟩
theorem LeftOk.part {w : Pl} {did : List (Str × Int)} {pc : List (Str × (Int × Int))} (h : LeftOk w did pc) {q : Int × Pl} (m : q ∈ w.parts) : LeftOk q.2 did pc :=
  ⟨fit_part h.fit m, h.cnt.part m, Nat.le_trans (names_sub m).length_le h.few, fun l hl => h.pace l (leaves_of_part m hl)⟩
theorem left_leaf {w : Pl} {did : List (Str × Int)} {pc : List (Str × (Int × Int))} {wh : Int} (hl : w.isLeaf = true) (hs : w.steps.isNone = false) : Pl.leftV did pc wh w = some ((w.steps.getD 0 - (dGet did w.name).getD 0) * pk (pg pc w.name) wh) := by
  cases w with
  | leaf n s =>
    cases s with
    | none => simp [Pl.steps] at hs
    | some m => simp only [Pl.leftV]; rfl
  | lot r n ps => simp [Pl.isLeaf] at hl
theorem left_leaf0 {w : Pl} {did : List (Str × Int)} {pc : List (Str × (Int × Int))} {wh : Int} (hl : w.isLeaf = true) (hs : w.steps.isNone = true) : Pl.leftV did pc wh w = none := by
  cases w with
  | leaf n s =>
    cases s with
    | none => simp only [Pl.leftV]
    | some m => simp [Pl.steps] at hs
  | lot r n ps => simp [Pl.isLeaf] at hl
theorem left_lot {w : Pl} {did : List (Str × Int)} {pc : List (Str × (Int × Int))} {wh : Int} (hl : w.isLeaf = false) : Pl.leftV did pc wh w = if ((w.parts.map fun q : Int × Pl => Pl.leftV did pc wh q.2).any fun o => o.isNone) = true then none else some (togV w.isRow ((w.parts.map fun q : Int × Pl => Pl.leftV did pc wh q.2).map fun o => o.getD 0)) := by
  obtain ⟨r, n, ps, rfl⟩ := lot_of hl
  simp only [Pl.leftV, Pl.leftsV_map]
  have : (Pl.lot r n ps).isRow = r := by cases r <;> rfl
  rw [this]
  rfl
theorem left_size {w : Pl} {did : List (Str × Int)} {pc : List (Str × (Int × Int))} {wh : Int} (h : LeftOk w did pc) (hl : w.isLeaf = true) (hs : w.steps.isNone = false) : (-(2 ^ 64) < pk (pg pc w.name) wh ∧ pk (pg pc w.name) wh < 2 ^ 64) ∧ dGet pc w.name = some (pg pc w.name) := by
  obtain ⟨a, e, ⟨h1, h2⟩, h3, h4⟩ := h.pace w (by rw [leaves_leaf hl]; exact List.mem_cons_self)
  have e2 : pg pc w.name = a := by unfold pg; rw [e]; rfl
  rw [e2, e]
  refine ⟨?_, rfl⟩
  unfold pk
  split <;> omega
def leftT (p : Pl) (did : List (Str × Int)) (pc : List (Str × (Int × Int))) : Option (Int × Int) :=
  if (Pl.leftV did pc 0 p).isNone = true then none else some ((Pl.leftV did pc 0 p).getD 0, (Pl.leftV did pc 1 p).getD 0)
def isPaceB (a : Int × Int) : Bool := isNum a.1 0 1000 && isNum a.2 a.1 1000
structure PacesOk (p : Pl) (pc : List (Str × (Int × Int))) : Prop where
  len : pc.length = p.leaves.length
  pace : ∀ l ∈ p.leaves, ∃ a, dGet pc l.name = some a ∧ isPaceB a = true
theorem pace_ok {a : Int × Int} (h : isPaceB a = true) : PaceOk a := by
  simp only [isPaceB, isNum, Bool.and_eq_true, decide_eq_true_eq] at h
  exact ⟨by omega, by omega⟩
theorem left_none : ∀ {p : Pl} {did : List (Str × Int)} {pc : List (Str × (Int × Int))} {a b : Int}, (Pl.leftV did pc a p).isNone = (Pl.leftV did pc b p).isNone := fun {p did pc a b} => by
  have key : ∀ (k : Nat) (p : Pl), p.depth ≤ k → (Pl.leftV did pc a p).isNone = (Pl.leftV did pc b p).isNone := fun k => by
    induction k with
    | zero => intro p h; have := Pl.depth_pos p; omega
    | succ k ih =>
      intro p hd
      cases hl : p.isLeaf with
      | true =>
        cases hs : p.steps.isNone with
        | true => rw [left_leaf0 hl hs, left_leaf0 hl hs]
        | false => rw [left_leaf hl hs, left_leaf hl hs]; rfl
      | false =>
        rw [left_lot hl, left_lot hl]
        have e : ((p.parts.map fun q : Int × Pl => Pl.leftV did pc a q.2).any fun o => o.isNone) = ((p.parts.map fun q : Int × Pl => Pl.leftV did pc b q.2).any fun o => o.isNone) := by
          rw [List.any_map, List.any_map]
          refine Bool.eq_iff_iff.mpr ⟨fun h => ?_, fun h => ?_⟩
          · obtain ⟨q, hq, z⟩ := List.any_eq_true.mp h
            exact List.any_eq_true.mpr ⟨q, hq, by simp only [Function.comp] at z ⊢; rw [← ih q.2 (by have := Pl.part_depth hq; omega)]; exact z⟩
          · obtain ⟨q, hq, z⟩ := List.any_eq_true.mp h
            exact List.any_eq_true.mpr ⟨q, hq, by simp only [Function.comp] at z ⊢; rw [ih q.2 (by have := Pl.part_depth hq; omega)]; exact z⟩
        rw [e]
        split <;> rfl
  exact key p.depth p (Nat.le_refl _)
/-! ### small rules -/
section
variable {X : Cx} {E : Ent} {Γ Γ' : List Slot} {D : Ends} {e f g o : Expr} {es : List Expr} {rest : List Stmt} {pos p p2 apos cpos : Pos} {α β γ : Type} {r : Rp α} {x : α} {s : Rp β} {y : β} {as : List α} {j k : Nat}
/-- all are some -/
theorem all2_some {G : Hp} {d : α} : ∀ {vs : List V} {os : List (Option α)}, All2 (rOpt r) G vs os → (os.any fun o => o.isNone) = false → All2 r G vs (os.map fun o => o.getD d)
  | _, _, .nil, _ => .nil
  | _, _, .cons (a := o) h t, hn => by
    rw [List.any_cons, Bool.or_eq_false_iff] at hn
    cases o with
    | none => simp at hn
    | some a => exact .cons h (all2_some t hn.2)
theorem ev_unopts {os : List (Option α)} {d : α} (hn : (os.any fun o => o.isNone) = false) (h : Ev X Γ e (rLst (rOpt r)) os) : Ev X Γ e (rLst r) (os.map fun o => o.getD d) := fun E G H σ hh Q q => h E G H σ hh Q fun v G' H' l ⟨p, vs, h1, h2, h3⟩ => q v G' H' l ⟨p, vs, h1, h2, all2_some h3 hn⟩
theorem inV_non {G : Hp} : ∀ {vs : List V} {os : List (Option Int)}, All2 (rOpt rInt) G vs os → vs.all flatV = true ∧ inV .non vs = os.any fun o => o.isNone
  | _, _, .nil => ⟨rfl, rfl⟩
  | _, _, .cons (v := v) (vs := vs) (a := o) h t => by
    obtain ⟨a, b⟩ := inV_non t
    cases o with
    | none =>
      have e : v = .non := h
      subst e
      refine ⟨by rw [List.all_cons, a]; rfl, ?_⟩
      show (eqV .non .non || inV .non vs) = _
      rw [b]
      rfl
    | some i =>
      have e : v = .int i := h
      subst e
      refine ⟨by rw [List.all_cons, a]; rfl, ?_⟩
      show (eqV (.int i) .non || inV .non vs) = _
      rw [b]
      rfl
theorem gv_inN {os : List (Option Int)} : Gives (rIn X.K false) rNon () (rLst (rOpt rInt)) os rBool (os.any fun o => o.isNone) := fun G H a b e h1 ⟨p, vs, e2, hp, ha⟩ Q q => by
  have e1 : a = .non := h1
  subst e1
  obtain ⟨fl, iv⟩ := inV_non ha
  exact ⟨p, _, e2, .inl (.inl (.inl (e _ _ hp))), rfl, fl, by rw [iv]; exact q _ G H (.refl e) rfl⟩
theorem et_inN {os : List (Option Int)} (ha : Ev X Γ e rNon ()) (hb : Ev X Γ f (rLst (rOpt rInt)) os) (hm : behindInMarks .In f = false := by rfl) : EvT X Γ (.Compare e [.In] [f] pos) (os.any fun o => o.isNone) := et_cmpR op_in_seq ha hb gv_inN hm
/-- pair[i], i told -/
theorem ev_t2ix {a : Int × Int} {i : Int} (h : Ev X Γ e (rT2 X.K rInt rInt) a) (hi : Ev X Γ f rInt i) (h01 : i = 0 ∨ i = 1) (hs : PlainIx f := by exact plain_of rfl) : Ev X Γ (.Subscript e f pos) rInt (pk a i) := fun E G H σ hh Q q =>
  WE.of (pe_ix ix_tup WE.pe WE.pe hs) (h E G H σ hh _ fun v G1 H1 l1 ⟨p, v1, v2, e1, hp, h1, h2⟩ => hi E G1 H1 σ (hh.step l1) _ fun w G2 H2 l2 r2 => by
    have e2 : w = .int i := r2
    subst e2
    have h1' : v1 = .int a.1 := h1
    have h2' : v2 = .int a.2 := h2
    subst h1' h2'
    rcases h01 with z | z
    · subst z
      exact ⟨p, _, 0, _, e1, rfl, Evl.ex_t l2.h (Evl.ex_t l1.gh hp), rfl, q _ G2 H2 (l1.trans l2) rfl⟩
    · subst z
      exact ⟨p, _, 1, _, e1, rfl, Evl.ex_t l2.h (Evl.ex_t l1.gh hp), rfl, q _ G2 H2 (l1.trans l2) rfl⟩)
/-- {k: x}, {k: x, l: y} -/
theorem kv_put {G : Hp} {kvs : List (Key × V)} {ds : List (Str × α)} {n : Str} {v : V} (h : KvAt r G kvs ds) (hv : r.rel G v x) : KvAt r G (putK kvs (.inr n) v) (dPut ds n x) := h.put hv
theorem eo_disp1 {n : Str} {i1 : Nat} {q1 : Pos} (h1 : Ev X Γ e r x) : EvO X Γ (.Dict [some (.Constant (.str n) i1 q1)] [e] pos) (oDic r (dPut [] n x)) := fun E G H σ hh Q q =>
  WE.of (pe_disp (pps_cons pe_str WE.pe pps_nil) rfl rfl (by simp) (by simp)) fun p np => by
    have l0 : Le G H G (upd H p (.dK [])) := (Le.refl hh.le.gh).addO np
    have gp : G p = none := Evl.fresh_back hh.le.gh np
    refine h1 E G _ σ (hh.step l0) _ fun v G1 H1 l1 r1 => ?_
    have hp : H1 p = some (.dK []) := l1.h _ _ upd_same
    have gp1 : G1 p = none := by
      cases z : G1 p with
      | none => rfl
      | some u => have := l1.new p u z gp; rw [upd_same] at this; cases this
    refine ⟨hp, [(.inr n, v)], rfl, by simp, ?_⟩
    have e2 : mergeK [] [((Sum.inr n : Key), v)] = putK [] (.inr n) v := rfl
    rw [e2]
    refine q p _ G1 _ np ?_ gp1 upd_same ⟨_, rfl, (KvAt.nil.put (r := r) (a := x) r1)⟩
    refine ⟨l0.g.trans l1.g, fun a u z => ?_, fun a u z => ?_, fun a u z1 z2 => ?_⟩
    · have ne : a ≠ p := fun w => by subst w; rw [np] at z; cases z
      rw [upd_ne ne]
      exact l1.h _ _ (by rw [upd_ne ne]; exact z)
    · have ne : a ≠ p := fun w => by subst w; rw [gp1] at z; cases z
      rw [upd_ne ne]
      exact l1.gh _ _ z
    · have := l1.new a u z1 z2
      by_cases w : a = p
      · subst w; exact np
      · rw [upd_ne w] at this; exact this
theorem eo_disp2 {n m : Str} {x2 : α} {i1 i2 : Nat} {q1 q2 : Pos} (h1 : Ev X Γ e r x) (h2 : Ev X Γ f r x2) : EvO X Γ (.Dict [some (.Constant (.str n) i1 q1), some (.Constant (.str m) i2 q2)] [e, f] pos) (oDic r (dPut (dPut [] n x) m x2)) := fun E G H σ hh Q q =>
  WE.of (pe_disp (pps_cons pe_str WE.pe (pps_cons pe_str WE.pe pps_nil)) rfl rfl (by simp) (by simp)) fun p np => by
    have l0 : Le G H G (upd H p (.dK [])) := (Le.refl hh.le.gh).addO np
    have gp : G p = none := Evl.fresh_back hh.le.gh np
    refine h1 E G _ σ (hh.step l0) _ fun v G0 H0 l1 r1 => h2 E G0 H0 σ ((hh.step l0).step l1) _ fun v2 G1 H1 l2 r2 => ?_
    have l12 := l1.trans l2
    have hp : H1 p = some (.dK []) := l12.h _ _ upd_same
    have gp1 : G1 p = none := by
      cases z : G1 p with
      | none => rfl
      | some u => have := l12.new p u z gp; rw [upd_same] at this; cases this
    refine ⟨hp, [(.inr n, v), (.inr m, v2)], rfl, by simp, ?_⟩
    have e2 : mergeK [] [((Sum.inr n : Key), v), ((Sum.inr m : Key), v2)] = putK (putK [] (.inr n) v) (.inr m) v2 := rfl
    rw [e2]
    refine q p _ G1 _ np ?_ gp1 upd_same ⟨_, rfl, ((KvAt.nil.put (r := r) (a := x) (r.mono l2.g r1)).put r2)⟩
    refine ⟨l0.g.trans l12.g, fun a u z => ?_, fun a u z => ?_, fun a u z1 z2 => ?_⟩
    · have ne : a ≠ p := fun w => by subst w; rw [np] at z; cases z
      rw [upd_ne ne]
      exact l12.h _ _ (by rw [upd_ne ne]; exact z)
    · have ne : a ≠ p := fun w => by subst w; rw [gp1] at z; cases z
      rw [upd_ne ne]
      exact l12.gh _ _ z
    · have := l12.new a u z1 z2
      by_cases w : a = p
      · subst w; exact np
      · rw [upd_ne w] at this; exact this
end
/-! ### four names from a list -/
def rL4 : Rp (Int × Int × Int × Int) := ⟨fun G v a => (rLst rInt).rel G v [a.1, a.2.1, a.2.2.1, a.2.2.2], fun e h => (rLst rInt).mono e h⟩
end Hf

namespace Hf
open PySem PySem.Spec PyProof.Rows L2 ClX
/-! ### enumerate over a dict that is locked -/
section
variable {prog : Program} {w : World} {A : Around} {E : Value → Shared → Prop} {s : Shared}
theorem nextOf_key_item {it d : Addr} {i n ep : Nat} {od : Obj} {es : Array DictEntry} {en : DictEntry} {Q : Value → Shared → Prop} (hit : s.heap.IsKeyIter it d i n ep) (hod : s.heap.get? d = some od) (hdd : od.data = .dict es ep)
    (hsz : es.size = n) (hx : es[i]? = some en) (hQ : ∀ h', h'.IsKeyIter it d (i + 1) n ep → Heap.SameBut it s.heap h' → Q en.key { s with heap := h' }) : wpAny (model prog w) A (Builtin.SmallTypes.nextOf (.ref it)) Q E s := by
  obtain ⟨o, ho, hc, hd⟩ := id hit
  unfold Builtin.SmallTypes.nextOf
  refine wpAny_bind (wpAny_callSpecial?_slot (name := Str.ofString "__next__") hit.typeIs F.slot_dict_keyiterator_next
    (wpAny_call_entry F.slot_dict_keyiterator_next hit.typeIs F.entry_dict_keyiterator_next ?_ (F.args_dict_keyiterator_next_1 _)))
  refine wpAny_bind (wpAny_pure ?_)
  refine wpAny_bind ?_
  refine wpAny_bind ?_
  first | refine wpAny_bind (wpAny_typeNameOfWhole_keyiter hit.typeIs (wpAny_pure ?_)) | refine wpAny_bind (wpAny_typeNameOf_keyiter hit.typeIs (wpAny_pure ?_))
  refine wpAny_bind (wpAny_fieldsOf ho hd ?_)
  have hown : Builtin.Dict_items.ownsTuple "dict_keyiterator" = false := by decide
  simp only [hown, Bool.false_eq_true, if_false]
  show wpAny _ _ (if (Value.ref d == Value.none) = true then _ else _) _ _ s
  rw [if_neg (show ¬ ((Value.ref d == Value.none) = true) from Bool.false_ne_true)]
  refine wpAny_bind (wpAny_pure ?_)
  refine wpAny_bind (wpAny_dictEntries hod hdd ?_)
  rw [if_neg (by rw [hsz]; simp)]
  refine wpAny_bind (wpAny_pure ?_)
  refine wpAny_bind (wpAny_dictEpoch hod hdd ?_)
  rw [if_neg (by simp)]
  refine wpAny_pure ?_
  obtain ⟨hlt', hen⟩ := Array.getElem?_eq_some_iff.mp hx
  simp only [show ¬ ((i : Int) < 0) from by omega, if_false, Int.toNat_natCast, Array.getElem?_eq_getElem hlt']
  refine wpAny_bind ?_
  first | refine wpAny_bind (wpAny_typeNameOfWhole_keyiter hit.typeIs (wpAny_pure ?_)) | refine wpAny_bind (wpAny_typeNameOf_keyiter hit.typeIs (wpAny_pure ?_))
  refine wpAny_bind (wpAny_isOneOf_keyiter hit.typeIs ?_)
  show wpAny _ _ (setField (.ref it) 1 (rawInt ((i : Int) + 1)) >>= _) _ _ s
  refine wpAny_bind (wpAny_setField ho hd (by simp) ?_)
  have hit' : (s.heap.update it (Obj.mapFields (·.setIfInBounds 1 (rawInt ((i : Int) + 1))))).IsKeyIter it d (i + 1) n ep :=
    ⟨_, Heap.get?_update_self _ ho (Obj.isFreed_of_fields (Obj.data_mapFields hd _)), (Obj.cls_mapFields ..).trans hc, by rw [Obj.data_mapFields hd]; simp [rawInt]⟩
  refine wpAny_bind (wpAny_holding ?_)
  refine wpAny_bind (wpAny_isOneOf_keyiter (s := { s with heap := s.heap.update it (Obj.mapFields (·.setIfInBounds 1 (rawInt ((i : Int) + 1)))) }) hit'.typeIs ?_)
  show wpAny _ _ (pure es[i].key) _ _ _
  rw [hen]
  exact wpAny_pure (wpAny_pure ⟨_, rfl, wpAny_pure (hQ _ hit' (Heap.SameBut.update ..))⟩)
theorem nextOf_key_end {it d : Addr} {i n ep : Nat} {od : Obj} {es : Array DictEntry} {Q : Value → Shared → Prop} (hh : A.handled = none) (hit : s.heap.IsKeyIter it d i n ep) (hod : s.heap.get? d = some od) (hdd : od.data = .dict es ep)
    (hsz : es.size = n) (hge : n ≤ i) (hE : ∀ h' e, Heap.ExtBut it s.heap h' → (∃ o, h'.get? e = some o ∧ o.cls = .type "StopIteration") → E (.ref e) { s with heap := h' }) : wpAny (model prog w) A (Builtin.SmallTypes.nextOf (.ref it)) Q E s := by
  obtain ⟨o, ho, hc, hd⟩ := id hit
  unfold Builtin.SmallTypes.nextOf
  refine wpAny_bind (wpAny_callSpecial?_slot (name := Str.ofString "__next__") hit.typeIs F.slot_dict_keyiterator_next
    (wpAny_call_entry F.slot_dict_keyiterator_next hit.typeIs F.entry_dict_keyiterator_next ?_ (F.args_dict_keyiterator_next_1 _)))
  refine wpAny_bind (wpAny_pure ?_)
  refine wpAny_bind ?_
  refine wpAny_bind ?_
  first | refine wpAny_bind (wpAny_typeNameOfWhole_keyiter hit.typeIs (wpAny_pure ?_)) | refine wpAny_bind (wpAny_typeNameOf_keyiter hit.typeIs (wpAny_pure ?_))
  refine wpAny_bind (wpAny_fieldsOf ho hd ?_)
  have hown : Builtin.Dict_items.ownsTuple "dict_keyiterator" = false := by decide
  simp only [hown, Bool.false_eq_true, if_false]
  show wpAny _ _ (if (Value.ref d == Value.none) = true then _ else _) _ _ s
  rw [if_neg (show ¬ ((Value.ref d == Value.none) = true) from Bool.false_ne_true)]
  refine wpAny_bind (wpAny_pure ?_)
  refine wpAny_bind (wpAny_dictEntries hod hdd ?_)
  rw [if_neg (by rw [hsz]; simp)]
  refine wpAny_bind (wpAny_pure ?_)
  refine wpAny_bind (wpAny_dictEpoch hod hdd ?_)
  rw [if_neg (by simp)]
  refine wpAny_pure ?_
  have hge' : es.size ≤ i := by rw [hsz]; exact hge
  simp only [show ¬ ((i : Int) < 0) from by omega, if_false, Int.toNat_natCast, Array.getElem?_eq_none hge']
  refine wpAny_bind ?_
  first | refine wpAny_bind (wpAny_typeNameOfWhole_keyiter hit.typeIs (wpAny_pure ?_)) | refine wpAny_bind (wpAny_typeNameOf_keyiter hit.typeIs (wpAny_pure ?_))
  show wpAny _ _ (setField (.ref it) 0 .none >>= _) _ _ s
  refine wpAny_bind (wpAny_setField ho hd (by simp) ?_)
  show wpAny _ _ (newExc (.type "StopIteration") [] >>= _) _ _ _
  refine wpAny_bind ?_
  simp only [newExc, newTuple]
  refine wpAny_bind (wpAny_newObj_type ?_ (by size_fits))
  refine wpAny_bind (m := firstArgMember _ _) (wpAny_of_eq (a := Value.none) (by first | rfl | (simp only [firstArgMember]; rfl)) ?_)
  refine wpAny_newObj_type ?_ (by size_fits)
  simp only [raiseNew]
  refine wpAny_bind (wpAny_handled ?_)
  first | rw [show A.in1.handled = none from hh] | rw [hh]
  refine wpAny_bind (wpAny_pure (wpAny_throw ?_))
  exact hE _ _ (((Heap.SameBut.update ..).extBut.push _).push _) ⟨_, Heap.get?_push_size _ rfl, rfl⟩
theorem draws_keys (hh : A.handled = none) (it d : Addr) (hne : d ≠ it) {od : Obj} {es : Array DictEntry} {ep : Nat} (hdd : od.data = .dict es ep) :
    Draws prog w A it [it, d] es.size (fun i v => ∃ en : DictEntry, es[i]? = some en ∧ v = en.key) (fun i h => h.IsKeyIter it d i es.size ep ∧ h.get? d = some od) where
  live := fun _ _ st => let ⟨o, ho, _⟩ := st.1; ⟨o, ho⟩
  frame := fun _ _ _ st hk => ⟨st.1.at fun o e => hk it (by simp) o e, hk d (by simp) _ st.2⟩
  item := fun i s Q E hi st hQ => by
    refine nextOf_key_item st.1 st.2 hdd rfl (en := es[i]) (by simp [hi]) fun h' hit' hs' => ?_
    exact hQ _ h' s.toks ⟨_, by simp [hi], rfl⟩ ⟨hit', (hs'.2 d hne).trans st.2⟩ hs'
  done := fun s Q E st hE => nextOf_key_end hh st.1 st.2 hdd rfl (Nat.le_refl _) hE
set_option maxHeartbeats 1000000 in
theorem meets_enumerate_newK (v : Value) (o : Obj) (H : Heap → Prop) (B : Begins v o H) :
    Meets (Builtin.«enumerate.__new__» ⟨[.type "enumerate", v], []⟩) (fun _ R s => H s.heap ∧
      R (.ok (.ret (.ref (s.heap.push o).objs.size))) { s with heap := (s.heap.push o).push { cls := .type "enumerate", data := .fields #[.none, .bool false, .ref s.heap.objs.size, rawInt 0, .none, .none] } }) :=
  .of_wp fun prog w A R s h => by
    obtain ⟨hp, g, d, tk, os⟩ := s; obtain ⟨h1, h⟩ := h
    have hsub := sub_enumerate
    have q1 : ∀ {A' : Around} {E : Value → Shared → Prop} {Q : Value → Shared → Prop}, Q (.ref hp.objs.size) ⟨hp.push o, g, d, tk, os⟩ → wpAny (model prog w) A' (pyIter v) Q E ⟨hp, g, d, tk, os⟩ :=
      fun q => B.iter prog w _ _ ⟨hp, g, d, tk, os⟩ _ h1 q
    wp_walk using q1
    refine wpAny_stack_any fun st => wpAny_pure ?_
    split
    · rename_i c _ _ _ _ _
      cases (c == Value.type "enumerate")
      · wp_walk using q1
        exact ⟨_, rfl, h⟩
      · wp_walk using q1
        exact ⟨_, rfl, h⟩
    · wp_walk using q1
      exact ⟨_, rfl, h⟩
theorem begins_keys {d : Addr} (hd : (d == sysModules) = false) (o : Obj) (hx : o.ExactDict) {es : Array DictEntry} {ep : Nat} (hdat : o.data = .dict es ep) :
    Begins (.ref d) { cls := .type "dict_keyiterator", data := .fields #[.ref d, .int 0 0, .int es.size 0, .int ep 0] } fun h => h.get? d = some o where
  iter := fun prog w A E s Q ho h => iter_keys hd ho hx hdat h
  keeps := fun h h' x hk => hk d o x
  free := rfl
theorem call_enumerate_keys {d : Addr} {o : Obj} {es : Array DictEntry} {ep : Nat} {Q : Value → Shared → Prop} (hd : (d == sysModules) = false) (ho : s.heap.get? d = some o) (hx : o.ExactDict) (hdat : o.data = .dict es ep)
    (h : ∀ h', IsEnum h' (s.heap.objs.size + 1) s.heap.objs.size 0 .none → h'.IsKeyIter s.heap.objs.size d 0 es.size ep → h'.objs.size = s.heap.objs.size + 2 →
      (∀ b o, s.heap.get? b = some o → h'.get? b = some o) → Q (.ref (s.heap.objs.size + 1)) { s with heap := h' }) :
    wpAny (model prog w) A (call (.type "enumerate") [.ref d]) Q E s := by
  refine callType_new F.called_enumerate (by decide) (F.typeCall_enumerate_1 _) (F.newCall_enumerate_1 _) (fun obj => F.args_object_init_2 obj _) F.entry_enumerate_new
    (meets_enumerate_newK _ _ _ (begins_keys hd o hx hdat)) ⟨ho, ?_⟩
  have hz : (s.heap.push { cls := .type "dict_keyiterator", data := .fields #[.ref d, .int 0 0, .int es.size 0, .int ep 0] }).objs.size = s.heap.objs.size + 1 := Heap.size_push ..
  show _ ∧ _
  rw [hz]
  have he : IsEnum ((s.heap.push { cls := .type "dict_keyiterator", data := .fields #[.ref d, .int 0 0, .int es.size 0, .int ep 0] }).push
      { cls := .type "enumerate", data := .fields #[.none, .bool false, .ref s.heap.objs.size, rawInt 0, .none, .none] }) (s.heap.objs.size + 1) s.heap.objs.size 0 .none := by
    have := Heap.get?_push_size (s.heap.push { cls := .type "dict_keyiterator", data := .fields #[.ref d, .int 0 0, .int es.size 0, .int ep 0] })
      (o := { cls := .type "enumerate", data := .fields #[.none, .bool false, .ref s.heap.objs.size, rawInt 0, .none, .none] }) rfl
    rw [hz] at this; exact this
  refine ⟨⟨_, he, rfl⟩, h _ he ⟨_, Heap.get?_push_of_some _ (Heap.get?_push_size _ rfl), rfl, rfl⟩ (by rw [Heap.size_push, hz]) fun b o y => Heap.get?_push_of_some _ (Heap.get?_push_of_some _ y)⟩
theorem wpAny_pyNext_enum_endK {e it d : Addr} {i n ep : Nat} {c : Int} {old : Value} {od : Obj} {es : Array DictEntry} {Q : Option Value → Shared → Prop} (hh : A.handled = none) (hdd : od.data = .dict es ep) (he : IsEnum s.heap e it c old) (hit : s.heap.IsKeyIter it d i n ep) (hod : s.heap.get? d = some od)
    (hsz : es.size = n) (hge : n ≤ i) (hQ : ∀ h', Heap.ExtBut it s.heap h' → Q none { s with heap := h' }) : wpAny (model prog w) A (pyNext (.ref e)) Q E s := by
  have hT : s.TypeIs (.ref e) "enumerate" := ⟨_, he, rfl⟩
  unfold pyNext
  refine wpAny_bind (wpAny_attempt (wpAny_callSpecial?_slot (name := Str.ofString "__next__") hT F.slot_enumerate_next
    (wpAny_call_entry F.slot_enumerate_next hT F.entry_enumerate_next ?_ (F.args_enumerate_next_1 _))))
  show wpAny _ _ (field (.ref e) 2 >>= _) _ _ _
  refine wpAny_bind (wpAny_field he rfl (x := .ref it) rfl ?_)
  refine wpAny_bind (nextOf_key_end (show A.in1.handled = none from hh) hit hod hdd hsz hge fun h' x he' hx' => ?_)
  obtain ⟨o, ho, hc⟩ := hx'
  refine wpAny_bind (wpAny_isInstance (T := "StopIteration") (b := true) ⟨o, ho, hc⟩ isSubtype_stop ?_)
  exact wpAny_pure (hQ _ he')
end
/-- the keys of the locked dict at d, each with its number in a new pair -/
def Itke (d : Addr) (o : Obj) (kvs : List (Key × V)) : It :=
  ⟨fun i H => H d = some (.frz o (.dK kvs)) ∧ i < kvs.length, fun i H v H' => ∃ T k x, kvs[i]? = some (k, x) ∧ v = .ref T ∧ H T = none ∧ H' = upd H T (.tup [.int (i : Nat), kV k]), fun i H => H d = some (.frz o (.dK kvs)) ∧ kvs.length ≤ i⟩
theorem keyOfPairs {X : Cx} {pins : List (Addr × Obj)} {σ : L2.St} {H : Hp} {s : Shared} {d : Addr} {o : Obj} {kvs : List (Key × V)} (I : Inv X pins σ H s) (h : H d = some (.frz o (.dK kvs))) {es : Array DictEntry} {ep : Nat} (hdt : o.data = .dict es ep) {i : Nat} {en : DictEntry} (he : es[i]? = some en) : ∃ k v, kvs[i]? = some (k, v) ∧ RelV (kV k) en.key := by
  obtain ⟨hd, z, hs, vs, kv, o', es', ep', ho, hx, hdt', _, hp, _⟩ := I.hok d _ h
  rw [hd] at ho
  cases ho
  obtain ⟨rfl, rfl⟩ := dict_ep hdt hdt'
  have l1 := hp.length
  have l2 : kvs.length = vs.length := Paired.length kv
  rw [Array.length_toList] at l1
  obtain ⟨lt, _⟩ := Array.getElem?_eq_some_iff.mp he
  obtain ⟨⟨k, v⟩, hkv⟩ : ∃ p, kvs[i]? = some p := ⟨kvs[i]'(by omega), List.getElem?_eq_getElem (by omega)⟩
  obtain ⟨u, hu, ru⟩ := kv_get kv hkv
  exact ⟨k, v, hkv, relV_key (show keyIs k en.key = true from (hp.get? (e := en) (by rw [Array.getElem?_toList]; exact he) hu).1)⟩
theorem turn_enumK {P : Program} {w : World} {K : PySem.W.Frag} {elts : List Expr} {kk : Nat} {tpos : Pos} {d e it : Addr} {o : Obj} {es : Array DictEntry} {ep : Nat} {kvs : List (Key × V)} (hod : o.data = .dict es ep) :
    Turn P w K (.Tuple elts kk tpos) (Itke d o kvs) [e, it] e (fun i h => (∃ old, IsEnum h e it ((i : Nat) : Int) old) ∧ h.IsKeyIter it d i kvs.length ep ∧ e ≠ it ∧ e ≠ d ∧ d ≠ it) where
  mem := by simp
  obj := fun i h st b hb => by
    obtain ⟨⟨old, he⟩, ⟨o, ho, hc, hd⟩, _⟩ := st
    have e' : b = e ∨ b = it := by simpa using hb
    rcases e' with z | z
    · rw [z]; exact ⟨_, he, fun v q => nomatch q⟩
    · rw [z]; exact ⟨o, ho, fun v q => by rw [hd] at q; cases q⟩
  keep := fun i h h' st k => let ⟨⟨old, he⟩, hi, hne⟩ := st; ⟨⟨old, k e (by simp) _ he⟩, hi.at fun o q => k it (by simp) o q, hne⟩
  item := by
    intro X hP hw hK hc i pins s σ H E I hf st hg
    subst hP hw hK
    obtain ⟨⟨old, he⟩, hit, hne, hed, hdi⟩ := st
    obtain ⟨hd, hi⟩ := hg
    obtain ⟨hs, hgd, hx, es', ep', vs, hdt, hsz, kv, hm⟩ := I.frzK hd
    obtain ⟨rfl, rfl⟩ := dict_ep hod hdt
    have hel : e < s.heap.objs.size := Heap.lt_size he
    have hil : it < s.heap.objs.size := by obtain ⟨_, q, _⟩ := hit; exact Heap.lt_size q
    have hef : e ∉ [it, d] := by simp [hne, hed]
    rw [← hsz] at hit hi
    refine wpAny_pyNext_enum_itemD (draws_keys (show X.A.in1.handled = none from I.ok.hd hc) it d hdi hod) he ⟨hit, hgd⟩ hi hne hef fun x h' tk ⟨en, hen, hxk⟩ ho st' hT hsz' hk => ?_
    subst hxk
    obtain ⟨k, v, hkv, rk⟩ := keyOfPairs I hd hod hen
    refine ⟨_, rfl, wpAny_letOwnedTupleGo_enum (s := { s with heap := h', toks := tk + 1 }) ho fun h'' he' sb => ?_⟩
    have hT2 : h''.get? s.heap.objs.size = some { cls := .type "tuple", data := .seq #[.int i tk, en.key] } := (sb.2 _ (Nat.ne_of_gt hel)).trans hT
    have new : ObjOk X.prog X.w (upd H s.heap.objs.size (.tup [.int (i : Nat), kV k])) h'' s.heap.objs.size (.tup [.int (i : Nat), kV k]) :=
      ⟨by show 2 ≤ sizeLine; decide, [.int i tk, en.key], .cons ⟨_, rfl⟩ (.cons rk .nil), ⟨_, hT2, rfl, _, rfl⟩⟩
    have I1 : Inv X pins σ (upd H s.heap.objs.size (.tup [.int (i : Nat), kV k])) { s with heap := h'', toks := tk + 1 } :=
      I.turnedNew (ch := [e, it]) (fun b ob hb q => (sb.2 b (fun z => hb (by simp [z]))).trans (hk b ob (fun z => hb (by simp [z])) (fun z => hb (by simp [z])) q)) hf (Nat.le_refl _) new
    refine ⟨.ref s.heap.objs.size, _, I1, rfl, ⟨_, k, v, hkv, rfl, I.hok.fresh (Nat.le_refl _), rfl⟩, ⟨⟨en.key, ?_⟩, ?_, hne, hed, hdi⟩, fun b hb => ?_⟩
    · have e1 : ((i + 1 : Nat) : Int) = (i : Int) + 1 := by omega
      rw [e1]; exact he'
    · rw [← hsz]
      exact st'.1.at fun o q => (sb.2 it (Ne.symm hne)).trans q
    · have hb' : b < s.heap.objs.size := by
        have e' : b = e ∨ b = it := by simpa using hb
        rcases e' with z | z
        · rw [z]; exact hel
        · rw [z]; exact hil
      rw [upd_ne (Nat.ne_of_lt hb')]
      exact (hf b hb).1
  done := by
    intro X hP hw hK hc i pins s σ H E I hf st hg
    subst hP hw hK
    obtain ⟨⟨old, he⟩, hit, hne, hed, hdi⟩ := st
    obtain ⟨hd, hi⟩ := hg
    obtain ⟨hs, hgd, hx, es', ep', vs, hdt, hsz, kv, hm⟩ := I.frzK hd
    obtain ⟨rfl, rfl⟩ := dict_ep hod hdt
    obtain ⟨f0, f1, f2, f3, f4, f5⟩ := hf it (by simp)
    have hef : e ∉ [it, d] := by simp [hne, hed]
    refine wpAny_pyNext_enum_endK (I.ok.hd hc) hod he hit hgd hsz (by exact hi) fun h' eb => ⟨rfl, I.turned (t' := s.toks) (fun b o hb q => eb b o hb q) f0 f1 f3 f4 f5⟩
  self := fun A i s Q E st h => let ⟨⟨_, he⟩, _⟩ := st; wpAny_pyIter_enum he h
def iEnumK (ta : TA) : TI := fun σ H R => ta σ H fun vs H1 => ∃ d o kvs, vs = [.ref d] ∧ H1 d = some (.frz o (.dK kvs)) ∧ R (Itke d o kvs) H1
theorem pi_enumK {X : Cx} {e : Expr} {ta : TA} {p pos tpos : Pos} {elts : List Expr} {kk : Nat} (hg : Gl X "enumerate") (hm : X.mg "enumerate" = none) (ha : PA X [e] ta) (hs : starEach [e] X.env = [(false, eval e X.env)] := by rfl) :
    PI X (.Tuple elts kk tpos) (.Call (.Name "enumerate" p) [e] [] pos) (iEnumK ta) := by
  refine ⟨fun pins s σ H R I h => ?_⟩
  refine Call_ (ld_blt I hg hm boot_enumerate (PyProof.Rows.callWith_type1 (thn (ha.run pos pins s σ H _ I h) fun us s1 ⟨vs, H1, I1, r1, q1⟩ => ?_) hs rfl))
  obtain ⟨d, o, kvs, ex, hd, q⟩ := q1
  subst ex
  cases r1 with
  | cons r rr =>
    cases rr
    cases r
    obtain ⟨hs', hgd, hx, es, ep, vs', hdt, hsz, kv, hm'⟩ := I1.frzK hd
    have hdl : d < s1.heap.objs.size := Heap.lt_size hgd
    refine call_enumerate_keys hs' hgd hx hdt fun h' he hit hsz' hk => wpAny_pyIter_enum he ?_
    have I2 : Inv X pins σ H1 { s1 with heap := h' } := I1.kept (t' := s1.toks) hk
    rw [hsz] at hit
    refine ⟨s1.heap.objs.size + 1, [s1.heap.objs.size + 1, s1.heap.objs.size], _, _, H1, rfl, I2, turn_enumK (d := d) (e := s1.heap.objs.size + 1) (it := s1.heap.objs.size) hdt, ⟨⟨.none, he⟩, hit, Nat.succ_ne_self _, Nat.ne_of_gt (Nat.lt_succ_of_lt hdl), Nat.ne_of_lt hdl⟩, fun b hb => ?_, q⟩
    have e' : b = s1.heap.objs.size + 1 ∨ b = s1.heap.objs.size := by simpa using hb
    have hle : s1.heap.objs.size ≤ b := by
      rcases e' with z | z
      · rw [z]; exact Nat.le_add_right _ _
      · rw [z]; exact Nat.le_refl _
    exact I1.fpOk hle (I1.hok.fresh hle)
end Hf

namespace Hf
open PySem PySem.Spec PyProof.Rows L2 ClX
/-! ### steps told as known, behind a run -/
namespace Pl
section
variable {x : Str} {k : Int}
mutual
theorem ws_keep : ∀ (p : Pl) {n : Str}, n ≠ x → Pl.leaf n none ∈ p.all → Pl.leaf n none ∈ (withSteps x k p).all
  | .leaf a s, n, ne, h => by
    simp only [all, List.mem_singleton, Pl.leaf.injEq] at h
    obtain ⟨rfl, rfl⟩ := h
    simp only [withSteps]
    rw [if_neg (by simpa using ne)]
    simp [all]
  | .lot r a ps, n, ne, h => by
    simp only [all, List.mem_cons, reduceCtorEq, false_or] at h
    simp only [withSteps, all, List.mem_cons, reduceCtorEq, false_or]
    exact ws_keeps ps ne h
theorem ws_keeps : ∀ (ps : List (Int × Pl)) {n : Str}, n ≠ x → Pl.leaf n none ∈ alls ps → Pl.leaf n none ∈ alls (withStepss x k ps)
  | [], n, _, h => by simp [alls] at h
  | (i, w) :: ps, n, ne, h => by
    simp only [withStepss, alls, List.mem_append] at h ⊢
    rcases h with h | h
    · exact .inl (ws_keep w ne h)
    · exact .inr (ws_keeps ps ne h)
end
mutual
theorem ws_none : ∀ (p : Pl) {n : Str}, Pl.leaf n none ∈ (withSteps x k p).all → Pl.leaf n none ∈ p.all
  | .leaf a s, n, h => by
    simp only [withSteps] at h
    split at h
    · simp [all] at h
    · exact h
  | .lot r a ps, n, h => by
    simp only [withSteps, all, List.mem_cons, reduceCtorEq, false_or] at h ⊢
    exact ws_nones ps h
theorem ws_nones : ∀ (ps : List (Int × Pl)) {n : Str}, Pl.leaf n none ∈ alls (withStepss x k ps) → Pl.leaf n none ∈ alls ps
  | [], n, h => by simp [withStepss, alls] at h
  | (i, w) :: ps, n, h => by
    simp only [withStepss, alls, List.mem_append] at h ⊢
    rcases h with h | h
    · exact .inl (ws_none w h)
    · exact .inr (ws_nones ps h)
end
end
end Pl
theorem all_part {w z : Pl} {q : Int × Pl} (hq : q ∈ w.parts) (h : z ∈ q.2.all) : z ∈ w.all := by
  rw [Pl.all_eq, Pl.alls_eq]
  exact List.mem_cons_of_mem _ (List.mem_flatMap.mpr ⟨q, hq, h⟩)
theorem far_ws {d : List (Str × Int)} {x : Str} {k : Int} (h0 : 0 ≤ dg d x) (hk : 1 ≤ k) : ∀ {w : Pl}, w.Fit → (∀ s, Pl.leaf x s ∈ w.all → s = none) → w.far d ≤ (Pl.withSteps x k w).far d := fun {w} => by
  have key : ∀ (m : Nat) (w : Pl), w.depth ≤ m → w.Fit → (∀ s, Pl.leaf x s ∈ w.all → s = none) → w.far d ≤ (Pl.withSteps x k w).far d := fun m => by
    induction m with
    | zero => intro w h; have := Pl.depth_pos w; omega
    | succ m ih =>
      intro w hd hf hn
      cases w with
      | leaf n s =>
        simp only [Pl.withSteps]
        split
        · rename_i e
          have e := of_decide_eq_true e
          subst e
          have hs := hn s (by simp [Pl.all])
          subst hs
          simp only [Pl.far]
          have := rat_div_mono (a := 0) (b := (dg d n : Rat)) (m := (k : Rat)) (by exact_mod_cast h0) (by exact_mod_cast (show 0 < k by omega))
          have z : (0 : Rat) / (k : Rat) = 0 := by rw [Rat.div_def, Rat.zero_mul]
          rw [z] at this
          exact this
        · exact Rat.le_refl
      | lot r n ps =>
        have hp := fit_parts hf
        have W := weights_lim hf rfl
        have hW : (0 : Rat) < (((ps.map fun q : Int × Pl => q.1).sum : Int) : Rat) := by exact_mod_cast (show 0 < (ps.map fun q : Int × Pl => q.1).sum from by have := W.1; show 0 < (Pl.lot r n ps).weights; omega)
        have hn2 : ∀ q ∈ ps, ∀ s, Pl.leaf x s ∈ q.2.all → s = none := fun q hq s h => hn s (all_part (w := .lot r n ps) hq h)
        have e1 : (Pl.withStepss x k ps).map (fun q : Int × Pl => q.1) = ps.map fun q : Int × Pl => q.1 := by rw [Pl.withStepss_map, List.map_map]; rfl
        simp only [Pl.withSteps, Pl.far]
        rw [e1]
        generalize (ps.map fun q : Int × Pl => q.1).sum = W0 at hW
        have hs : ∀ l : List (Int × Pl), (∀ q ∈ l, q ∈ ps) → Pl.fars W0 l d ≤ Pl.fars W0 (Pl.withStepss x k l) d := fun l => by
          induction l with
          | nil => intro _; simp only [Pl.fars, Pl.withStepss]; exact Rat.le_refl
          | cons q l ihl =>
            intro hq
            obtain ⟨i, v⟩ := q
            have mm := hq (i, v) List.mem_cons_self
            have hv := Pl.part_depth (w := .lot r n ps) mm
            have a := ih v (by simp only at hv; omega) (hp _ mm).2 (hn2 _ mm)
            have b := ihl fun q hm => hq q (List.mem_cons_of_mem _ hm)
            have hi := (hp _ mm).1.1
            simp only [Pl.fars, Pl.withStepss]
            have c : (0 : Rat) ≤ (i : Rat) / (W0 : Rat) := by
              have := rat_div_mono (a := 0) (b := (i : Rat)) (by exact_mod_cast (show (0 : Int) ≤ i by omega)) hW
              have z : (0 : Rat) / (W0 : Rat) = 0 := by rw [Rat.div_def, Rat.zero_mul]
              rw [z] at this
              exact this
            have e := Rat.mul_le_mul_of_nonneg_left a c
            grind
        exact hs ps fun q hq => hq
  exact fun hf hn => key w.depth w (Nat.le_refl _) hf hn
def knT (d : List (Str × Int)) (l : Pl) : Tel := .knows l.name (min 1000 (max 1 (dg d l.name)))
theorem find_all {p : Pl} {n : Str} {s : Option Int} (nd : p.names.Nodup) (h : Pl.leaf n s ∈ p.all) : p.find n = some (.leaf n s) := by
  cases z : p.find n with
  | none =>
    have k := Pl.find_isN p n
    have hm : n ∈ p.names := mem_names h
    rw [z, decide_eq_true hm] at k
    simp at k
  | some w => rw [leaf_find (m := n) nd z h]
theorem path_take {c : Cs} {ts : List Tel} (h : Path c ts) (i : Nat) : Path c (ts.take i) := by
  rw [← List.take_append_drop i ts, path_app] at h
  exact h.1
theorem kn_run {d : List (Str × Int)} : ∀ {ls : List Pl} {c : Cs}, c.did = d → CsOk c.plan c.did → (∀ l ∈ ls, ∃ n, l = .leaf n none ∧ l ∈ c.plan.all ∧ isNameB n = true ∧ n.length ≤ 1000 ∧ dg d n ≤ 1000) → (ls.map Pl.name).Nodup →
    Path c (ls.map (knT d)) ∧ ∀ i, c.plan.far d ≤ (runFrom c ((ls.map (knT d)).take i)).plan.far d ∧ (runFrom c ((ls.map (knT d)).take i)).did = d ∧ (runFrom c ((ls.map (knT d)).take i)).shown = shownNext c.shown (c.plan.far d) ((runFrom c ((ls.map (knT d)).take i)).plan.far d)
  | [], c, hd, co, _, _ => ⟨trivial, fun i => by
    rw [List.map_nil, List.take_nil]
    exact ⟨Rat.le_refl, hd, by show c.shown = shownNext c.shown (c.plan.far d) (c.plan.far d); rw [next_same]⟩⟩
  | l :: ls, c, hd, co, hl, nd => by
    obtain ⟨n, e, hm, hn1, hn2, hb⟩ := hl l List.mem_cons_self
    subst e
    have hp := co.pos n
    rw [hd] at hp
    rw [List.map_cons, List.nodup_cons] at nd
    have kn : isNum (min 1000 (max 1 (dg d n))) 1 1000 = true := by
      simp only [isNum, Bool.and_eq_true, decide_eq_true_eq]
      omega
    have to : TelOk (.knows n (min 1000 (max 1 (dg d n)))) := ⟨⟨hn1, hn2⟩, fun _ => kn, fun z => by simp [Tel.isFound] at z⟩
    have hf := find_all co.plan.nodup hm
    have tk : Took c.plan c.did (.knows n (min 1000 (max 1 (dg d n)))) (Pl.withSteps n (min 1000 (max 1 (dg d n))) c.plan) c.did := .knows hf rfl rfl (by rw [hd]; omega)
    obtain ⟨cn, ea⟩ := tk.can
    have co1 := step_ok' co to cn
    have e1 : (stepC c (.knows n (min 1000 (max 1 (dg d n))))).plan = Pl.withSteps n (min 1000 (max 1 (dg d n))) c.plan := by show (after _ _ _).1 = _; rw [ea]
    have e2 : (stepC c (.knows n (min 1000 (max 1 (dg d n))))).did = d := by show (after _ _ _).2 = _; rw [ea]; exact hd
    have e3 : (stepC c (.knows n (min 1000 (max 1 (dg d n))))).shown = shownNext c.shown (c.plan.far d) ((stepC c (.knows n (min 1000 (max 1 (dg d n))))).plan.far d) := by
      show shownNext c.shown (c.plan.far c.did) ((after _ _ _).1.far (after _ _ _).2) = _
      rw [e1, ea, hd]
    have m1 : c.plan.far d ≤ (stepC c (.knows n (min 1000 (max 1 (dg d n))))).plan.far d := by
      rw [e1]
      refine far_ws hp (by omega) co.plan.fit fun s h => ?_
      have := all_uniq co.plan.nodup h hm rfl
      cases this
      rfl
    obtain ⟨a, b⟩ := kn_run (d := d) (ls := ls) (c := stepC c (.knows n (min 1000 (max 1 (dg d n))))) e2 co1 (fun l hl2 => by
      obtain ⟨n2, k1, k2, k3, k4, k5⟩ := hl l (List.mem_cons_of_mem _ hl2)
      subst k1
      refine ⟨n2, rfl, ?_, k3, k4, k5⟩
      rw [e1]
      refine Pl.ws_keep _ (fun z => ?_) k2
      subst z
      exact nd.1 (List.mem_map.mpr ⟨_, hl2, rfl⟩)) nd.2
    have pth : Path c (knT d (.leaf n none) :: ls.map (knT d)) := ⟨⟨to, cn⟩, a⟩
    refine ⟨pth, fun i => ?_⟩
    cases i with
    | zero =>
      rw [List.take_zero]
      exact ⟨Rat.le_refl, hd, by show c.shown = shownNext c.shown (c.plan.far d) (c.plan.far d); rw [next_same]⟩
    | succ i =>
      obtain ⟨b1, b2, b3⟩ := b i
      have er : runFrom c ((knT d (.leaf n none) :: ls.map (knT d)).take (i + 1)) = runFrom (stepC c (.knows n (min 1000 (max 1 (dg d n))))) ((ls.map (knT d)).take i) := rfl
      rw [List.map_cons, er]
      have co2 := path_ok co1 (path_take a i)
      have le := co2.sh.le
      rw [b2] at le
      refine ⟨Rat.le_trans m1 b1, b2, ?_⟩
      rw [b3, e3, next_next m1 b1 le]
theorem allSh_of {n : Nat} : ∀ {ts : List Tel} {c : Cs}, (∀ i, ShOk n (runFrom c (ts.take i)).shown) → AllSh n c ts
  | [], c, h => h 0
  | t :: ts, c, h => ⟨h 0, allSh_of (c := stepC c t) fun i => h (i + 1)⟩
theorem runOk_kn {p : Pl} {ts : List Tel} {ls : List Pl} (h : RunOk p ts) (hl : ts.length ≤ 20) (h2 : ∀ l ∈ ls, ∃ n, l = .leaf n none ∧ l ∈ (runC p ts).plan.all ∧ dg (runC p ts).did n ≤ 1000) (nd : (ls.map Pl.name).Nodup) (hl2 : ls.length ≤ 20) : RunOk p (ts ++ ls.map (knT (runC p ts).did)) := by
  have co := h.last
  obtain ⟨a, b⟩ := kn_run (ls := ls) (c := runC p ts) rfl co (fun l hl => by
    obtain ⟨n, e, hm, hb⟩ := h2 l hl
    subst e
    have z := co.plan.names n (mem_names hm)
    exact ⟨n, rfl, hm, z.1, z.2.1, hb⟩) nd
  have s1 := sh_all h.plan h.can
  have s0 : ShOk 8001 (runC p ts).shown := by
    have z := s1 ts.length (Nat.le_refl _)
    rw [List.take_length] at z
    exact sh_mono z (by omega)
  refine runOk_of h.plan (path_app.mpr ⟨run_path h, a⟩) (allSh_app (allSh_of fun i => ?_) (allSh_of fun i => ?_)) (by rw [List.length_append, List.length_map]; omega)
  · by_cases hi : i ≤ ts.length
    · exact sh_mono (s1 i hi) (by omega)
    · rw [List.take_of_length_le (by omega)]
      exact sh_mono s0 (by omega)
  · obtain ⟨b1, b2, b3⟩ := b i
    have co2 := path_ok co (path_take a i)
    have z := co2.sh
    have e : (runFrom (runC p ts) ((ls.map (knT (runC p ts).did)).take i)).shown = _ := b3
    show ShOk 8500 (runFrom (runC p ts) ((ls.map (knT (runC p ts).did)).take i)).shown
    rw [e]
    rw [b2] at z
    exact sh_mono (shown_next s0 co.sh z) (by omega)
/-! ### leaves without steps did few -/
def LowD (b : Int) (p : Pl) (d : List (Str × Int)) : Prop := ∀ n, Pl.leaf n none ∈ p.all → dg d n ≤ b
theorem low_step {b : Int} {p p' : Pl} {d d' : List (Str × Int)} {t : Tel} (co : CsOk p d) (hb : 9 ≤ b) (h : LowD b p d) (tk : Took p d t p' d') (hd : ∀ n k, t = .did n k → Pl.leaf n none ∈ p.all → k ≤ max 1 (9 - dg d n)) : LowD (b + 1) p' d' := by
  cases tk with
  | again hf =>
    intro n hn
    rw [zeroed_dg]
    split
    · omega
    · have := h n hn; omega
  | knows hf hl hs hk =>
    intro n hn
    have := h n (Pl.ws_none p hn)
    omega
  | did hf hl hs =>
    rename_i n0 k w
    intro n hn
    rw [dg_put]
    split
    · rename_i e
      subst e
      have := hd n0 k rfl hn
      have := h n0 hn
      omega
    · have := h n hn; omega
  | found hf hl ok =>
    rename_i e ln wt st w
    intro n hn
    rcases Pl.wl_all p _ hn rfl with z | z
    · have := h n z; omega
    · have e0 : n = ln := by cases z; rfl
      have e1 : st = none := by cases z; rfl
      subst e1
      subst e0
      obtain ⟨hwm, hwx⟩ := find_mem p hf
      have k1 := kL_one co.plan.nodup hwm hwx hl
      have cnt := Pl.wl_cnt (x := e) (wt := wt) (ln := n) (st := none) p n
      have nd := List.nodup_iff_count.mp ok.nodup n
      rw [if_pos rfl, k1] at cnt
      have hln : n ∉ p.names := List.count_eq_zero.mp (by omega)
      have z := co.sub n hln
      unfold dg
      rw [z]
      show (0 : Int) ≤ _
      omega
theorem low_tell {p : Pl} {d : List (Str × Int)} {c : Int} (co : CsOk p d) : ∀ n k, tellL p d c = .did n k → Pl.leaf n none ∈ p.all → k ≤ max 1 (9 - dg d n) := fun n k e hn => by
  obtain ⟨b0, b1, b2, b3, b4, b5⟩ := cut_in c
  unfold tellL at e
  split at e
  · injection e with e1 e2
    have lf := (pick_in (p := p) (leaves_ne co.plan.fit) b1.1).1
    have lm : leafL p c ∈ p.all := (leaves_sub p).subset lf
    have e3 := all_uniq co.plan.nodup lm hn e1
    subst e2
    unfold restL
    rw [e3]
    have e4 : sizeL (.leaf n none) = 9 := rfl
    have e5 : (Pl.leaf n none).name = n := rfl
    rw [e4, e5]
    split <;> omega
  · split at e
    · cases e
    · split at e <;> cases e
theorem low_run {p : Pl} (hp : PlanOk p) (cs : List Int) : ∀ i, i ≤ cs.length → LowD (9 + (i : Int)) (runS p (cs.take i)).1 (runS p (cs.take i)).2.1 := fun i => by
  induction i with
  | zero =>
    intro _ n _
    show dg [] n ≤ _
    show (0 : Int) ≤ _
    omega
  | succ i ih =>
    intro hi
    have a := ih (by omega)
    have dr := drawn_run hp cs i (by omega)
    obtain ⟨q, hq⟩ : ∃ q, cs[i]? = some q := ⟨_, List.getElem?_eq_getElem (by omega)⟩
    have er : runS p (cs.take (i + 1)) = stepR (runS p (cs.take i)) q := by
      unfold runS
      rw [List.take_add_one, hq, List.foldl_append]
      rfl
    rw [er]
    generalize runS p (cs.take i) = s at *
    obtain ⟨to, hn⟩ := tell_ok q dr.co
    unfold stepR
    cases e : tookL s.1 s.2.1 (tellL s.1 s.2.1 q) with
    | mk x y =>
      cases x with
      | none =>
        have e2 := tookL_none e
        dsimp only
        rw [e2]
        intro n hm
        have := a n hm
        omega
      | some z =>
        dsimp only
        have tk := tookL_some dr.co to hn e
        have := low_step dr.co (by omega) a tk (low_tell dr.co)
        intro n hm
        have := this n hm
        omega
theorem low_drawn {p : Pl} (hp : PlanOk p) {cs : List Int} (hl : cs.length ≤ 20) : LowD 1000 (runC p (runS p cs).2.2).plan (runC p (runS p cs).2.2).did := by
  have dr := drawn_run hp cs cs.length (Nat.le_refl _)
  have a := low_run hp cs cs.length (Nat.le_refl _)
  rw [List.take_length] at dr a
  rw [dr.plan, dr.did]
  intro n hm
  have := a n hm
  omega
end Hf

namespace Hf
open PySem PySem.Spec PyProof.Rows L2 ClX
/-! ### dicts of one's own: walked by their keys, compared -/
/-- a dict as it stands -/
def oKv {α : Type} (kvs : List (Key × V)) (r : Rp α) (ds : List (Str × α)) : Oc := ⟨fun G o => o = .dK kvs ∧ KvAt r G kvs ds, fun e ⟨h1, h2⟩ => ⟨h1, h2.mono e⟩⟩
/-- .. while it is locked -/
def oFz {α : Type} (od : Obj) (kvs : List (Key × V)) (r : Rp α) (ds : List (Str × α)) : Oc := ⟨fun G o => o = .frz od (.dK kvs) ∧ KvAt r G kvs ds, fun e ⟨h1, h2⟩ => ⟨h1, h2.mono e⟩⟩
theorem frz_kv {α : Type} {r : Rp α} {kvs : List (Key × V)} {ds : List (Str × α)} : Frz (oKv kvs r ds) (rDic r) ds := fun G a o n ⟨e, h⟩ => frz_dic G a o n ⟨kvs, e, h⟩
theorem flat_kv {α : Type} {r : Rp α} {kvs : List (Key × V)} {ds : List (Str × α)} : (oKv kvs r ds).flat := fun G o ⟨e, _⟩ => by subst e; trivial
theorem KvAt.at {α : Type} {r : Rp α} {G : Hp} : ∀ {kvs : List (Key × V)} {ds : List (Str × α)} {i : Nat} {k : Key} {v : V}, KvAt r G kvs ds → kvs[i]? = some (k, v) → ∃ n a, k = .inr n ∧ ds[i]? = some (n, a) ∧ r.rel G v a
  | _, _, i, k, v, .nil, e => by simp at e
  | _, _, 0, k, v, .cons (k := n) (a := a) h t, e => by
    simp only [List.getElem?_cons_zero, Option.some.injEq, Prod.mk.injEq] at e
    obtain ⟨rfl, rfl⟩ := e
    exact ⟨n, a, rfl, rfl, h⟩
  | _, _, i + 1, k, v, .cons h t, e => by
    simp only [List.getElem?_cons_succ] at e ⊢
    exact t.at e
theorem KvAt.thin {α : Type} {r : Rp α} {G : Hp} {p : Addr} {o : HO} (n : notTup o) : ∀ {kvs : List (Key × V)} {ds : List (Str × α)}, KvAt r (upd G p o) kvs ds → (∀ q ∈ ds, Thin r q.2) → KvAt r G kvs ds
  | _, _, .nil, _ => .nil
  | _, _, .cons (k := k) (a := a) h t, th => .cons (th (k, a) List.mem_cons_self G p o _ n h) (KvAt.thin n t (fun q m => th q (List.mem_cons_of_mem _ m)))
/-- other own things left out -/
def lookO (Γ : List Slot) (i : Nat) (s : Slot) : List Slot := (Γ.map fun t => match t with | .ow _ _ => Slot.no | t => t).set i s
theorem lookO_len {Γ : List Slot} {i : Nat} {s : Slot} : (lookO Γ i s).length = Γ.length := by simp [lookO]
theorem lookO_ok {Γ : List Slot} {i : Nat} {t : Slot} {j : Nat} {s : Slot} (h : (lookO Γ i t)[j]? = some s) : s = .no ∨ (j = i ∧ s = t) ∨ (s.isOw = false ∧ Γ[j]? = some s) := by
  unfold lookO at h
  rcases get_set h with ⟨rfl, rfl⟩ | ⟨n, h⟩
  · exact .inr (.inl ⟨rfl, rfl⟩)
  · rw [List.getElem?_map] at h
    cases e : Γ[j]? with
    | none => rw [e] at h; cases h
    | some t =>
      rw [e] at h
      cases t with
      | no => cases h; exact .inl rfl
      | sh r' a => cases h; exact .inr (.inr ⟨rfl, rfl⟩)
      | ow c q => cases h; exact .inl rfl
section
variable {X : Cx} {E : Ent} {Γ Γ' Γ1 Γ2 : List Slot} {D : Ends} {e f g o : Expr} {es : List Expr} {body rest : List Stmt} {pos p p2 apos cpos : Pos} {α β γ ι : Type} {r : Rp α} {x : α} {s : Rp β} {y : β} {as : List α} {ds es' : List (Str × α)} {k : Str} {j : Nat} {kvs : List (Key × V)}
theorem EvB.kv (h : EvB X Γ e (oKv kvs r ds)) : EvB X Γ e (oDic r ds) := fun E G H σ hh Q q => h E G H σ hh Q fun p o G' H' l h2 ⟨e1, h3⟩ => q p o G' H' l h2 ⟨kvs, e1, h3⟩
/-- d[k], d locked -/
theorem ev_dixF {od : Obj} (hr : Room j X.A) (h : EvB X Γ e (oFz od kvs r ds)) (hk : Ev X Γ f rStr k) (hx : dGet ds k = some x)
    (hpe : PE X (.Subscript e f pos) (tDGet (WE X e) (WE X f)) := by exact pe_dget (hu_of hr) WE.pe WE.pe (fun _ _ => rfl)) : Ev X Γ (.Subscript e f pos) r x := fun E G H σ hh Q q =>
  WE.of hpe (h E G H σ hh _ fun p o G1 H1 l1 hp ⟨e1, ha⟩ => by
    subst e1
    refine hk E G1 H1 σ (hh.step l1) _ fun w G2 H2 l2 r2 => ?_
    have e2 : w = .str k := r2
    subst e2
    rcases (ha.mono l2.g).get (k := k) with ⟨h1, h2⟩ | ⟨v, a, h1, h2, h3⟩
    · rw [hx] at h2; cases h2
    · rw [hx] at h2
      cases h2
      exact ⟨p, v, rfl, h1 ▸ .inl ⟨kvs, .inr k, .inr ⟨od, l2.h _ _ hp⟩, rfl, rfl⟩, q v G2 H2 (l1.trans l2) h3⟩)
/-- for name in d, d a dict of one's own -/
theorem bk_forK {S : Type} {tg : Expr} {U : Str → List Slot → List Slot} {vs : List Nat} (i : Nat) {a : Str} {d : Addr} (mk : Slot → S → List Slot) (I : Nat → S → Prop) (s0 : S) (hp : PassesOwn (model X.prog X.w) X.A X.env X.xe) (hg : Γ[i]? = some (.ow (oKv kvs r ds) (some d))) (ht : TgOk X tg rStr U vs) (h0 : I 0 s0)
    (hΓ : ∀ (x : Slot) (G H : Hp) (σ : L2.St), Holds E G H σ (Γ.set i x) → Holds E G H σ (mk x s0)) (hm : ∀ x s, (mk x s)[i]? = some x) (hms : ∀ x y s, (mk x s).set i y = mk y s)
    (step : ∀ F od n s a, (ds.map (·.1))[n]? = some a → I n s → ∀ (rt : VK) (bk : L2.St → Hp → Prop), Bk X { E with F := F } (U a (mk (.ow (oFz od kvs r ds) (some d)) s)) body
      { nx := fun σ H => ∃ s', I (n + 1) s' ∧ At { E with F := F } (mk (.ow (oFz od kvs r ds) (some d)) s') σ H, rt := rt, bk := bk, ct := fun σ H => ∃ s', I (n + 1) s' ∧ At { E with F := F } (mk (.ow (oFz od kvs r ds) (some d)) s') σ H })
    (done : ∀ s, I ds.length s → Bk X E (mk (.ow (oKv kvs r ds) (some d)) s) rest D) (hc : X.calm = true := by rfl) (hs : ∀ x, foldedSetIterable (.Name a p) X.env x = pure x := by intro _; rfl)
    (hN : X.N[i]? = some a := by rfl) (hv : Vis X.env.scope a := by first | exact Or.inl rfl | exact Or.inr (Or.inl rfl) | exact Or.inr (Or.inr rfl)) (hd : (a == ("__debug__" : Str)) = false := by decide) (hcd : (a == ("__classdict__" : Str)) = false := by decide) :
    Bk X E Γ (.For tg (.Name a p) body [] pos :: rest) D :=
  bk_of (ps_lock (ps_for hp hc (pi_keys (pe_var hN hv hd hcd)) (WG.pg (tg := tg)) WB.pss hs)) fun G H σ hh => by
    obtain ⟨q, o, h1, h2, h3, h4, h5, h6⟩ := hh.ow hg
    subst h5
    have eq : q = d := h3.1
    subst eq
    refine ⟨q, .dK kvs, h4, trivial, fun od => ?_⟩
    have hl := hΓ (.ow (oFz od kvs r ds) (some q)) _ _ _ (hh.mut hg h1 (c' := oFz od kvs r ds) (o' := .frz od (.dK kvs)) ⟨rfl, h6⟩)
    have hlen : kvs.length = ds.length := h6.length
    refine ⟨_, h1, q, od, rfl, .inl ⟨kvs, upd_same, ?_⟩⟩
    refine ⟨fun n m σ H => m = ds.length - n ∧ n ≤ ds.length ∧ ∃ s G1, I n s ∧ Holds { E with F := G } G1 H σ (mk (.ow (oFz od kvs r ds) (some q)) s), ⟨ds.length, by simp, Nat.zero_le _, s0, G, h0, hl.floor (.refl _)⟩, ?_⟩
    rintro n m σ' H' ⟨rfl, hn, s, G2, hs, hh2⟩
    obtain ⟨q', o', w1, w2, w3, w4, w5, w6⟩ := hh2.ow (hm _ s)
    have eq : q' = q := w3.1
    subst eq w5
    by_cases lt : n < ds.length
    · refine .inr ⟨⟨w4, by omega⟩, fun σ' H' => ∃ s', I (n + 1) s' ∧ At { E with F := G } (mk (.ow (oFz od kvs r ds) (some q')) s') σ' H', fun σ' H' ⟨s', i', G', h'⟩ => ⟨ds.length - (n + 1), by omega, rfl, lt, s', G', i', h'⟩, fun x H'' yy => ?_⟩
      obtain ⟨e1, kk, v, e2, e3⟩ := yy
      subst e1 e3
      obtain ⟨nm, a', e4, e5, _⟩ := w6.at e2
      subst e4
      refine ht { E with F := G } G2 _ σ' _ _ nm hh2 rfl _ fun σ3 _ hh3 => ?_
      exact step G od n s nm (by rw [List.getElem?_map, e5]; rfl) hs _ _ G2 _ σ3 hh3
    · have e : n = ds.length := by omega
      subst e
      refine .inl ⟨⟨w4, by omega⟩, w4, done s hs G2 _ σ' ?_⟩
      have z := hh2.mut (hm _ s) w1 (c' := oKv kvs r ds) (o' := .dK kvs) ⟨rfl, w6⟩
      rw [hms] at z
      exact z.unfloor (hh.fl.trans hh2.fl)
/-- for k, name in enumerate(d) -/
theorem bk_forKE {S : Type} {elts : List Expr} {kk : Nat} {tpos : Pos} {U : Int × Str → List Slot → List Slot} {vs : List Nat} (i : Nat) {a : Str} {d : Addr} (mk : Slot → S → List Slot) (I : Nat → S → Prop) (s0 : S) (hp : PassesOwn (model X.prog X.w) X.A X.env X.xe) (hg : Γ[i]? = some (.ow (oKv kvs r ds) (some d))) (ht : TgOk X (.Tuple elts kk tpos) (rT2 X.K rInt rStr) U vs) (h0 : I 0 s0)
    (hΓ : ∀ (x : Slot) (G H : Hp) (σ : L2.St), Holds E G H σ (Γ.set i x) → Holds E G H σ (mk x s0)) (hm : ∀ x s, (mk x s)[i]? = some x) (hms : ∀ x y s, (mk x s).set i y = mk y s)
    (step : ∀ F od n s a, (ds.map (·.1))[n]? = some a → I n s → ∀ (rt : VK) (bk : L2.St → Hp → Prop), Bk X { E with F := F } (U ((n : Int), a) (mk (.ow (oFz od kvs r ds) (some d)) s)) body
      { nx := fun σ H => ∃ s', I (n + 1) s' ∧ At { E with F := F } (mk (.ow (oFz od kvs r ds) (some d)) s') σ H, rt := rt, bk := bk, ct := fun σ H => ∃ s', I (n + 1) s' ∧ At { E with F := F } (mk (.ow (oFz od kvs r ds) (some d)) s') σ H })
    (done : ∀ s, I ds.length s → Bk X E (mk (.ow (oKv kvs r ds) (some d)) s) rest D) (hme : X.mg "enumerate" = none) (hge : Gl X "enumerate" := by rfl) (hc : X.calm = true := by rfl) (hs : ∀ x, foldedSetIterable (.Call (.Name "enumerate" p2) [.Name a p] [] cpos) X.env x = pure x := by intro _; rfl)
    (hse : starEach [.Name a p] X.env = [(false, eval (.Name a p) X.env)] := by rfl) (hse2 : starEach (.Name a p :: []) X.env = (false, eval (.Name a p) X.env) :: starEach [] X.env := by rfl)
    (hN : X.N[i]? = some a := by rfl) (hv : Vis X.env.scope a := by first | exact Or.inl rfl | exact Or.inr (Or.inl rfl) | exact Or.inr (Or.inr rfl)) (hd : (a == ("__debug__" : Str)) = false := by decide) (hcd : (a == ("__classdict__" : Str)) = false := by decide) :
    Bk X E Γ (.For (.Tuple elts kk tpos) (.Call (.Name "enumerate" p2) [.Name a p] [] cpos) body [] pos :: rest) D :=
  bk_of (ps_lock (ps_for hp hc (pi_enumK hge hme (pa_cons (pe_var hN hv hd hcd) pa_nil hse2) hse) (WG.pg (tg := .Tuple elts kk tpos)) WB.pss hs)) fun G H σ hh => by
    obtain ⟨q, o, h1, h2, h3, h4, h5, h6⟩ := hh.ow hg
    subst h5
    have eq : q = d := h3.1
    subst eq
    refine ⟨q, .dK kvs, h4, trivial, fun od => ?_⟩
    have hl := hΓ (.ow (oFz od kvs r ds) (some q)) _ _ _ (hh.mut hg h1 (c' := oFz od kvs r ds) (o' := .frz od (.dK kvs)) ⟨rfl, h6⟩)
    have hlen : kvs.length = ds.length := h6.length
    refine ⟨_, h1, q, od, kvs, rfl, upd_same, ?_⟩
    refine ⟨fun n m σ H => m = ds.length - n ∧ n ≤ ds.length ∧ ∃ s G1, I n s ∧ Holds { E with F := G } G1 H σ (mk (.ow (oFz od kvs r ds) (some q)) s), ⟨ds.length, by simp, Nat.zero_le _, s0, G, h0, hl.floor (.refl _)⟩, ?_⟩
    rintro n m σ' H' ⟨rfl, hn, s, G2, hs, hh2⟩
    obtain ⟨q', o', w1, w2, w3, w4, w5, w6⟩ := hh2.ow (hm _ s)
    have eq : q' = q := w3.1
    subst eq w5
    by_cases lt : n < ds.length
    · refine .inr ⟨⟨w4, by omega⟩, fun σ' H' => ∃ s', I (n + 1) s' ∧ At { E with F := G } (mk (.ow (oFz od kvs r ds) (some q')) s') σ' H', fun σ' H' ⟨s', i', G', h'⟩ => ⟨ds.length - (n + 1), by omega, rfl, lt, s', G', i', h'⟩, fun x H'' yy => ?_⟩
      obtain ⟨T, kk, v, e2, e3, nT, e1⟩ := yy
      subst e1 e3
      obtain ⟨nm, a', e4, e5, _⟩ := w6.at e2
      subst e4
      have l3 : Le G2 H' (upd G2 T (.tup [.int (n : Nat), kV (.inr nm)])) (upd H' T (.tup [.int (n : Nat), kV (.inr nm)])) := (Le.refl hh2.le.gh).add nT
      refine ht { E with F := G } _ _ σ' _ _ ((n : Int), nm) (hh2.step l3) ⟨T, _, _, rfl, .inl (.inl upd_same), rfl, rfl⟩ _ fun σ3 _ hh3 => ?_
      exact step G od n s nm (by rw [List.getElem?_map, e5]; rfl) hs _ _ _ _ σ3 hh3
    · have e : n = ds.length := by omega
      subst e
      refine .inl ⟨⟨w4, by omega⟩, w4, done s hs G2 _ σ' ?_⟩
      have z := hh2.mut (hm _ s) w1 (c' := oKv kvs r ds) (o' := .dK kvs) ⟨rfl, w6⟩
      rw [hms] at z
      exact z.unfloor (hh.fl.trans hh2.fl)
/-- from here on a dict of one's own is known by its place -/
theorem bk_pinD (i : Nat) {q : Option Addr} (hg : Γ[i]? = some (.ow (oDic r ds) q))
    (k : ∀ (d : Addr) (kvs : List (Key × V)) (E1 : Ent), (∀ G' H', LeE E1.G E1.H E1.M G' H' → LeE E.G E.H E.M G' H') → Bk X E1 (lookO Γ i (.ow (oKv kvs r ds) (some d))) rest D) : Bk X E Γ rest D := fun G H σ hh => by
  obtain ⟨d, o, h1, h2, h3, h4, kvs, h5, h6⟩ := hh.ow hg
  subst h5
  refine k d kvs { G := G, H := H, M := fun a => a = d } (fun G' H' l => hh.le.re l fun x hx => ?_) G H σ ⟨⟨.refl _, fun a o z => ?_, hh.le.gh, fun a o z1 z2 => ?_, fun a z => ?_⟩, (fun a u z => by cases z), by rw [lookO_len]; exact hh.len, fun j s z => ?_, fun j1 j2 s t z1 z2 o1 o2 z => ?_⟩
  · subst hx; exact h3.or
  · by_cases e : a = d
    · exact .inr ⟨e, o, z⟩
    · exact .inl ⟨e, z⟩
  · have z2 : G a = none := z2
    rw [z1] at z2; cases z2
  · subst z; exact ⟨h2, _, h4⟩
  · rcases lookO_ok z with rfl | ⟨rfl, rfl⟩ | ⟨o1, e'⟩
    · trivial
    · exact ⟨d, _, h1, h2, ⟨rfl, rfl⟩, h4, rfl, h6⟩
    · have z := hh.ok j s e'
      cases s with
      | no => trivial
      | sh r' a' => exact z
      | ow c' q' => cases o1
  · rcases lookO_ok z1 with rfl | ⟨rfl, rfl⟩ | ⟨n1, _⟩
    · cases o1
    · rcases lookO_ok z2 with rfl | ⟨rfl, rfl⟩ | ⟨n2, _⟩
      · cases o2
      · rfl
      · rw [n2] at o2; cases o2
    · rw [n1] at o1; cases o1
/-! ### equal dicts -/
theorem hits_dp {pins : List (Addr × Obj)} {σ : L2.St} {H : Hp} {s : Shared} (I : Inv X pins σ H s) {A : Around} (hu : A.in1.units + 64 < cLine) {ls : List (Key × V)} {vb : List (Key × Value)} (rb : KV ls vb) {ks : List (Key × V)} {va : List (Key × Value)}
    (ra : KV ks va) : (∀ p ∈ ks, ∃ w d, valV ls p.1 = some w ∧ Dp X.K H p.2 d ∧ Dp X.K H w d ∧ SeqAt.shaped d = true ∧ PyData.eqv d d = true) → PySem.W.KeqHits A.in1 s vb va true := by
  unfold KV at ra
  induction ra with
  | nil => intro _; exact .nil
  | @cons p q ps qs h t ih =>
    intro hp
    obtain ⟨h1, h2⟩ := h
    obtain ⟨w, d, e, f1, f2, f3, f4⟩ := hp p List.mem_cons_self
    have rr : RelO (some w) (valueAt vb p.1) := by rw [← e]; exact rb.val p.1
    obtain ⟨y, hy, ry⟩ := rr.some_of
    obtain ⟨key, v⟩ := q
    have h1' : p.1 = key := h1
    rw [h1'] at hy
    obtain ⟨as1, r1⟩ := Dp.reads I d p.2 v f1 h2
    obtain ⟨as2, r2⟩ := Dp.reads I d w y f2 ry
    have z := PySem.W.keq_at r1 r2 f3 f3 hu
    rw [f4] at z
    show PySem.W.KeqHits A.in1 s vb ((key, v) :: qs) (true && true)
    exact .hit hy z (ih fun p' hm => hp p' (List.mem_cons_of_mem _ hm))
def rDicE (K : PySem.W.Frag) (b : Bool) : R2 := fun x y H Q => ∃ a c ks ls, x = .ref a ∧ y = .ref c ∧ H a = some (.dK ks) ∧ H c = some (.dK ls) ∧ ks.length = ls.length ∧ (∀ p ∈ ks, ∃ w d, valV ls p.1 = some w ∧ Dp K H p.2 d ∧ Dp K H w d ∧ SeqAt.shaped d = true ∧ PyData.eqv d d = true) ∧ Q (.bl b) H
theorem op_eqDic (hu : X.A.units + 100 < cLine) : OpR X (compareOp .Eq) (rDicE X.K true) := by
  intro pins s σ H x y v u Q I rx ry h
  obtain ⟨a, b, ks, ls, rfl, rfl, ea, eb, hlen, hp, q⟩ := h
  obtain rfl : v = Value.ref a := rx
  obtain rfl : u = Value.ref b := ry
  obtain ⟨_, ya, va, ra, da⟩ := (show ObjOk X.prog X.w H s.heap a (.dK ks) from I.hok a _ ea)
  obtain ⟨_, yb, vb, rb, db⟩ := (show ObjOk X.prog X.w H s.heap b (.dK ls) from I.hok b _ eb)
  have hl : va.length = vb.length := by rw [← ra.length, ← rb.length]; exact hlen
  exact PySem.W.keq_eq (knd := mixKind X.prog X.w) (r := true) ya yb da db (by omega) (fun _ => hits_dp I (by show X.A.units + 1 + 64 < cLine; omega) rb ra hp) ⟨.bl true, H, I, (by simp [hl]; rfl), q⟩
theorem op_neDic (hu : X.A.units + 100 < cLine) : OpR X (compareOp .NotEq) (rDicE X.K false) := by
  intro pins s σ H x y v u Q I rx ry h
  obtain ⟨a, b, ks, ls, rfl, rfl, ea, eb, hlen, hp, q⟩ := h
  obtain rfl : v = Value.ref a := rx
  obtain rfl : u = Value.ref b := ry
  obtain ⟨_, ya, va, ra, da⟩ := (show ObjOk X.prog X.w H s.heap a (.dK ks) from I.hok a _ ea)
  obtain ⟨_, yb, vb, rb, db⟩ := (show ObjOk X.prog X.w H s.heap b (.dK ls) from I.hok b _ eb)
  have hl : va.length = vb.length := by rw [← ra.length, ← rb.length]; exact hlen
  exact PySem.W.keq_ne (knd := mixKind X.prog X.w) (r := true) ya yb da db (by omega) (fun _ => hits_dp I (by show X.A.units + 1 + 64 < cLine; omega) rb ra hp) ⟨.bl false, H, I, (by simp [hl]; rfl), q⟩
/-- the dicts hold the same -/
def SameD (K : PySem.W.Frag) (r : Rp α) (pd : α → PyData) (ds es : List (Str × α)) : Prop := ds.length = es.length ∧ ∀ q ∈ ds, dGet es q.1 = some q.2 ∧ Eqv K r q.2 (pd q.2) ∧ PyData.eqv (pd q.2) (pd q.2) = true
theorem KvAt.mem {r : Rp α} {G : Hp} : ∀ {kvs : List (Key × V)} {ds : List (Str × α)} {p : Key × V}, KvAt r G kvs ds → p ∈ kvs → ∃ q ∈ ds, p.1 = .inr q.1 ∧ r.rel G p.2 q.2
  | _, _, p, .nil, m => by simp at m
  | _, _, p, .cons (k := k) (a := a) h t, m => by
    rcases List.mem_cons.mp m with rfl | m
    · exact ⟨(k, a), List.mem_cons_self, rfl, h⟩
    · obtain ⟨q, h1, h2⟩ := KvAt.mem t m
      exact ⟨q, List.mem_cons_of_mem _ h1, h2⟩
theorem sameD_run {K : PySem.W.Frag} {pd : α → PyData} {G H : Hp} {ks ls : List (Key × V)} (h : SameD K r pd ds es') (e : Ex G H) (a : KvAt r G ks ds) (b : KvAt r G ls es') : ks.length = ls.length ∧ ∀ p ∈ ks, ∃ w d, valV ls p.1 = some w ∧ Dp K H p.2 d ∧ Dp K H w d ∧ SeqAt.shaped d = true ∧ PyData.eqv d d = true := by
  refine ⟨by rw [a.length, b.length]; exact h.1, fun p m => ?_⟩
  obtain ⟨q, m1, e1, r1⟩ := a.mem m
  obtain ⟨h1, h2, h3⟩ := h.2 q m1
  rcases b.get (k := q.1) with ⟨k1, k2⟩ | ⟨v, x, k1, k2, k3⟩
  · rw [h1] at k2; cases k2
  · rw [h1] at k2
    cases k2
    exact ⟨v, pd q.2, by rw [e1]; exact k1, dp_mono e _ _ (h2.dp _ _ r1), dp_mono e _ _ (h2.dp _ _ k3), h2.sh, h3⟩
theorem ev_cmpDic {op : CmpOp} {b : Bool} {pd : α → PyData} (ho : OpR X (compareOp op) (rDicE X.K b)) (h : SameD X.K r pd ds es') (ha : EvB X Γ e (oDic r ds)) (hb : EvB X Γ f (oDic r es')) (hm : behindInMarks op f = false := by first | exact nobehind _ (by decide) (by decide) | rfl) : Ev X Γ (.Compare e [op] [f] pos) rBool b := fun E G H σ hh Q k =>
  WE.of (pe_cmpR ho WE.pe WE.pe hm) (ha E G H σ hh _ fun a o G1 H1 l1 h1 ⟨ks, e1, a1⟩ => hb E G1 H1 σ (hh.step l1) _ fun c o2 G2 H2 l2 h2 ⟨ls, e2, a2⟩ => by
    subst e1 e2
    obtain ⟨k1, k2⟩ := sameD_run h l2.gh (a1.mono l2.g) a2
    exact ⟨a, c, ks, ls, rfl, rfl, l2.h _ _ h1, h2, k1, k2, k _ G2 H2 (l1.trans l2) rfl⟩)
theorem et_cmpDic {op : CmpOp} {b : Bool} {pd : α → PyData} (ho : OpR X (compareOp op) (rDicE X.K b)) (h : SameD X.K r pd ds es') (ha : EvB X Γ e (oDic r ds)) (hb : EvB X Γ f (oDic r es')) (hm : behindInMarks op f = false := by first | exact nobehind _ (by decide) (by decide) | rfl) : EvT X Γ (.Compare e [op] [f] pos) b := fun E G H σ hh Q k =>
  WT.of (pt_cmpR ho WE.pe WE.pe hm) (ha E G H σ hh _ fun a o G1 H1 l1 h1 ⟨ks, e1, a1⟩ => hb E G1 H1 σ (hh.step l1) _ fun c o2 G2 H2 l2 h2 ⟨ls, e2, a2⟩ => by
    subst e1 e2
    obtain ⟨k1, k2⟩ := sameD_run h l2.gh (a1.mono l2.g) a2
    exact ⟨a, c, ks, ls, rfl, rfl, l2.h _ _ h1, h2, k1, k2, b, rfl, k G2 H2 (l1.trans l2)⟩)
end
/-! ### a dict that is handed in is walked as one's own, and given back -/
theorem psp_own {α β : Type} {K : PySem.W.Frag} {P : Program} {w : World} {mg : Str → Option Value} {base : Heap} {k : Nat} {f : Addr} {fd : FuncData} {ps : List Str} {r : Rp α} {s : Rp β} {Pre : List (Str × α) × Int → Prop} {res : List (Str × α) × Int → β} (th : ∀ x : α, Thin r x)
    (F : FnOk P w K mg base (CXL P w) k f fd ps (MSp (fun y : List (Key × V) × List (Str × α) × Int => Pre y.2) (fun y => [.ow (oKv y.1 r y.2.1), .ty ⟨rInt, y.2.2⟩]) s (fun y => res y.2) (fun y => [oKv y.1 r y.2.1]))) :
    FnOk P w K mg base (CXL P w) k f fd ps (PSp Pre (fun y => [⟨rDic r, y.1⟩, ⟨rInt, y.2⟩]) s res) :=
  F.imp fun vs H Q E ⟨y, G, hp, e, av, hq⟩ => by
    match vs, av with
    | [v1, v2], ⟨⟨p, kvs, e1, h1, h2⟩, h3, _⟩ =>
      subst e1
      have c0 : cutG G p p = none := by unfold cutG; rw [if_pos rfl]
      have ec : Ex (cutG G p) H := fun a o z => by
        unfold cutG at z
        split at z
        · cases z
        · exact e a o z
      refine ⟨(kvs, y.1, y.2), cutG G p, [p], hp, ec, by simp, ⟨⟨rfl, c0, _, e _ _ h1, rfl, ?_⟩, h3, trivial⟩, fun v G' H' l ow rv => ?_⟩
      · have z := h2
        rw [← cutG_upd h1] at z
        exact z.thin (by trivial) fun q _ => th q.2
      · obtain ⟨⟨g1, o, g2, g3, g4⟩, _⟩ := ow
        subst g3
        refine hq v (upd G' p (.dK kvs)) H' ⟨fun a u z => ?_, fun a u z => ?_, fun a u z => ?_, fun a u z1 z2 => ?_⟩ (s.mono (Evl.Ex.new g1) rv)
        · by_cases ea : a = p
          · subst ea; rw [h1] at z; rw [upd_same]; exact z
          · rw [upd_ne ea]; exact l.g a u (by unfold cutG; rw [if_neg ea]; exact z)
        · rcases l.h a u z with ⟨_, h⟩ | ⟨m, _⟩
          · exact h
          · have ea : a = p := by simpa using m
            subst ea
            rw [e _ _ h1] at z
            rw [g2]; exact z
        · by_cases ea : a = p
          · subst ea; rw [upd_same] at z; rw [g2]; exact z
          · rw [upd_ne ea] at z; exact l.gh a u z
        · have ea : a ≠ p := fun w => by subst w; rw [h1] at z2; cases z2
          rw [upd_ne ea] at z1
          exact l.new a u z1 (by unfold cutG; rw [if_neg ea]; exact z2)
end Hf

namespace Hf
open PySem PySem.Spec PyProof.Rows L2 ClX
/-- a dict of one's own, frozen where it stands -/
theorem Holds.freezeD {E : Ent} {G H : Hp} {σ : L2.St} {Γ : List Slot} {α : Type} {r : Rp α} {ds : List (Str × α)} {i : Nat} (h : Holds E G H σ Γ) (e : Γ[i]? = some (.ow (oDic r ds))) : ∃ G', Holds E G' H σ (Γ.set i (.sh (rDic r) ds)) := by
  obtain ⟨p, o, h1, h2, h3, h4, vs, h5, h6⟩ := h.ow e
  subst h5
  have hn : E.H p = none := h3
  refine ⟨upd G p (.dK vs), ⟨h.le.g.trans (Evl.Ex.new h2), h.le.h, fun a o q => ?_, fun a o q1 q2 => ?_, h.le.m⟩, h.fl.trans (Evl.Ex.new h2), by rw [List.length_set]; exact h.len, fun j s q => ?_, fun j k s t e1 e2 w1 w2 q => ?_⟩
  · by_cases z : a = p
    · subst z; rw [upd_same] at q; cases q; exact h4
    · rw [upd_ne z] at q; exact h.le.gh a o q
  · by_cases z : a = p
    · subst z; exact hn
    · rw [upd_ne z] at q1; exact h.le.new a o q1 q2
  · rcases get_set q with ⟨rfl, rfl⟩ | ⟨n, q⟩
    · exact ⟨_, h1, p, vs, rfl, upd_same, h6.mono (Evl.Ex.new h2)⟩
    · have w := h.ok j s q
      cases s with
      | no => trivial
      | sh r a =>
        obtain ⟨v, w1, w2⟩ := w
        exact ⟨v, w1, r.mono (Evl.Ex.new h2) w2⟩
      | ow c2 q2 =>
        obtain ⟨p2, o2, w1, w2, w3, w4, w5⟩ := w
        have np : p2 ≠ p := fun z => by
          subst z
          exact n (h.sep i j _ _ e q rfl rfl (by rw [h1, w1]))
        exact ⟨p2, o2, w1, by rw [upd_ne np]; exact w2, w3, w4, c2.mono (Evl.Ex.new h2) w5⟩
  · rcases get_set e1 with ⟨rfl, rfl⟩ | ⟨n1, e1⟩
    · cases w1
    · rcases get_set e2 with ⟨rfl, rfl⟩ | ⟨n2, e2⟩
      · cases w2
      · exact h.sep j k s t e1 e2 w1 w2 q
section
variable {X : Cx} {E : Ent} {Γ Γ' Γ1 Γ2 : List Slot} {D : Ends} {e f g o tg : Expr} {es : List Expr} {body rest : List Stmt} {pos p p2 apos cpos : Pos} {α β γ ι : Type} {r : Rp α} {x : α} {s : Rp β} {y : β} {as : List α} {ds : List (Str × α)} {k : Str} {j : Nat}
theorem bk_freezeD (i : Nat) (hg : Γ[i]? = some (.ow (oDic r ds))) (k : Bk X E (Γ.set i (.sh (rDic r) ds)) rest D) : Bk X E Γ rest D := fun G H σ hh => by
  obtain ⟨G', h'⟩ := hh.freezeD hg
  exact k G' H σ h'
/-- a, b = e, where e changes what is one's own -/
theorem bk_asgM {U : α → List Slot → List Slot} {vs : List Nat} (he : EvM X Γ Γ' e r x) (ht : TgOk X tg r U vs) (k : Bk X E (U x Γ') rest D) (hs : swapsWithSole [tg] e pos.line X.env = pure false := by rfl) (hw : swappedStores [tg] e X.env = pure none := by rfl)
    (h1 : (assignEach [tg] X.env).map (·.2) = [assign tg X.env] := by rfl) : Bk X E Γ (.Assign [tg] e pos :: rest) D :=
  bk_of (ps_asg WE.pe WG.pg hs hw h1) fun G H σ hh => he E G H σ hh _ fun v G1 H1 _ hh1 r1 => ht E G1 H1 σ Γ' v x hh1 r1 _ fun σ' _ hh' => k G1 H1 σ' hh'
/-- e[-1] -/
theorem em_last {d : α} {k : Nat} {p1 p2 : Pos} (h : EvM X Γ Γ' e (rLst r) as) (hn : as ≠ []) : EvM X Γ Γ' (.Subscript e (.UnaryOp .USub (.Constant (.int 1) k p1) p2) pos) r (as.getLastD d) := fun E G H σ hh Q q =>
  WE.of (pe_ix ix_list WE.pe (pe_un un_neg pe_int) (plain_of rfl)) (h E G H σ hh _ fun v G1 H1 g1 hh1 ⟨p, vs, e1, hp, ha⟩ => by
    subst e1
    refine ⟨1, rfl, ?_⟩
    obtain ⟨l, b, rfl⟩ : ∃ l b, as = l ++ [b] := ⟨as.dropLast, as.getLast hn, (List.dropLast_concat_getLast hn).symm⟩
    have hv := ha.concat
    obtain ⟨ws, w, rfl, rw'⟩ := hv
    exact ⟨p, ws ++ [w], -1, w, rfl, rfl, .inl (.inl (hh1.le.gh _ _ hp)), atI_last ws w, by
      have z : (l ++ [b]).getLastD d = b := by simp [List.getLastD_eq_getLast?]
      rw [z] at q
      exact q w G1 H1 g1 hh1 rw'⟩)
/-- for x in xs, xs a list of one's own that stays as it is -/
theorem bk_forO {S : Type} {U : α → List Slot → List Slot} {vs : List Nat} (i : Nat) {a : Str} {d : Addr} (mk : S → List Slot) (I : Nat → S → Prop) (s0 : S) (hp : PassesOwn (model X.prog X.w) X.A X.env X.xe) (hg : Γ[i]? = some (.ow (oLst r as) (some d))) (ht : TgOk X tg r U vs) (h0 : I 0 s0)
    (hΓ : ∀ (G H : Hp) (σ : L2.St), Holds E G H σ Γ → Holds E G H σ (mk s0)) (hm : ∀ s, (mk s)[i]? = some (.ow (oLst r as) (some d)))
    (step : ∀ F n s x, as[n]? = some x → I n s → ∀ (rt : VK) (bk : L2.St → Hp → Prop), Bk X { E with F := F } (U x (mk s)) body
      { nx := fun σ H => ∃ s', I (n + 1) s' ∧ At { E with F := F } (mk s') σ H, rt := rt, bk := bk, ct := fun σ H => ∃ s', I (n + 1) s' ∧ At { E with F := F } (mk s') σ H })
    (done : ∀ s, I as.length s → Bk X E (mk s) rest D) (hc : X.calm = true := by rfl) (hs : ∀ x, foldedSetIterable (.Name a p) X.env x = pure x := by intro _; rfl)
    (hN : X.N[i]? = some a := by rfl) (hv : Vis X.env.scope a := by first | exact Or.inl rfl | exact Or.inr (Or.inl rfl) | exact Or.inr (Or.inr rfl)) (hd : (a == ("__debug__" : Str)) = false := by decide) (hcd : (a == ("__classdict__" : Str)) = false := by decide) :
    Bk X E Γ (.For tg (.Name a p) body [] pos :: rest) D :=
  bk_of (ps_for hp hc (pi_list (pe_var hN hv hd hcd)) (WG.pg (tg := tg)) WB.pss hs) fun G H σ hh => by
    obtain ⟨q, o, h1, h2, h3, h4, vs0, h5, h6⟩ := hh.ow hg
    subst h5
    have eq : q = d := h3.1
    subst eq
    refine ⟨_, h1, q, rfl, ⟨vs0, .inl (.inl h4)⟩, ?_⟩
    refine ⟨fun n m σ H => m = as.length - n ∧ n ≤ as.length ∧ ∃ s G1, I n s ∧ Holds { E with F := G } G1 H σ (mk s), ⟨as.length, by simp, Nat.zero_le _, s0, G, h0, (hΓ _ _ _ hh).floor (.refl _)⟩, ?_⟩
    rintro n m σ' H' ⟨rfl, hn, s, G2, hs, hh2⟩
    obtain ⟨q', o', w1, w2, w3, w4, vs1, w5, w6⟩ := hh2.ow (hm s)
    have eq : q' = q := w3.1
    subst eq w5
    by_cases lt : n < as.length
    · obtain ⟨v, ev, rv⟩ := w6.get (List.getElem?_eq_getElem lt)
      refine .inr ⟨⟨vs1, v, .inl (.inl w4), ev⟩, fun σ' H' => ∃ s', I (n + 1) s' ∧ At { E with F := G } (mk s') σ' H', fun σ' H' ⟨s', i', G', h'⟩ => ⟨as.length - (n + 1), by omega, rfl, lt, s', G', i', h'⟩, fun x H'' yy => ?_⟩
      obtain ⟨e1, e2⟩ := yy
      subst e1
      have e3 := e2 vs1 (.inl (.inl w4))
      rw [ev] at e3
      cases e3
      refine ht { E with F := G } G2 _ σ' _ v as[n] hh2 rv _ fun σ3 _ hh3 => ?_
      exact step G n s as[n] (List.getElem?_eq_getElem lt) hs _ _ G2 _ σ3 hh3
    · have e : n = as.length := by omega
      subst e
      exact .inl ⟨⟨vs1, .inl (.inl w4), by rw [w6.length]; exact Nat.le_refl _⟩, done s hs G2 _ σ' (hh2.unfloor (hh.fl.trans hh2.fl))⟩
end
theorem op_neDicR {X : Cx} {k : Nat} (hr : Room k X.A) : OpR X (compareOp .NotEq) (rDicE X.K false) := op_neDic (by have := hr.un; omega)
theorem op_eqDicR {X : Cx} {k : Nat} (hr : Room k X.A) : OpR X (compareOp .Eq) (rDicE X.K true) := op_eqDic (by have := hr.un; omega)
theorem rowB {w : Pl} (h : w.isLeaf = false) : decide (w.kind = ("row" : Str)) = w.isRow := (row_of rfl).symm
theorem min_if {a b : Int} : (if b < a then b else a) = min a b := by split <;> omega
theorem max_if {a b : Int} : (if b > a then b else a) = max a b := by split <;> omega
end Hf

namespace Hf
open PySem PySem.Spec PyProof.Rows L2 ClX
/-! ### dicts made name by name -/
theorem dPut_new {α : Type} {ds : List (Str × α)} {n : Str} {a : α} (h : n ∉ ds.map (·.1)) : dPut ds n a = ds ++ [(n, a)] := by
  unfold dPut
  rw [if_neg]
  intro z
  obtain ⟨q, hq, e⟩ := List.any_eq_true.mp z
  exact h (List.mem_map.mpr ⟨q, hq, of_decide_eq_true e⟩)
theorem foldPut {α β : Type} (f : β → Str) (g : β → α) : ∀ (l : List β) (ds : List (Str × α)), (ds.map (·.1) ++ l.map f).Nodup → l.foldl (fun (d : List (Str × α)) (b : β) => dPut d (f b) (g b)) ds = ds ++ l.map fun b => (f b, g b)
  | [], ds, _ => by simp
  | b :: l, ds, nd => by
    rw [List.map_cons] at nd
    have h : f b ∉ ds.map (·.1) := fun z => by
      rw [List.nodup_append] at nd
      exact nd.2.2 (f b) z (f b) List.mem_cons_self rfl
    rw [List.foldl_cons, dPut_new h, foldPut f g l (ds ++ [(f b, g b)]) (by simpa using nd)]
    simp
theorem foldPut_len {α β : Type} (f : β → Str) (g : β → α) : ∀ (l : List β) (ds : List (Str × α)), (l.foldl (fun (d : List (Str × α)) (b : β) => dPut d (f b) (g b)) ds).length ≤ ds.length + l.length
  | [], ds => by simp
  | b :: l, ds => by
    have := foldPut_len f g l (dPut ds (f b) (g b))
    have := dPut_len (a := g b) (k := f b) (ds := ds)
    rw [List.foldl_cons, List.length_cons]
    omega
theorem dGet_mem {α : Type} : ∀ {ds : List (Str × α)} {q : Str × α}, (ds.map (·.1)).Nodup → q ∈ ds → dGet ds q.1 = some q.2
  | [], q, _, h => by simp at h
  | p :: ds, q, nd, h => by
    rw [List.map_cons, List.nodup_cons] at nd
    rcases List.mem_cons.mp h with rfl | h
    · exact dGet_pos rfl
    · rw [dGet_neg (fun z => nd.1 (List.mem_map.mpr ⟨q, h, z.symm⟩))]
      exact dGet_mem nd.2 h
theorem dGet_in {α : Type} {ds : List (Str × α)} {n : Str} (h : n ∈ ds.map (·.1)) : ∃ a, dGet ds n = some a ∧ (n, a) ∈ ds := by
  induction ds with
  | nil => simp at h
  | cons p ds ih =>
    by_cases e : p.1 = n
    · exact ⟨p.2, dGet_pos e, by rw [← e]; exact List.mem_cons_self⟩
    · rw [List.map_cons] at h
      rcases List.mem_cons.mp h with z | z
      · exact absurd z.symm e
      · obtain ⟨a, h1, h2⟩ := ih z
        exact ⟨a, by rw [dGet_neg e]; exact h1, List.mem_cons_of_mem _ h2⟩
theorem enumL_map {α : Type} (as : List α) : (enumL as).map (fun q => q.2) = as := by
  unfold enumL
  rw [List.map_map]
  exact List.zipIdx_map_fst 0 as
theorem enumL_mem {α : Type} {as : List α} {q : Int × α} (h : q ∈ enumL as) : q.2 ∈ as ∧ 0 ≤ q.1 ∧ q.1 < (as.length : Int) := by
  obtain ⟨i, lt, e⟩ := List.mem_iff_getElem.mp h
  have e' : (enumL as)[i]? = some q := by rw [List.getElem?_eq_getElem lt, e]
  obtain ⟨a, h1, h2⟩ := enum_at e'
  subst h2
  have lt2 := (List.getElem?_eq_some_iff.mp h1).1
  exact ⟨List.mem_of_getElem? h1, by simp only; omega, by simp only; omega⟩
/-! ### paces, drawn -/
def cut3 (c : Int) (k : Nat) : Int := (numbersL c [12, 9, 8]).getD k 0
theorem cut3_in (c : Int) : (0 ≤ cut3 c 0 ∧ cut3 c 0 < 12) ∧ (0 ≤ cut3 c 1 ∧ cut3 c 1 < 9) ∧ (0 ≤ cut3 c 2 ∧ cut3 c 2 < 8) := by
  have m : ∀ (i n : Int), 0 < n → 0 ≤ i % n ∧ i % n < n := fun i n h => ⟨Int.emod_nonneg _ (by omega), Int.emod_lt_of_pos _ h⟩
  exact ⟨m _ _ (by decide), m _ _ (by decide), m _ _ (by decide)⟩
def paceC (cell k : Int) : Int := cell / (k + 1) + 31 * k
def leastL (cell k : Int) : Int := if decide (cut3 (paceC cell k) 2 < 7) = true then cut3 (paceC cell k) 0 else 1000 - cut3 (paceC cell k) 1
def paceL (cell k : Int) : Int × Int := (leastL cell k, min 1000 (leastL cell k + cut3 (paceC cell k) 1))
theorem pace_isp (cell k : Int) : isPaceB (paceL cell k) = true := by
  obtain ⟨h0, h1, h2⟩ := cut3_in (paceC cell k)
  have : 0 ≤ leastL cell k ∧ leastL cell k ≤ 1000 := by unfold leastL; split <;> omega
  have e1 : (paceL cell k).1 = leastL cell k := rfl
  have e2 : (paceL cell k).2 = min 1000 (leastL cell k + cut3 (paceC cell k) 1) := rfl
  simp only [isPaceB, isNum, Bool.and_eq_true, decide_eq_true_eq]
  rw [e1, e2]
  omega
def pacesL (p : Pl) (cell : Int) : List (Str × (Int × Int)) := (enumL p.leaves).foldl (fun (d : List (Str × (Int × Int))) (q : Int × Pl) => dPut d q.2.name (paceL cell q.1)) []
theorem leaf_names {p : Pl} (nd : p.names.Nodup) : (p.leaves.map Pl.name).Nodup := by
  refine ((leaves_sub p).map Pl.name).nodup ?_
  rw [all_names]
  exact nd
theorem paces_eq {p : Pl} {cell : Int} (nd : p.names.Nodup) : pacesL p cell = (enumL p.leaves).map fun q => (q.2.name, paceL cell q.1) := by
  have z := foldPut (fun q : Int × Pl => q.2.name) (fun q : Int × Pl => paceL cell q.1) (enumL p.leaves) [] (by
    rw [List.map_nil, List.nil_append, show (fun q : Int × Pl => q.2.name) = Pl.name ∘ (fun q : Int × Pl => q.2) from rfl, ← List.map_map, enumL_map]
    exact leaf_names nd)
  unfold pacesL
  rw [z, List.nil_append]
theorem paces_keys {p : Pl} {cell : Int} (nd : p.names.Nodup) : (pacesL p cell).map (·.1) = p.leaves.map Pl.name := by
  rw [paces_eq nd, List.map_map, show ((fun x : Str × (Int × Int) => x.1) ∘ fun q : Int × Pl => (q.2.name, paceL cell q.1)) = Pl.name ∘ (fun q : Int × Pl => q.2) from rfl, ← List.map_map, enumL_map]
/-- paces for the leaves of p, each by its name -/
structure PcOk (p : Pl) (pc : List (Str × (Int × Int))) : Prop where
  keys : pc.map (·.1) = p.leaves.map Pl.name
  nd : (p.leaves.map Pl.name).Nodup
  is : ∀ q ∈ pc, isPaceB q.2 = true
theorem PcOk.get {p : Pl} {pc : List (Str × (Int × Int))} (h : PcOk p pc) {n : Str} (m : n ∈ pc.map (·.1)) : dGet pc n = some (pg pc n) ∧ isPaceB (pg pc n) = true := by
  obtain ⟨a, h1, h2⟩ := dGet_in m
  have e : pg pc n = a := by unfold pg; rw [h1]; rfl
  rw [e]
  exact ⟨h1, h.is _ h2⟩
theorem PcOk.len {p : Pl} {pc : List (Str × (Int × Int))} (h : PcOk p pc) : pc.length = p.leaves.length := by
  have z := congrArg List.length h.keys
  simpa using z
theorem PcOk.ok {p : Pl} {pc : List (Str × (Int × Int))} (h : PcOk p pc) : PacesOk p pc := ⟨h.len, fun l hl => by
  obtain ⟨a, b⟩ := h.get (n := l.name) (by rw [h.keys]; exact List.mem_map.mpr ⟨l, hl, rfl⟩)
  exact ⟨_, a, b⟩⟩
theorem paces_ok {p : Pl} {cell : Int} (nd : p.names.Nodup) : PcOk p (pacesL p cell) := ⟨paces_keys nd, leaf_names nd, fun q hq => by
  rw [paces_eq nd] at hq
  obtain ⟨z, _, rfl⟩ := List.mem_map.mp hq
  exact pace_isp _ _⟩
/-- paces between these -/
def oneB (pc : List (Str × (Int × Int))) (cell : Int) (q : Int × Str) : Int := (pg pc q.2).1 + (cell + 17 * q.1) * 48271 % 1009 % ((pg pc q.2).2 - (pg pc q.2).1 + 1)
def betweenL (pc : List (Str × (Int × Int))) (cell : Int) : List (Str × (Int × Int)) := (enumL (pc.map (·.1))).foldl (fun (d : List (Str × (Int × Int))) (q : Int × Str) => dPut d q.2 (oneB pc cell q, oneB pc cell q)) []
def sameL (pc : List (Str × (Int × Int))) (wh : Int) : List (Str × (Int × Int)) := (pc.map (·.1)).foldl (fun (d : List (Str × (Int × Int))) (n : Str) => dPut d n (pk (pg pc n) wh, pk (pg pc n) wh)) []
theorem is_pace {a : Int × Int} (h : isPaceB a = true) : 0 ≤ a.1 ∧ a.1 ≤ a.2 ∧ a.2 ≤ 1000 := by
  simp only [isPaceB, isNum, Bool.and_eq_true, decide_eq_true_eq] at h
  omega
theorem pace_is {i : Int} (h : 0 ≤ i ∧ i ≤ 1000) : isPaceB (i, i) = true := by
  simp only [isPaceB, isNum, Bool.and_eq_true, decide_eq_true_eq]
  omega
theorem pk_in {a : Int × Int} (h : isPaceB a = true) (wh : Int) : a.1 ≤ pk a wh ∧ pk a wh ≤ a.2 := by
  have := is_pace h
  unfold pk
  split <;> omega
theorem one_in {p : Pl} {pc : List (Str × (Int × Int))} (h : PcOk p pc) (cell : Int) {q : Int × Str} (m : q.2 ∈ pc.map (·.1)) : (pg pc q.2).1 ≤ oneB pc cell q ∧ oneB pc cell q ≤ (pg pc q.2).2 := by
  have b := is_pace (h.get m).2
  unfold oneB
  have z1 := Int.emod_nonneg ((cell + 17 * q.1) * 48271 % 1009) (b := (pg pc q.2).2 - (pg pc q.2).1 + 1) (by omega)
  have z2 := Int.emod_lt_of_pos ((cell + 17 * q.1) * 48271 % 1009) (b := (pg pc q.2).2 - (pg pc q.2).1 + 1) (by omega)
  omega
theorem between_eq {p : Pl} {pc : List (Str × (Int × Int))} (h : PcOk p pc) {cell : Int} : betweenL pc cell = (enumL (pc.map (·.1))).map fun q => (q.2, (oneB pc cell q, oneB pc cell q)) := by
  have z := foldPut (fun q : Int × Str => q.2) (fun q : Int × Str => (oneB pc cell q, oneB pc cell q)) (enumL (pc.map (·.1))) [] (by
    rw [List.map_nil, List.nil_append, enumL_map, h.keys]
    exact h.nd)
  unfold betweenL
  rw [z, List.nil_append]
theorem between_ok {p : Pl} {pc : List (Str × (Int × Int))} (h : PcOk p pc) {cell : Int} : PcOk p (betweenL pc cell) := ⟨by
  rw [between_eq h, List.map_map, show ((fun x : Str × (Int × Int) => x.1) ∘ fun q : Int × Str => (q.2, (oneB pc cell q, oneB pc cell q))) = fun q : Int × Str => q.2 from rfl, enumL_map]
  exact h.keys, h.nd, fun q hq => by
  rw [between_eq h] at hq
  obtain ⟨z, hz, rfl⟩ := List.mem_map.mp hq
  have m := (enumL_mem hz).1
  have a := one_in h cell (q := z) m
  have b := is_pace (h.get m).2
  exact pace_is ⟨by omega, by omega⟩⟩
theorem between_get {p : Pl} {pc : List (Str × (Int × Int))} (h : PcOk p pc) {cell : Int} {n : Str} (m : n ∈ pc.map (·.1)) : ∃ o, pg (betweenL pc cell) n = (o, o) ∧ (pg pc n).1 ≤ o ∧ o ≤ (pg pc n).2 := by
  have hb := between_ok h (cell := cell)
  obtain ⟨a, h1, h2⟩ := dGet_in (ds := betweenL pc cell) (n := n) (by rw [hb.keys, ← h.keys]; exact m)
  have e : pg (betweenL pc cell) n = a := by unfold pg; rw [h1]; rfl
  rw [between_eq h] at h2
  obtain ⟨z, hz, e2⟩ := List.mem_map.mp h2
  injection e2 with e3 e4
  subst e3
  rw [e, ← e4]
  exact ⟨_, rfl, one_in h cell m⟩
theorem same_eq {p : Pl} {pc : List (Str × (Int × Int))} (h : PcOk p pc) {wh : Int} : sameL pc wh = (pc.map (·.1)).map fun n => (n, (pk (pg pc n) wh, pk (pg pc n) wh)) := by
  have z := foldPut (fun n : Str => n) (fun n : Str => (pk (pg pc n) wh, pk (pg pc n) wh)) (pc.map (·.1)) [] (by
    rw [List.map_nil, List.nil_append, List.map_id', h.keys]
    exact h.nd)
  unfold sameL
  rw [z, List.nil_append]
theorem same_ok {p : Pl} {pc : List (Str × (Int × Int))} (h : PcOk p pc) {wh : Int} : PcOk p (sameL pc wh) := ⟨by
  rw [same_eq h, List.map_map, show ((fun x : Str × (Int × Int) => x.1) ∘ fun n : Str => (n, (pk (pg pc n) wh, pk (pg pc n) wh))) = fun n : Str => n from rfl, List.map_id']
  exact h.keys, h.nd, fun q hq => by
  rw [same_eq h] at hq
  obtain ⟨z, hz, rfl⟩ := List.mem_map.mp hq
  have a := pk_in (h.get hz).2 wh
  have b := is_pace (h.get hz).2
  exact pace_is ⟨by omega, by omega⟩⟩
theorem same_get {p : Pl} {pc : List (Str × (Int × Int))} (h : PcOk p pc) {wh : Int} {n : Str} (m : n ∈ pc.map (·.1)) : pg (sameL pc wh) n = (pk (pg pc n) wh, pk (pg pc n) wh) := by
  have hb := same_ok h (wh := wh)
  obtain ⟨a, h1, h2⟩ := dGet_in (ds := sameL pc wh) (n := n) (by rw [hb.keys, ← h.keys]; exact m)
  have e : pg (sameL pc wh) n = a := by unfold pg; rw [h1]; rfl
  rw [same_eq h] at h2
  obtain ⟨z, hz, e2⟩ := List.mem_map.mp h2
  injection e2 with e3 e4
  subst e3
  rw [e, ← e4]
/-! ### the time left, all steps known -/
namespace Pl
mutual
def leftN (did : List (Str × Int)) (pc : List (Str × (Int × Int))) (wh : Int) : Pl → Int
  | .leaf n s => (s.getD 0 - dg did n) * pk (pg pc n) wh
  | .lot r _ ps => togV r (leftNs did pc wh ps)
def leftNs (did : List (Str × Int)) (pc : List (Str × (Int × Int))) (wh : Int) : List (Int × Pl) → List Int
  | [] => []
  | (_, w) :: ps => leftN did pc wh w :: leftNs did pc wh ps
end
theorem leftNs_map {did : List (Str × Int)} {pc : List (Str × (Int × Int))} {wh : Int} : ∀ ps : List (Int × Pl), leftNs did pc wh ps = ps.map fun q : Int × Pl => leftN did pc wh q.2
  | [] => by simp only [leftNs, List.map_nil]
  | (i, w) :: ps => by simp only [leftNs, List.map_cons]; rw [leftNs_map ps]
end Pl
def Known (w : Pl) : Prop := ∀ l ∈ w.leaves, l.steps.isNone = false
theorem Known.part {w : Pl} (h : Known w) {q : Int × Pl} (m : q ∈ w.parts) : Known q.2 := fun l hl => h l (leaves_of_part m hl)
theorem leftN_leaf {w : Pl} {did : List (Str × Int)} {pc : List (Str × (Int × Int))} {wh : Int} (hl : w.isLeaf = true) : Pl.leftN did pc wh w = (w.steps.getD 0 - (dGet did w.name).getD 0) * pk (pg pc w.name) wh := by
  cases w with
  | leaf n s => simp only [Pl.leftN]; rfl
  | lot r n ps => simp [Pl.isLeaf] at hl
theorem leftN_lot {w : Pl} {did : List (Str × Int)} {pc : List (Str × (Int × Int))} {wh : Int} (hl : w.isLeaf = false) : Pl.leftN did pc wh w = togV w.isRow (w.parts.map fun q : Int × Pl => Pl.leftN did pc wh q.2) := by
  obtain ⟨r, n, ps, rfl⟩ := lot_of hl
  simp only [Pl.leftN, Pl.leftNs_map]
  have : (Pl.lot r n ps).isRow = r := by cases r <;> rfl
  rw [this]
  rfl
theorem left_known {did : List (Str × Int)} {pc : List (Str × (Int × Int))} {wh : Int} : ∀ {w : Pl}, Known w → Pl.leftV did pc wh w = some (Pl.leftN did pc wh w) := fun {w} => by
  have key : ∀ (k : Nat) (w : Pl), w.depth ≤ k → Known w → Pl.leftV did pc wh w = some (Pl.leftN did pc wh w) := fun k => by
    induction k with
    | zero => intro w h; have := Pl.depth_pos w; omega
    | succ k ih =>
      intro w hd hk
      cases hl : w.isLeaf with
      | true =>
        have hs := hk w (by rw [leaves_leaf hl]; exact List.mem_cons_self)
        rw [left_leaf hl hs, leftN_leaf hl]
      | false =>
        rw [left_lot hl, leftN_lot hl]
        have e : (w.parts.map fun q : Int × Pl => Pl.leftV did pc wh q.2) = w.parts.map fun q : Int × Pl => some (Pl.leftN did pc wh q.2) :=
          List.map_congr_left fun q hq => ih q.2 (by have := Pl.part_depth hq; omega) (hk.part hq)
        rw [e, if_neg (by rw [List.any_map]; simp), List.map_map]
        rfl
  exact fun h => key w.depth w (Nat.le_refl _) h
theorem left_unknown {did : List (Str × Int)} {pc : List (Str × (Int × Int))} {wh : Int} : ∀ {w : Pl}, (∃ l ∈ w.leaves, l.steps.isNone = true) → Pl.leftV did pc wh w = none := fun {w} => by
  have key : ∀ (k : Nat) (w : Pl), w.depth ≤ k → (∃ l ∈ w.leaves, l.steps.isNone = true) → Pl.leftV did pc wh w = none := fun k => by
    induction k with
    | zero => intro w h; have := Pl.depth_pos w; omega
    | succ k ih =>
      intro w hd ⟨l, hm, hs⟩
      cases hl : w.isLeaf with
      | true =>
        rw [leaves_leaf hl, List.mem_singleton] at hm
        subst hm
        exact left_leaf0 hl hs
      | false =>
        rw [leaves_eq w hl, Pl.leavess_eq] at hm
        obtain ⟨q, hq, hm⟩ := List.mem_flatMap.mp hm
        rw [left_lot hl, if_pos]
        refine List.any_eq_true.mpr ⟨_, List.mem_map.mpr ⟨q, hq, rfl⟩, ?_⟩
        rw [ih q.2 (by have := Pl.part_depth hq; omega) ⟨l, hm, hs⟩]
        rfl
  exact fun h => key w.depth w (Nat.le_refl _) h
theorem leftT_known {p : Pl} {did : List (Str × Int)} {pc : List (Str × (Int × Int))} (h : Known p) : leftT p did pc = some (Pl.leftN did pc 0 p, Pl.leftN did pc 1 p) := by
  unfold leftT
  rw [left_known h, left_known h]
  rfl
theorem leftT_unknown {p : Pl} {did : List (Str × Int)} {pc : List (Str × (Int × Int))} (h : ∃ l ∈ p.leaves, l.steps.isNone = true) : leftT p did pc = none := by
  unfold leftT
  rw [left_unknown h]
  rfl
theorem maxL_mono {α : Type} {f g : α → Int} {l : List α} (hl : l ≠ []) (h : ∀ a ∈ l, f a ≤ g a) : maxL (l.map f) ≤ maxL (l.map g) := by
  have hm : ∀ ns : List Int, ns ≠ [] → maxL ns ∈ ns ∧ ∀ y ∈ ns, y ≤ maxL ns := fun ns hn => by
    cases ns with
    | nil => exact absurd rfl hn
    | cons a l => exact foldl_max_mem l a
  obtain ⟨m, _⟩ := hm (l.map f) (by simpa using hl)
  obtain ⟨a, ha, e⟩ := List.mem_map.mp m
  have z := (hm (l.map g) (by simpa using hl)).2 (g a) (List.mem_map.mpr ⟨a, ha, rfl⟩)
  have := h a ha
  omega
theorem sum_mono {α : Type} {f g : α → Int} : ∀ {l : List α}, (∀ a ∈ l, f a ≤ g a) → (l.map f).sum ≤ (l.map g).sum
  | [], _ => by simp
  | a :: l, h => by
    have := sum_mono (f := f) (g := g) (l := l) fun b hb => h b (List.mem_cons_of_mem _ hb)
    have := h a List.mem_cons_self
    simp only [List.map_cons, List.sum_cons]
    omega
theorem leftN_mono {did : List (Str × Int)} {pc pc' : List (Str × (Int × Int))} {wh wh' : Int} : ∀ {w : Pl}, w.Fit → Known w → CntOk did w → (∀ l ∈ w.leaves, pk (pg pc l.name) wh ≤ pk (pg pc' l.name) wh') → Pl.leftN did pc wh w ≤ Pl.leftN did pc' wh' w := fun {w} => by
  have key : ∀ (k : Nat) (w : Pl), w.depth ≤ k → w.Fit → Known w → CntOk did w → (∀ l ∈ w.leaves, pk (pg pc l.name) wh ≤ pk (pg pc' l.name) wh') → Pl.leftN did pc wh w ≤ Pl.leftN did pc' wh' w := fun k => by
    induction k with
    | zero => intro w h; have := Pl.depth_pos w; omega
    | succ k ih =>
      intro w hd hf hk hc hp
      cases hl : w.isLeaf with
      | true =>
        have m : w ∈ w.leaves := by rw [leaves_leaf hl]; exact List.mem_cons_self
        have h1 := hp w m
        have h2 := hk w m
        rw [leftN_leaf hl, leftN_leaf hl]
        refine Int.mul_le_mul_of_nonneg_left h1 ?_
        cases w with
        | lot r n ps => simp [Pl.isLeaf] at hl
        | leaf n s =>
          cases s with
          | none => simp [Pl.steps] at h2
          | some i =>
            have z := (hc n i (by simp [Pl.all])).2
            show 0 ≤ i - dg did n
            omega
      | false =>
        have hpp : ∀ q ∈ w.parts, Pl.leftN did pc wh q.2 ≤ Pl.leftN did pc' wh' q.2 := fun q hq => ih q.2 (by have := Pl.part_depth hq; omega) (fit_part hf hq) (hk.part hq) (hc.part hq) fun l hm => hp l (leaves_of_part hq hm)
        rw [leftN_lot hl, leftN_lot hl]
        unfold togV
        split
        · exact sum_mono hpp
        · exact maxL_mono (fit_ne hf hl) hpp
  exact fun hf hk hc hp => key w.depth w (Nat.le_refl _) hf hk hc hp
/-- between: the same twice, and between -/
theorem left_between {p : Pl} {did : List (Str × Int)} {pc : List (Str × (Int × Int))} {cell : Int} (hf : p.Fit) (hk : Known p) (hc : CntOk did p) (h : PcOk p pc) :
    Pl.leftN did (betweenL pc cell) 0 p = Pl.leftN did (betweenL pc cell) 1 p ∧ Pl.leftN did pc 0 p ≤ Pl.leftN did (betweenL pc cell) 0 p ∧ Pl.leftN did (betweenL pc cell) 0 p ≤ Pl.leftN did pc 1 p := by
  have g : ∀ l ∈ p.leaves, ∃ o, pg (betweenL pc cell) l.name = (o, o) ∧ (pg pc l.name).1 ≤ o ∧ o ≤ (pg pc l.name).2 := fun l hl => between_get h (by rw [h.keys]; exact List.mem_map.mpr ⟨l, hl, rfl⟩)
  have a : ∀ (i j : Int), ∀ l ∈ p.leaves, pk (pg (betweenL pc cell) l.name) i ≤ pk (pg (betweenL pc cell) l.name) j := fun i j l hl => by
    obtain ⟨o, e, _⟩ := g l hl
    rw [e]
    unfold pk
    split <;> split <;> exact Int.le_refl _
  refine ⟨Int.le_antisymm (leftN_mono hf hk hc (a 0 1)) (leftN_mono hf hk hc (a 1 0)), leftN_mono hf hk hc fun l hl => ?_, leftN_mono hf hk hc fun l hl => ?_⟩
  · obtain ⟨o, e, h1, h2⟩ := g l hl
    rw [e]
    exact h1
  · obtain ⟨o, e, h1, h2⟩ := g l hl
    rw [e]
    exact h2
theorem left_same {p : Pl} {did : List (Str × Int)} {pc : List (Str × (Int × Int))} {wh i : Int} (hf : p.Fit) (hk : Known p) (hc : CntOk did p) (h : PcOk p pc) : Pl.leftN did (sameL pc wh) i p = Pl.leftN did pc wh p := by
  have g : ∀ l ∈ p.leaves, pk (pg (sameL pc wh) l.name) i = pk (pg pc l.name) wh := fun l hl => by
    rw [same_get h (by rw [h.keys]; exact List.mem_map.mpr ⟨l, hl, rfl⟩)]
    unfold pk
    split <;> rfl
  exact Int.le_antisymm (leftN_mono hf hk hc fun l hl => by rw [g l hl]; exact Int.le_refl _) (leftN_mono hf hk hc fun l hl => by rw [g l hl]; exact Int.le_refl _)
/-- a dict is the same as itself -/
theorem same_self {K : PySem.W.Frag} {p : Pl} {pc : List (Str × (Int × Int))} (h : PcOk p pc) : SameD K (rT2 K rInt rInt) pdPair pc pc := ⟨rfl, fun q hq => ⟨dGet_mem (by rw [h.keys]; exact h.nd) hq, eqv_pair, by rw [pdPair_eqv]; simp⟩⟩
theorem thin_pair {K : PySem.W.Frag} (x : Int × Int) : Thin (rT2 K rInt rInt) x := thin_T2 thin_int thin_int
end Hf

namespace Hf
open PySem PySem.Spec PyProof.Rows L2 ClX
/-! ### refusals: defs that may raise one of the program's own exceptions -/
/-- an exception's class, as raise wants it -/
structure ExOk (K : PySem.W.Frag) (mg : Str → Option Value) (x : Str) (C : Addr) : Prop where
  g : mg x = some (.ref C)
  k : PySem.W.keepIn K (.ref C) = true
  q : ∃ bmB : List Value, ExcBaseFacts "ValueError" "ValueError.__new__" "ValueError.__init__" bmB ∧ PySem.W.excIn K C bmB "ValueError.__new__" = true
  r1 : PySem.W.subIn K (.ref C) (.type "BaseException") = some true
  r2 : PySem.W.typeIn K (.ref C) = some (.type "type")
/-- a def that reads; where bad tells a class it raises that one -/
def RSp {ι : Type} (Pre : ι → Prop) (args : ι → List Ty) {α : Type} (r : Rp α) (res : ι → α) (bad : ι → Option Addr) : Sp := fun vs H Q E => ∃ (y : ι) (G : Hp), Pre y ∧ Ex G H ∧ Args G vs (args y) ∧
  (bad y = none → ∀ v G' H', Le G H G' H' → r.rel G' v (res y) → Q v H') ∧ ∀ C, bad y = some C → ∀ G' H', Le G H G' H' → E (.ref C) none H'
structure HasR (P : Program) (w : World) (K : PySem.W.Frag) (mg : Str → Option Value) (base : Heap) (x : Str) (k : Nat) (sp : Sp) : Prop where
  ex : ∃ (f : Addr) (fd : FuncData) (ps : List Str), mg x = some (.ref f) ∧ PySem.W.keepIn K (.ref f) = true ∧ Binds K fd ps [] ∧ FnOk P w K mg base (CXL P w) k f fd ps sp
theorem HasR.pure {P : Program} {w : World} {K : PySem.W.Frag} {mg : Str → Option Value} {base : Heap} {x : Str} {k : Nat} {ι α : Type} {Pre : ι → Prop} {args : ι → List Ty} {r : Rp α} {res : ι → α} {bad : ι → Option Addr} (h : HasR P w K mg base x k (RSp Pre args r res bad)) :
    Has P w K mg base x k (PSp (fun y => Pre y ∧ bad y = none) args r res) := by
  obtain ⟨f, fd, ps, hm, hk, hb, F⟩ := h.ex
  exact ⟨f, fd, ps, _, [], [], hm, hk, hb, .nil, F, fun vs H Q ⟨y, G, ⟨hp, hn⟩, e, a, q⟩ => by
    rw [List.append_nil]
    exact ⟨y, G, hp, e, a, fun _ => q, fun C hC => by rw [hn] at hC; cases hC⟩⟩
section
variable {P : Program} {w : World} {K : PySem.W.Frag} {mg : Str → Option Value} {base : Heap} {x qual : Str} {params : Arguments} {body : List Stmt} {scope : Scope} {dvs : List V} {kws : List (Str × V)} {f : Addr} {fd : FuncData}
theorem fn_ref {N ps : List Str} {k : Nat} {ι : Type} {Pre : ι → Prop} {args : ι → List Ty} {α : Type} {r : Rp α} {res : ι → α} {bad : ι → Option Addr} (F : FunD K x qual params body scope dvs kws f fd) (S : FnScope N ps scope) (hl : ∀ y, (args y).length = ps.length)
    (hb : ∀ (y : ι), Pre y → ∀ (cdv : Value) (A : Around) (outer : List Env) (s : Shared) (H : Hp) (E1 : XK) (G : Hp) (D : Ends), Room k (A.deeper (envOfC qual scope s.heap.objs.size f cdv)) → (bad y = none → RetOk { G := G, H := H } D r (res y)) → (bad y = none → ∀ σ G' H', LeE G H (fun _ => False) G' H' → r.rel G' .non (res y) → D.nx σ H') →
      (∀ C, bad y = some C → ∀ G' H', LeE G H (fun _ => False) G' H' → E1 (.ref C) none H') → Takes (cxOf (CXL P w) P w K mg base N qual scope f cdv A outer s H E1) (fun cls d _ H' => E1 cls d H') →
      Bk (cxOf (CXL P w) P w K mg base N qual scope f cdv A outer s H E1) { G := G, H := H } (slots0 (args y) (N.length - ps.length)) body D) :
    FnOk P w K mg base (CXL P w) (k + 1) f fd ps (RSp Pre args r res bad) := by
  refine F.ok S (fun vs H Q E ⟨y, G, _, _, a, _⟩ => by rw [args_length a, hl]) fun cdv A outer s H vs Q E hr ⟨y, G, hp, e, a, hq, hx⟩ => ⟨_, WB.pss, ?_⟩
  have h := holds_start (N := N) e a (by rw [hl]; have z := congrArg List.length S.pre; rw [List.length_take] at z; omega)
  rw [hl] at h
  exact hb y hp cdv A outer s H E G _ hr (fun n v G' H' l rv => hq n v G' H' (l.le fun _ z => z) rv) (fun n σ G' H' l rv => hq n _ G' H' (l.le fun _ z => z) rv) (fun C hC G' H' l => hx C hC G' H' (l.le fun _ z => z)) (takes_of rfl rfl rfl rfl) G H _ h
end
theorem HasR.mk0 {P : Program} {w : World} {K : PySem.W.Frag} {mg : Str → Option Value} {base : Heap} {x : Str} {k : Nat} {sp : Sp} {f : Addr} {fd : FuncData} {ps : List Str} (hm : mg x = some (.ref f)) (hk : PySem.W.keepIn K (.ref f) = true) (hb : Binds K fd ps []) (F : FnOk P w K mg base (CXL P w) k f fd ps sp) : HasR P w K mg base x k sp :=
  ⟨f, fd, ps, hm, hk, hb, F⟩
/-- an expression that raises -/
def Ab (X : Cx) (Γ : List Slot) (e : Expr) (W : WX) (C : Addr) : Prop := ∀ (E : Ent) (G H : Hp) (σ : L2.St), Holds E G H σ Γ → (∀ G' H', Le G H G' H' → W (.ref C) none σ H') → ∀ Q : VK, WE X e σ H Q
def AbT (X : Cx) (Γ : List Slot) (e : Expr) (W : WX) (C : Addr) : Prop := ∀ (E : Ent) (G H : Hp) (σ : L2.St), Holds E G H σ Γ → (∀ G' H', Le G H G' H' → W (.ref C) none σ H') → ∀ Q : Bool → Hp → Prop, WT X e σ H Q
section
variable {X : Cx} {E : Ent} {Γ Γ' : List Slot} {D : Ends} {e f : Expr} {es : List Expr} {rest A B : List Stmt} {pos p p2 : Pos} {α β ι : Type} {r : Rp α} {x : α} {s : Rp β} {y : β} {k j : Nat} {W : WX} {C : Addr} {fn : Str} {Pre : ι → Prop} {args : ι → List Ty} {res : ι → α} {bad : ι → Option Addr}
theorem ab_call (h : HasR X.prog X.w X.K X.mg X.base fn k (RSp Pre args r res bad)) (hr : Room j X.A) (hk : k ≤ j) (y : ι) (hp : Pre y) (hb : bad y = some C) (tk : Takes X W) (ha : EvA X Γ (e :: es) (args y)) (hg : Gl X fn := by rfl) (hdb : (fn == ("__debug__" : Str)) = false := by decide)
    (he : starEach (e :: es) X.env = (false, eval e X.env) :: starEach es X.env := by rfl) (hpl : (backTo pos (starEach es X.env)).any (·.1) = false := by rfl) : Ab X Γ (.Call (.Name fn p) (e :: es) [] pos) W C := fun E G H σ hh hw Q => by
  obtain ⟨f0, fd, ps, hm, hkp, hbb, F⟩ := h.ex
  refine WE.of (pe_callS (E := L2.WE W) F (hr.mono hk) hg hm hkp hbb (fun σ => passAt tk σ) WA.pa hdb he hpl) (ha E G H σ hh _ fun vs G1 H1 l1 a1 => ?_)
  exact ⟨y, G1, hp, l1.gh, a1, (fun n : bad y = none => by rw [hb] at n; cases n), fun C' hC G2 H2 l2 => by rw [hb] at hC; cases hC; exact hw G2 H2 (l1.trans l2)⟩
theorem bk_raise (tk : Takes X W) (pm : PMk X e (fun _ H Q => Q (.ref C) none H)) (k : ∀ G H σ, Holds E G H σ Γ → W (.ref C) none σ H) (hc : X.calm = true := by rfl) : Bk X E Γ (.Raise (some e) none pos :: rest) D :=
  bk_of (ps_raise hc tk pm) fun G H σ hh => k G H σ hh
/-- X('m') -/
theorem pmk_ex {c m : Str} {i : Nat} (ok : ExOk X.K X.mg c C) (hg : Gl X c := by rfl) (hd : (c == ("__debug__" : Str)) = false := by decide) : PMk X (.Call (.Name c p) [.Constant (.str m) i p2] [] pos) (fun _ H Q => Q (.ref C) none H) := by
  obtain ⟨bmB, F, q⟩ := ok.q
  exact pmk_own F q ok.g ok.k (raises_own ok.r1 ok.r2) hg hd
theorem bk_abSet (i : Nat) {a : Str} (nd : X.N.Nodup) (he : Ab X Γ e W C) (k : ∀ G H σ, Holds E G H σ Γ → ∀ G' H', Le G H G' H' → W (.ref C) none σ H') (hi : X.N[i]? = some a := by rfl) (hx : Loc X.env.scope a := by first | exact Or.inl rfl | exact Or.inr rfl)
    (hs : swapsWith e (some (.Name a p)) pos.line X.env = pure false := by rfl) (hf : X.fn a = true ∨ X.env.scope.names.lookup a = some .local := by first | exact .inl rfl | exact .inr rfl) : Bk X E Γ (.Assign [.Name a p] e pos :: rest) D :=
  bk_of (ps_set nd hi hx WE.pe hs hf) fun G H σ hh => he E G H σ hh (k G H σ hh) _
theorem bk_abExpr (he : Ab X Γ e W C) (k : ∀ G H σ, Holds E G H σ Γ → ∀ G' H', Le G H G' H' → W (.ref C) none σ H') (hs : swapsWith e none pos.line X.env = pure false := by rfl) : Bk X E Γ (.Expr e pos :: rest) D :=
  bk_of (ps_expr WE.pe hs) fun G H σ hh => he E G H σ hh (k G H σ hh) _
theorem abt_cmp {op : CmpOp} {ρ : R2} (ho : OpR X (compareOp op) ρ) (ha : Ab X Γ e W C) (hm : behindInMarks op f = false := by first | exact nobehind _ (by decide) (by decide) | rfl) : AbT X Γ (.Compare e [op] [f] pos) W C := fun E G H σ h hw Q =>
  WT.of (pt_cmpR ho WE.pe (WE.pe (X := X) (e := f)) hm) (ha E G H σ h hw _)
theorem bk_abIf (he : AbT X Γ e W C) (k : ∀ G H σ, Holds E G H σ Γ → ∀ G' H', Le G H G' H' → W (.ref C) none σ H') : Bk X E Γ (.If e A B pos :: rest) D :=
  bk_of (ps_if WT.pt WB.pss WB.pss) fun G H σ hh => he E G H σ hh (k G H σ hh) _
/-! ### try: body, except c as n: suite -/
theorem bk_try_as (i : Nat) {c n : Str} {cv : Value} {b₀ : Stmt} {body suite : List Stmt} {np pos' : Pos} {Wout : WX} (hN : X.N.Nodup) (hc : Names X c cv) (tk : Takes X Wout)
    (h : ∀ G H σ, Holds E G H σ Γ → ∀ pn xe, Takes (X.tr pn xe) (wAs X.K cv i (fun a cls d D σ H => ∀ oe pn, Zc cls d oe → (∃ vs, oe.data = .fields vs) → WB (X.suite a ((a, oe) :: pn)) (b₀ :: suite) σ H D) Wout (thenD X rest D)) → PassesOwn (model X.prog X.w) X.A X.env xe → WB (X.tr pn xe) body σ H (thenD X rest D))
    (hs : X.stack = X.env :: X.outer := by rfl) (hf : X.env.frame = some X.env.locals := by rfl) (hi : X.N[i]? = some n := by rfl) (hln : X.env.kindOf n = some .local := by rfl) :
    Bk X E Γ (.Try body [.ExceptHandler (some (.Name c np)) (some n) (b₀ :: suite) pos'] [] [] pos :: rest) D :=
  bk_of (ps_try_as (tb := fun W D σ H => ∀ pn xe, Takes (X.tr pn xe) W → PassesOwn (model X.prog X.w) X.A X.env xe → WB (X.tr pn xe) body σ H D) (ts := fun a cls d D σ H => ∀ oe pn, Zc cls d oe → (∃ vs, oe.data = .fields vs) → WB (X.suite a ((a, oe) :: pn)) (b₀ :: suite) σ H D) hs hf hN hi hln hc tk
    (fun W pn xe t po => ⟨fun pins s σ H D I hw => (hw pn xe t po).run pins s I⟩)
    (fun a oe cls d pn z hv => ⟨fun pins s σ H D I hw => (hw oe pn z hv).run pins s I⟩)) fun G H σ hh => h G H σ hh
/-- the suite 'return isinstance(n, c)' -/
theorem suite_isi {i : Nat} {a Dc Cc : Addr} {oe : Obj} {pn : List (Addr × Obj)} {n c : Str} {b : Bool} {σ : L2.St} {H : Hp} {p3 p4 p5 : Pos} (ok : ExcC X.K Dc) (hz : Zc (.ref Dc) none oe) (hf : ∃ vs, oe.data = .fields vs) (hk : PySem.W.kitOne X.K (.ref Dc) (.ref Cc) = some b) (hv : σ[i]? = some (some (.ref a))) (q : D.rt (.bl b) H)
    (hm : X.mg "isinstance" = none) (hmc : X.mg c = some (.ref Cc)) (hN : X.N[i]? = some n := by rfl) (hvis : Vis X.env.scope n := by first | exact Or.inl rfl | exact Or.inr (Or.inl rfl) | exact Or.inr (Or.inr rfl)) (hd : (n == ("__debug__" : Str)) = false := by decide) (hcd : (n == ("__classdict__" : Str)) = false := by decide)
    (hg : Gl X "isinstance" := by rfl) (hgc : Gl X c := by rfl) (hdc : (c == ("__debug__" : Str)) = false := by decide)
    (hs1 : starEach ((.Name n p2 : Expr) :: [.Name c p3]) X.env = (false, eval (.Name n p2) X.env) :: starEach [.Name c p3] X.env := by rfl) (hs2 : starEach (.Name c p3 :: []) X.env = (false, eval (.Name c p3) X.env) :: starEach [] X.env := by rfl) (hpl : (backTo p4 (starEach [.Name c p3] X.env)).any (·.1) = false := by rfl) :
    WB (X.suite a ((a, oe) :: pn)) [.Return (some (.Call (.Name "isinstance" p) [.Name n p2, .Name c p3] [] p4)) p5] σ H D :=
  WB.of (pss_cons (ps_ret (pe_callB (X := X.suite a ((a, oe) :: pn)) (call_isE ok hz hf) hg hm (by decide +kernel) (pa_cons (pe_var hN hvis hd hcd) (pa_cons (pe_glob (v := .ref Cc) hgc hmc rfl hdc) pa_nil hs2) hs1) (he := hs1) (hpl := hpl))) (pss_nil (X := X.suite a ((a, oe) :: pn))))
    ⟨_, hv, .ref Cc, .ref Cc, b, rfl, fun u r => r, hk, q⟩
end
end Hf

namespace Hf
open PySem PySem.Spec PyProof.Rows L2 ClX
/-! ### a plan with all steps known; another one of the same leaves -/
def manyP (c : Int) (ps : List (Int × Pl)) : Int := if decide (maxL (ps.map fun q : Int × Pl => q.1) < 33) = true then 1 + c % 3 else 1
def upL (l : List (Int × Pl)) : List (Int × Pl) := match l with
  | [] => []
  | q :: r => (min 100 (q.1 + 1), q.2) :: r
def turnP (c : Int) (l : List (Int × Pl)) : List (Int × Pl) := if decide (c / 9 % 4 = 1) = true then l.reverse else if decide (c / 9 % 4 = 2) = true then upL l else l
namespace Pl
mutual
def knownP : Pl → Pl
  | .leaf n s => .leaf n (some (s.getD 4))
  | .lot r n ps => .lot r n (knownPs ps)
def knownPs : List (Int × Pl) → List (Int × Pl)
  | [] => []
  | (i, w) :: ps => (i, knownP w) :: knownPs ps
end
mutual
def otherP : Int → Pl → Pl
  | _, .leaf n s => .leaf n s
  | c, .lot r n ps => .lot (decide (c / 36 % 2 = 0)) n (turnP c (otherPs (manyP c ps) (c / 3 + 5) ps))
def otherPs : Int → Int → List (Int × Pl) → List (Int × Pl)
  | _, _, [] => []
  | m, c, (i, w) :: ps => (i * m, otherP c w) :: otherPs m c ps
end
theorem knownPs_map : ∀ ps : List (Int × Pl), knownPs ps = ps.map fun q : Int × Pl => (q.1, knownP q.2)
  | [] => by simp only [knownPs, List.map_nil]
  | (i, w) :: ps => by simp only [knownPs, List.map_cons]; rw [knownPs_map ps]
theorem otherPs_map {m c : Int} : ∀ ps : List (Int × Pl), otherPs m c ps = ps.map fun q : Int × Pl => (q.1 * m, otherP c q.2)
  | [] => by simp only [otherPs, List.map_nil]
  | (i, w) :: ps => by simp only [otherPs, List.map_cons]; rw [otherPs_map ps]
mutual
theorem known_names : ∀ w : Pl, (knownP w).names = w.names
  | .leaf n s => by simp only [knownP, names]
  | .lot r n ps => by simp only [knownP, names]; rw [known_namess ps]
theorem known_namess : ∀ ps : List (Int × Pl), namess (knownPs ps) = namess ps
  | [] => by simp only [knownPs, namess]
  | (i, w) :: ps => by simp only [knownPs, namess]; rw [known_names w, known_namess ps]
end
mutual
theorem known_depth : ∀ w : Pl, (knownP w).depth = w.depth
  | .leaf n s => by simp only [knownP, depth]
  | .lot r n ps => by simp only [knownP, depth]; rw [known_depths ps]
theorem known_depths : ∀ ps : List (Int × Pl), depths (knownPs ps) = depths ps
  | [] => by simp only [knownPs, depths]
  | (i, w) :: ps => by simp only [knownPs, depths]; rw [known_depth w, known_depths ps]
end
mutual
theorem known_fit : ∀ w : Pl, w.Fit → (knownP w).Fit
  | .leaf n s, h => by
    simp only [knownP]
    intro i hi
    cases s with
    | none =>
      simp only [Option.getD_none, Option.some.injEq] at hi
      subst hi
      rfl
    | some k =>
      simp only [Option.getD_some, Option.some.injEq] at hi
      subst hi
      exact h k rfl
  | .lot r n ps, h => by
    simp only [knownP]
    refine ⟨?_, known_fits ps h.2⟩
    have e := h.1
    unfold arePartsB at e ⊢
    rw [knownPs_map, List.length_map, List.all_map]
    exact e
theorem known_fits : ∀ ps : List (Int × Pl), Pl.Fits ps → Pl.Fits (knownPs ps)
  | [], h => by simp only [knownPs]; exact h
  | (i, w) :: ps, h => by
    simp only [knownPs]
    exact ⟨known_fit w h.1, known_fits ps h.2⟩
end
mutual
theorem known_leaves : ∀ w : Pl, ∀ l ∈ (knownP w).leaves, l.steps.isNone = false
  | .leaf n s, l, h => by
    simp only [knownP, leaves, List.mem_singleton] at h
    subst h
    rfl
  | .lot r n ps, l, h => by
    simp only [knownP, leaves] at h
    exact known_leavess ps l h
theorem known_leavess : ∀ ps : List (Int × Pl), ∀ l ∈ leavess (knownPs ps), l.steps.isNone = false
  | [], l, h => by simp [knownPs, leavess] at h
  | (i, w) :: ps, l, h => by
    simp only [knownPs, leavess, List.mem_append] at h
    rcases h with h | h
    · exact known_leaves w l h
    · exact known_leavess ps l h
end
theorem depths_le {k : Nat} : ∀ {ps : List (Int × Pl)}, (∀ q ∈ ps, q.2.depth ≤ k) → depths ps ≤ k
  | [], _ => by simp only [depths]; omega
  | (i, w) :: ps, h => by
    simp only [depths]
    have a := h (i, w) List.mem_cons_self
    have b := depths_le (ps := ps) fun q hq => h q (List.mem_cons_of_mem _ hq)
    simp only at a
    omega
theorem le_depths : ∀ {ps : List (Int × Pl)} {q : Int × Pl}, q ∈ ps → q.2.depth ≤ depths ps
  | [], q, h => by simp at h
  | (i, w) :: ps, q, h => by
    simp only [depths]
    rcases List.mem_cons.mp h with rfl | h
    · simp only; omega
    · have := le_depths (ps := ps) h; omega
end Pl
theorem known_ok {p : Pl} (h : PlanOk p) : PlanOk p.knownP := ⟨Pl.known_fit p h.fit, by rw [Pl.known_names]; exact h.names, by rw [Pl.known_names]; exact h.nodup, by rw [Pl.known_names]; exact h.count, by rw [Pl.known_depth]; exact h.deep⟩
/-- parts in another turn, with other weights -/
theorem flatMap_perm {α : Type} {f g : Pl → List α} : ∀ {ps qs : List (Int × Pl)}, (qs.map (·.2)).Perm (ps.map (·.2)) → (∀ q ∈ ps, (f q.2).Perm (g q.2)) → (qs.flatMap fun q => f q.2).Perm (ps.flatMap fun q => g q.2) := fun {ps qs} h k => by
  have e1 : (qs.flatMap fun q => f q.2) = (qs.map (·.2)).flatMap f := by rw [List.flatMap_map]
  have e2 : (ps.flatMap fun q => g q.2) = (ps.map (·.2)).flatMap g := by rw [List.flatMap_map]
  rw [e1, e2]
  refine (h.flatMap_right f).trans ?_
  have : ∀ l : List Pl, (∀ w ∈ l, (f w).Perm (g w)) → (l.flatMap f).Perm (l.flatMap g) := fun l => by
    induction l with
    | nil => intro _; exact .nil
    | cons w l ih =>
      intro hl
      rw [List.flatMap_cons, List.flatMap_cons]
      exact (hl w List.mem_cons_self).append (ih fun v hv => hl v (List.mem_cons_of_mem _ hv))
  refine this _ fun w hw => ?_
  obtain ⟨q, hq, rfl⟩ := List.mem_map.mp hw
  exact k q hq
theorem upL_snd (l : List (Int × Pl)) : (upL l).map (·.2) = l.map (·.2) := by cases l <;> rfl
theorem turnP_snd (c : Int) (l : List (Int × Pl)) : ((turnP c l).map (·.2)).Perm (l.map (·.2)) := by
  unfold turnP
  split
  · rw [List.map_reverse]; exact List.reverse_perm _
  · split
    · rw [upL_snd]
    · exact .refl _
theorem turnP_mem {c : Int} {l : List (Int × Pl)} (h : ∀ q ∈ l, 1 ≤ q.1 ∧ q.1 ≤ 100) : (turnP c l).length = l.length ∧ ∀ q ∈ turnP c l, 1 ≤ q.1 ∧ q.1 ≤ 100 := by
  unfold turnP
  split
  · exact ⟨List.length_reverse, fun q hq => h q (List.mem_reverse.mp hq)⟩
  · split
    · cases l with
      | nil => exact ⟨rfl, fun q hq => by simp [upL] at hq⟩
      | cons a r =>
        refine ⟨rfl, fun q hq => ?_⟩
        rcases List.mem_cons.mp hq with rfl | hq
        · have := h a List.mem_cons_self
          show 1 ≤ min 100 (a.1 + 1) ∧ min 100 (a.1 + 1) ≤ 100
          omega
        · exact h q (List.mem_cons_of_mem _ hq)
    · exact ⟨rfl, h⟩
structure Alike (w v : Pl) : Prop where
  names : v.names.Perm w.names
  leaves : v.leaves.Perm w.leaves
  depth : v.depth ≤ w.depth
  fit : v.Fit
  leaf : v.isLeaf = w.isLeaf
theorem le_maxL {ns : List Int} {y : Int} (h : y ∈ ns) : y ≤ maxL ns := by
  cases ns with
  | nil => simp at h
  | cons a l => exact (foldl_max_mem l a).2 y h
theorem other_alike : ∀ {w : Pl} {c : Int}, w.Fit → Alike w (w.otherP c) := fun {w c} => by
  have key : ∀ (k : Nat) (w : Pl) (c : Int), w.depth ≤ k → w.Fit → Alike w (w.otherP c) := fun k => by
    induction k with
    | zero => intro w c h; have := Pl.depth_pos w; omega
    | succ k ih =>
      intro w c hd hf
      cases w with
      | leaf n s => simp only [Pl.otherP]; exact ⟨.refl _, .refl _, Nat.le_refl _, hf, rfl⟩
      | lot r n ps =>
        have hp := fit_parts hf
        have hlen := fit_len hf
        have hq : ∀ q ∈ ps, Alike q.2 (q.2.otherP (c / 3 + 5)) := fun q hq => ih q.2 _ (by have := Pl.part_depth (w := .lot r n ps) hq; omega) (hp q hq).2
        simp only [Pl.otherP, Pl.otherPs_map]
        have c3 : 0 ≤ c % 3 ∧ c % 3 < 3 := ⟨Int.emod_nonneg _ (by decide), Int.emod_lt_of_pos _ (by decide)⟩
        have hw : ∀ q ∈ ps, 1 ≤ q.1 * manyP c ps ∧ q.1 * manyP c ps ≤ 100 := fun q hq => by
          have b := (hp q hq).1
          unfold manyP
          split
          · rename_i hm
            have hm := of_decide_eq_true hm
            have z := le_maxL (List.mem_map.mpr ⟨q, hq, rfl⟩ : q.1 ∈ ps.map fun q : Int × Pl => q.1)
            have z1 : q.1 * 1 ≤ q.1 * (1 + c % 3) := Int.mul_le_mul_of_nonneg_left (by omega) (by omega)
            have z2 : q.1 * (1 + c % 3) ≤ q.1 * 3 := Int.mul_le_mul_of_nonneg_left (by omega) (by omega)
            omega
          · omega
        have hm : ∀ q ∈ ps.map (fun q : Int × Pl => (q.1 * manyP c ps, q.2.otherP (c / 3 + 5))), 1 ≤ q.1 ∧ q.1 ≤ 100 := fun q hq => by
          obtain ⟨z, hz, rfl⟩ := List.mem_map.mp hq
          exact hw z hz
        obtain ⟨t1, t2⟩ := turnP_mem (c := c) hm
        have ts := turnP_snd c (ps.map (fun q : Int × Pl => (q.1 * manyP c ps, q.2.otherP (c / 3 + 5))))
        rw [List.map_map] at ts
        have mem2 : ∀ q ∈ turnP c (ps.map (fun q : Int × Pl => (q.1 * manyP c ps, q.2.otherP (c / 3 + 5)))), ∃ z ∈ ps, q.2 = z.2.otherP (c / 3 + 5) := fun q hq => by
          have z := ts.mem_iff.mp (List.mem_map.mpr ⟨q, hq, rfl⟩)
          obtain ⟨y, hy, e⟩ := List.mem_map.mp z
          exact ⟨y, hy, e.symm⟩
        have pm : ∀ {α : Type} (f : Pl → List α), (∀ q ∈ ps, (f (q.2.otherP (c / 3 + 5))).Perm (f q.2)) → ((turnP c (ps.map (fun q : Int × Pl => (q.1 * manyP c ps, q.2.otherP (c / 3 + 5))))).flatMap fun q => f q.2).Perm (ps.flatMap fun q => f q.2) := fun {α} f hf => by
          have a := flatMap_perm (f := f) (g := f) (ps := ps.map (fun q : Int × Pl => (q.1 * manyP c ps, q.2.otherP (c / 3 + 5)))) (qs := turnP c (ps.map (fun q : Int × Pl => (q.1 * manyP c ps, q.2.otherP (c / 3 + 5))))) (turnP_snd c _) (fun q _ => .refl _)
          refine a.trans ?_
          rw [List.flatMap_map]
          have : ∀ l : List (Int × Pl), (∀ q ∈ l, q ∈ ps) → (l.flatMap fun q : Int × Pl => f (q.2.otherP (c / 3 + 5))).Perm (l.flatMap fun q => f q.2) := fun l => by
            induction l with
            | nil => intro _; exact .nil
            | cons q l ih =>
              intro hl
              rw [List.flatMap_cons, List.flatMap_cons]
              exact (hf q (hl q List.mem_cons_self)).append (ih fun z hz => hl z (List.mem_cons_of_mem _ hz))
          exact this ps fun q hq => hq
        refine ⟨?_, ?_, ?_, ⟨?_, ?_⟩, rfl⟩
        · simp only [Pl.names, Pl.namess_eq]
          exact (pm Pl.names fun q m => (hq q m).names).cons n
        · simp only [Pl.leaves, Pl.leavess_eq]
          exact pm Pl.leaves fun q m => (hq q m).leaves
        · simp only [Pl.depth]
          have : Pl.depths (turnP c (ps.map (fun q : Int × Pl => (q.1 * manyP c ps, q.2.otherP (c / 3 + 5))))) ≤ Pl.depths ps := Pl.depths_le fun q m => by
            obtain ⟨z, hz, e⟩ := mem2 q m
            rw [e]
            exact Nat.le_trans (hq z hz).depth (Pl.le_depths hz)
          omega
        · have e := hf.1
          unfold arePartsB at e ⊢
          rw [Bool.and_eq_true, decide_eq_true_eq] at e
          rw [Bool.and_eq_true, decide_eq_true_eq, t1, List.length_map]
          refine ⟨e.1, List.all_eq_true.mpr fun q m => ?_⟩
          have := t2 q m
          simp only [isNum, Bool.and_eq_true, decide_eq_true_eq]
          exact this
        · refine Pl.fits_mem.mpr fun q m => ?_
          obtain ⟨z, hz, e⟩ := mem2 q m
          rw [e]
          exact (hq z hz).fit
  exact fun hf => key w.depth w c (Nat.le_refl _) hf
theorem alike_ok {w v : Pl} (h : PlanOk w) (a : Alike w v) : PlanOk v := ⟨a.fit, fun n m => h.names n (a.names.mem_iff.mp m), a.names.nodup_iff.mpr h.nodup, by rw [a.names.length_eq]; exact h.count, Nat.le_trans a.depth h.deep⟩
/-! ### names -/
theorem planL_names (script : List Int) (at_ : Int) : ∀ n ∈ (planL script at_).names, n ∈ namesL := by
  have h20 : 0 ≤ cellAt script (at_ + 6) % 20 := Int.emod_nonneg _ (by decide)
  obtain ⟨n1, n2, n3⟩ := turnN_ok h20
  obtain ⟨a1, a2⟩ := digs1_al script at_
  have W := work_ok ((3 : Int) + cellAt script (at_ + 6) % 20 % 2).toNat _ _ a1 a2 (show turnN (cellAt script (at_ + 6) % 20) ≠ [] from fun z => by rw [z] at n2; simp at n2)
  have sub : List.Sublist (planL script at_).names (turnN (cellAt script (at_ + 6) % 20)) := by
    rw [← W.names]
    exact List.sublist_append_left _ _
  intro n m
  have z := sub.subset m
  rw [turnN_eq h20] at z
  have z := List.mem_of_mem_take z
  rcases List.mem_append.mp z with z | z
  · exact List.mem_of_mem_drop z
  · exact List.mem_of_mem_take z
/-- the leaves in one row -/
def flatP (p : Pl) : Pl := if decide ((p.leaves.length : Int) ≤ 6) = true then .lot true "flat" ((p.leaves.take 6).map fun l : Pl => ((1 : Int), l)) else p
theorem names_leaf {l : Pl} (h : l.isLeaf = true) : l.names = [l.name] ∧ l.depth = 1 ∧ l.leaves = [l] := by
  cases l with
  | leaf n s => exact ⟨rfl, rfl, rfl⟩
  | lot r n ps => simp [Pl.isLeaf] at h
theorem leaf_fit {p l : Pl} (h : p.Fit) (m : l ∈ p.leaves) : l.Fit := fit_all h ((leaves_sub p).subset m)
theorem flat_ok {p : Pl} (h : PlanOk p) (hn : ∀ n ∈ p.names, n ∈ namesL) : PlanOk (flatP p) ∧ (flatP p).leaves.Perm p.leaves := by
  unfold flatP
  split
  · rename_i hl
    have hl : p.leaves.length ≤ 6 := by have := of_decide_eq_true hl; omega
    have hne := leaves_ne h.fit
    have ht : p.leaves.take 6 = p.leaves := List.take_of_length_le hl
    rw [ht]
    have hil := leaves_isLeaf p
    have nm : ∀ l : List Pl, (∀ w ∈ l, w.isLeaf = true) → ((l.map fun w : Pl => ((1 : Int), w)).flatMap fun q => q.2.names) = l.map Pl.name := fun l => by
      induction l with
      | nil => intro _; rfl
      | cons w l ih =>
        intro hw
        rw [List.map_cons, List.flatMap_cons, ih fun v hv => hw v (List.mem_cons_of_mem _ hv), (names_leaf (hw w List.mem_cons_self)).1]
        rfl
    have lv : ∀ l : List Pl, (∀ w ∈ l, w.isLeaf = true) → ((l.map fun w : Pl => ((1 : Int), w)).flatMap fun q => q.2.leaves) = l := fun l => by
      induction l with
      | nil => intro _; rfl
      | cons w l ih =>
        intro hw
        rw [List.map_cons, List.flatMap_cons, ih fun v hv => hw v (List.mem_cons_of_mem _ hv), (names_leaf (hw w List.mem_cons_self)).2.2]
        rfl
    have en : (Pl.lot true "flat" (p.leaves.map fun l : Pl => ((1 : Int), l))).names = ("flat" : Str) :: p.leaves.map Pl.name := by
      simp only [Pl.names, Pl.namess_eq]
      rw [nm p.leaves hil]
    have sub : ∀ n ∈ p.leaves.map Pl.name, n ∈ p.names := fun n m => by
      obtain ⟨l, hl, rfl⟩ := List.mem_map.mp m
      exact mem_names ((leaves_sub p).subset hl)
    refine ⟨⟨⟨?_, ?_⟩, ?_, ?_, ?_, ?_⟩, ?_⟩
    · unfold arePartsB
      rw [Bool.and_eq_true, decide_eq_true_eq, List.length_map]
      refine ⟨⟨List.length_pos_iff.mpr hne, hl⟩, List.all_eq_true.mpr fun q m => ?_⟩
      obtain ⟨l, _, rfl⟩ := List.mem_map.mp m
      rfl
    · refine Pl.fits_mem.mpr fun q m => ?_
      obtain ⟨l, hm, rfl⟩ := List.mem_map.mp m
      exact leaf_fit h.fit hm
    · rw [en]
      intro n m
      rcases List.mem_cons.mp m with rfl | m
      · have : (isNameB ("flat" : Str) && (decide (("flat" : Str).length ≤ 1000) && PyData.strOk "flat")) = true := by decide +kernel
        simp only [Bool.and_eq_true, decide_eq_true_eq] at this
        exact ⟨this.1, this.2.1, this.2.2⟩
      · exact h.names n (sub n m)
    · rw [en]
      refine List.nodup_cons.mpr ⟨fun m => ?_, leaf_names h.nodup⟩
      have z := hn _ (sub _ m)
      exact absurd z (by decide +kernel)
    · rw [en, List.length_cons, List.length_map]; omega
    · simp only [Pl.depth]
      have : Pl.depths (p.leaves.map fun l : Pl => ((1 : Int), l)) ≤ 1 := Pl.depths_le fun q m => by
        obtain ⟨l, hm, rfl⟩ := List.mem_map.mp m
        exact Nat.le_of_eq (names_leaf (hil l hm)).2.1
      omega
    · simp only [Pl.leaves, Pl.leavess_eq]
      rw [lv p.leaves hil]
  · exact ⟨h, .refl _⟩
end Hf

namespace Hf
open PySem PySem.Spec PyProof.Rows L2 ClX
/-! ### texts in order -/
def ltS (a b : Str) : Bool := ltCps a.cps.toList b.cps.toList
theorem ltN_asym : ∀ {a b : List Nat}, ltCps a b = true → ltCps b a = false
  | [], [], h => by simp [ltCps] at h
  | [], _ :: _, _ => by simp [ltCps]
  | _ :: _, [], h => by simp [ltCps] at h
  | x :: a, y :: b, h => by
    simp only [ltCps, Bool.or_eq_true, Bool.and_eq_true, decide_eq_true_eq, beq_iff_eq, Bool.or_eq_false_iff, Bool.and_eq_false_iff, decide_eq_false_iff_not] at h ⊢
    rcases h with h | ⟨h1, h2⟩
    · exact ⟨by omega, .inl (by simp; omega)⟩
    · exact ⟨by omega, .inr (ltN_asym h2)⟩
theorem ltN_eq : ∀ {a b : List Nat}, ltCps a b = false → ltCps b a = false → a = b
  | [], [], _, _ => rfl
  | [], _ :: _, h, _ => by simp [ltCps] at h
  | _ :: _, [], _, h => by simp [ltCps] at h
  | x :: a, y :: b, h, k => by
    simp only [ltCps, Bool.or_eq_false_iff, Bool.and_eq_false_iff, decide_eq_false_iff_not] at h k
    obtain ⟨h1, h2⟩ := h
    obtain ⟨k1, k2⟩ := k
    have e : x = y := by omega
    subst e
    have a1 : ltCps a b = false := by
      rcases h2 with z | z
      · simp at z
      · exact z
    have a2 : ltCps b a = false := by
      rcases k2 with z | z
      · simp at z
      · exact z
    rw [ltN_eq a1 a2]
/-- not above: through -/
theorem ltN_tr : ∀ {a b c : List Nat}, ltCps b a = false → ltCps c b = false → ltCps c a = false
  | [], [], c, _, h => h
  | [], _ :: _, [], _, h => by simp [ltCps] at h
  | [], _ :: _, _ :: _, _, _ => by simp [ltCps]
  | _ :: _, [], c, h, _ => by simp [ltCps] at h
  | _ :: _, _ :: _, [], _, h => by simp [ltCps] at h
  | x :: a, y :: b, z :: c, h, k => by
    simp only [ltCps, Bool.or_eq_false_iff, Bool.and_eq_false_iff, decide_eq_false_iff_not] at h k ⊢
    obtain ⟨h1, h2⟩ := h
    obtain ⟨k1, k2⟩ := k
    refine ⟨by omega, ?_⟩
    by_cases e : z = x
    · have e2 : y = x := by omega
      subst e
      subst e2
      rcases h2 with w | w
      · simp at w
      · rcases k2 with v | v
        · simp at v
        · exact .inr (ltN_tr w v)
    · exact .inl (by simpa using e)
theorem str_ext {a b : Str} (h : a.cps.toList = b.cps.toList) : a = b := by
  obtain ⟨x⟩ := a
  obtain ⟨y⟩ := b
  simp only at h
  rw [Array.toList_inj.mp h]
theorem rising_le : ∀ {p : Str} {l : List Str}, risingS p l = true → ∀ y ∈ l, ltS y p = false
  | _, [], _, y, m => by simp at m
  | p, x :: r, h, y, m => by
    simp only [risingS, Bool.and_eq_true, Bool.not_eq_true'] at h
    rcases List.mem_cons.mp m with rfl | m
    · exact h.1
    · exact ltN_tr h.1 (rising_le h.2 y m)
theorem rising_sorted : ∀ {p : Str} {l : List Str}, risingS p l = true → sortedS l = true
  | _, [], _ => rfl
  | _, _ :: _, h => by
    simp only [risingS, Bool.and_eq_true] at h
    exact h.2
theorem sorted_uniq : ∀ {ys zs : List Str}, ys.Perm zs → sortedS ys = true → sortedS zs = true → ys = zs
  | [], zs, p, _, _ => (List.nil_perm.mp p).symm
  | y :: ys, [], p, _, _ => absurd p.length_eq (by simp)
  | y :: ys, z :: zs, p, h, k => by
    have hy : risingS y ys = true := h
    have hz : risingS z zs = true := k
    have e : y = z := by
      have a : ltS y z = false := by
        rcases List.mem_cons.mp (p.mem_iff.mp List.mem_cons_self) with e | m
        · rw [e]
          cases c : ltS z z with
          | false => rfl
          | true => have := ltN_asym c; unfold ltS at c; rw [c] at this; cases this
        · exact rising_le hz y m
      have b : ltS z y = false := by
        rcases List.mem_cons.mp (p.mem_iff.mpr List.mem_cons_self) with e | m
        · rw [e]
          cases c : ltS y y with
          | false => rfl
          | true => have := ltN_asym c; unfold ltS at c; rw [c] at this; cases this
        · exact rising_le hy z m
      exact str_ext (ltN_eq a b)
    subst e
    rw [sorted_uniq p.cons_inv (rising_sorted hy) (rising_sorted hz)]
/-- the texts in order -/
noncomputable def sortT (ks : List Str) : List Str := @dite (List Str) (∃ ys : List Str, ys.Perm ks ∧ sortedS ys = true) (Classical.propDecidable _) (fun h => Classical.choose h) (fun _ => ks)
theorem sortT_of {ys ks : List Str} (p : ys.Perm ks) (h : sortedS ys = true) : ys = sortT ks := by
  have e : ∃ ys : List Str, ys.Perm ks ∧ sortedS ys = true := ⟨ys, p, h⟩
  unfold sortT
  rw [dif_pos e]
  obtain ⟨p2, h2⟩ := Classical.choose_spec e
  exact sorted_uniq (p.trans p2.symm) h h2
section
variable {X : Cx} {E : Ent} {Γ Γ' Γ1 Γ2 : List Slot} {D : Ends} {e f g o tg : Expr} {es : List Expr} {body rest : List Stmt} {pos p p2 p3 p4 p5 apos cpos : Pos} {α β γ ι : Type} {r : Rp α} {x : α} {s : Rp β} {y : β} {as : List α} {ds : List (Str × α)} {k j : Nat}
/-- xs[::-1] -/
theorem eo_rev (h : EvB X Γ e (oLst r as)) : EvO X Γ (.Subscript e (.Slice none none (some (.UnaryOp .USub (.Constant (.int 1) k p2) p3)) p4) pos) (oLst r as.reverse) := fun E G H σ hh Q q =>
  WE.of (pe_revL WE.pe) (h E G H σ hh _ fun p o G1 H1 l1 hp ⟨vs, e1, ha⟩ => by
    subst e1
    exact ⟨p, vs, rfl, .inl (.inl hp), fun p3 n => q p3 _ G1 _ (Evl.fresh_back l1.h n) (l1.addO n) (Evl.fresh_back l1.gh n) upd_same ⟨_, rfl, ha.reverse⟩⟩)
theorem KvAt.keys {G : Hp} : ∀ {kvs : List (Key × V)} {ds : List (Str × α)}, KvAt r G kvs ds → kvs.map (·.1) = (ds.map (·.1)).map Sum.inr
  | _, _, .nil => rfl
  | _, _, .cons h t => by simp only [List.map_cons]; rw [KvAt.keys t]
/-- sorted(d) -/
theorem eo_sortedD (h : EvB X Γ e (oDic r ds)) (hl : ds.length < 64) (hm : X.mg "sorted" = none) (hc : X.calm = true := by rfl) (hg : Gl X "sorted" := by rfl) (he : starEach (e :: []) X.env = (false, eval e X.env) :: starEach [] X.env := by rfl) (hpl : (backTo pos (starEach [] X.env)).any (·.1) = false := by rfl) :
    EvO X Γ (.Call (.Name "sorted" p) [e] [] pos) (oLst rStr (sortT (ds.map (·.1)))) := fun E G H σ hh Q q =>
  WE.of (pe_callB (call_sortedD hc) hg hm (by decide +kernel) (pa_cons WE.pe pa_nil he) (he := he) (hpl := hpl)) (h E G H σ hh _ fun p o G1 H1 l1 hp ⟨kvs, e1, ha⟩ => by
    subst e1
    refine ⟨p, kvs, ds.map (·.1), rfl, .inl hp, ha.keys, by rw [List.length_map]; exact hl, fun ys p3 pm so n => ?_⟩
    rw [sortT_of pm so]
    exact q p3 _ G1 _ (Evl.fresh_back l1.h n) (l1.addO n) (Evl.fresh_back l1.gh n) upd_same ⟨_, rfl, all2_ofStr _⟩)
end
end Hf

namespace Hf
open PySem PySem.Spec PyProof.Rows L2 ClX
/-! ### a def that tells its last argument again, changed -/
def rU : Rp Unit := ⟨fun _ _ _ => True, fun _ h => h⟩
def WSp {ι : Type} (Pre : ι → Prop) (pars : ι → List Par) (post : ι → Oc) : Sp := fun vs H Q _ => ∃ (y : ι) (G : Hp) (a : Addr), Pre y ∧ Ex G H ∧ Fits G H vs (pars y) [a] ∧
  ∀ G' H', LeE G H (fun p => p ∈ [a]) G' H' → Ows G' H' [a] [post y] → Q (.ref a) H'
theorem wsp_msp {P : Program} {w : World} {K : PySem.W.Frag} {mg : Str → Option Value} {base : Heap} {x : Str} {k : Nat} {ι : Type} {Pre : ι → Prop} {pars : ι → List Par} {post : ι → Oc} (hn : ∀ y, nOwn (pars y) = 1) (h : Has P w K mg base x k (WSp Pre pars post)) :
    Has P w K mg base x k (MSp Pre pars rU (fun _ => ()) (fun y => [post y])) := h.sub fun vs H Q ⟨y, G, as, hp, e, nd, fi, q⟩ => by
  have l := fi.nOwn
  rw [hn] at l
  match as, l with
  | [a], _ => exact ⟨y, G, a, hp, e, fi, fun G' H' l o => q _ G' H' l o trivial⟩
section
variable {P : Program} {w : World} {K : PySem.W.Frag} {mg : Str → Option Value} {base : Heap} {x qual : Str} {params : Arguments} {body : List Stmt} {scope : Scope} {dvs : List V} {kws : List (Str × V)} {f : Addr} {fd : FuncData}
theorem fn_w {N ps : List Str} {k : Nat} {ι : Type} {Pre : ι → Prop} {pars : ι → List Par} {post : ι → Oc} (F : FunD K x qual params body scope dvs kws f fd) (S : FnScope N ps scope) (hl : ∀ y, (pars y).length = ps.length)
    (hb : ∀ (y : ι), Pre y → ∀ (cdv : Value) (A : Around) (outer : List Env) (s : Shared) (H : Hp) (E0 : XK) (G : Hp) (D : Ends) (a : Addr), Room k (A.deeper (envOfC qual scope s.heap.objs.size f cdv)) →
      (∀ G' H', LeE G H (fun p => p ∈ [a]) G' H' → Ows G' H' [a] [post y] → D.rt (.ref a) H') →
      Bk (cxOf (CXL P w) P w K mg base N qual scope f cdv A outer s H E0) { G := G, H := H, M := fun p => p ∈ [a] } (slotsP (pars y) [a] ++ List.replicate (N.length - ps.length) .no) body D) :
    FnOk P w K mg base (CXL P w) (k + 1) f fd ps (WSp Pre pars post) := by
  refine F.ok S (fun vs H Q E ⟨y, G, a, _, _, fi, _⟩ => by rw [fi.length, hl]) fun cdv A outer s H vs Q E hr ⟨y, G, a, hp, e, fi, hq⟩ => ⟨_, WB.pss, ?_⟩
  have hN : (pars y).length ≤ N.length := by
    rw [hl]
    have z := congrArg List.length S.pre
    rw [List.length_take] at z
    omega
  have h := holds_startP (N := N) e (by simp) fi hN
  rw [hl] at h
  exact hb y hp cdv A outer s H E G _ a hr (fun G' H' l o => hq G' H' l o) G H _ h
end
section
variable {X : Cx} {E : Ent} {Γ Γ' : List Slot} {D : Ends} {e : Expr} {es : List Expr} {rest : List Stmt} {pos p : Pos} {ι : Type} {k j : Nat} {c : Oc}
/-- return x, x what was handed in at a -/
theorem bk_retW (i : Nat) {y : Str} {a : Addr} (hg : Γ[i]? = some (.ow c (some a))) (hret : ∀ G' H', LeE E.G E.H E.M G' H' → Ows G' H' [a] [c] → D.rt (.ref a) H') (hN : X.N[i]? = some y := by rfl) (hv : Vis X.env.scope y := by first | exact Or.inl rfl | exact Or.inr (Or.inl rfl) | exact Or.inr (Or.inr rfl)) (hd : (y == ("__debug__" : Str)) = false := by decide)
    (hcd : (y == ("__classdict__" : Str)) = false := by decide) : Bk X E Γ (.Return (some (.Name y p)) pos :: rest) D :=
  bk_of (ps_ret (pe_var hN hv hd hcd)) fun G H σ hh => by
    obtain ⟨q, o, h1, h2, h3, h4, h5⟩ := hh.ow hg
    have e : q = a := h3.1
    subst e
    exact ⟨_, h1, hret G H hh.le ⟨⟨h2, o, h4, h5⟩, trivial⟩⟩
/-- f(.., {}), told anew -/
theorem eo_callW {fn : Str} {Pre : ι → Prop} {pars : ι → List Par} {post : ι → Oc} {z : Oc} (h : Has X.prog X.w X.K X.mg X.base fn k (WSp Pre pars post)) (hr : Room j X.A) (hk : k ≤ j) (y : ι) (hp : Pre y) (ha : EvP X Γ (e :: es) (pars y) [.tmp]) (hn : nOwn (pars y) = 1 := by rfl) (hz : post y = z := by rfl) (hg : Gl X fn := by rfl) (hdb : (fn == ("__debug__" : Str)) = false := by decide)
    (he : starEach (e :: es) X.env = (false, eval e X.env) :: starEach es X.env := by rfl) (hpl : (backTo pos (starEach es X.env)).any (·.1) = false := by rfl) : EvO X Γ (.Call (.Name fn p) (e :: es) [] pos) z := fun E G H σ hh Q q =>
  we_call h hr hk (ha E G H σ hh _ fun vs as G1 H1 l1 n1 f1 s1 => by
    have l := f1.nOwn
    rw [hn] at l
    match as, l with
    | [a], _ =>
      have na : H a = none := s1.1
      refine ⟨y, G1, a, hp, l1.gh, f1, fun G2 H2 l2 o => ?_⟩
      obtain ⟨⟨g2, ob, h2, c2⟩, _⟩ := o
      refine q a ob G2 H2 na ⟨l1.g.trans l2.g, fun x u z => ?_, l2.gh, fun x u z1 z2 => ?_⟩ g2 h2 (hz ▸ c2)
      · rcases l2.h x u (l1.h x u z) with ⟨_, w⟩ | ⟨m, _⟩
        · exact w
        · have ex : x = a := by simpa using m
          subst ex
          rw [na] at z; cases z
      · cases w : G1 x with
        | some v => exact l1.new x v w z2
        | none => exact Evl.fresh_back l1.h (l2.new x u z1 w)) hg hdb he hpl
end
end Hf

namespace Hf
open PySem PySem.Spec PyProof.Rows L2 ClX
/-! ### leaves by name; what they are worth -/
def klL (p : Pl) : List (Str × Int) := p.leaves.foldl (fun (d : List (Str × Int)) (l : Pl) => dPut d l.name (l.steps.getD 0)) []
theorem kl_eq {p : Pl} (nd : p.names.Nodup) : klL p = p.leaves.map fun l => (l.name, l.steps.getD 0) := by
  have z := foldPut Pl.name (fun l : Pl => l.steps.getD 0) p.leaves [] (by rw [List.map_nil, List.nil_append]; exact leaf_names nd)
  unfold klL
  rw [z, List.nil_append]
theorem kl_keys {p : Pl} (nd : p.names.Nodup) : (klL p).map (·.1) = p.leaves.map Pl.name := by
  rw [kl_eq nd, List.map_map]
  rfl
/-- two dicts of numbers hold the same -/
def eqDI (ds es : List (Str × Int)) : Bool := decide (ds.length = es.length) && ds.all fun q => decide (dGet es q.1 = some q.2)
theorem kl_same {p q : Pl} (hp : p.names.Nodup) (hq : q.names.Nodup) (h : q.leaves.Perm p.leaves) : eqDI (klL q) (klL p) = true := by
  unfold eqDI
  rw [Bool.and_eq_true, decide_eq_true_eq]
  refine ⟨by rw [kl_eq hp, kl_eq hq, List.length_map, List.length_map]; exact h.length_eq, List.all_eq_true.mpr fun x hx => ?_⟩
  rw [kl_eq hq] at hx
  obtain ⟨l, hl, rfl⟩ := List.mem_map.mp hx
  refine decide_eq_true ?_
  have z := dGet_mem (ds := klL p) (q := (l.name, l.steps.getD 0)) (by rw [kl_keys hp]; exact leaf_names hp) (by rw [kl_eq hp]; exact List.mem_map.mpr ⟨l, h.mem_iff.mp hl, rfl⟩)
  exact z
namespace Pl
mutual
def worthsF : Pl → Rat → List (Str × Rat) → List (Str × Rat)
  | .leaf n _, x, d => dPut d n x
  | .lot _ _ ps, x, d => worthsFs ((ps.map fun q => q.1).sum) ps x d
def worthsFs : Int → List (Int × Pl) → Rat → List (Str × Rat) → List (Str × Rat)
  | _, [], _, d => d
  | W, (i, w) :: ps, x, d => worthsFs W ps x (worthsF w (x * qd i W) d)
end
mutual
theorem leaf_sub : ∀ (w : Pl) (n : Str), n ∈ w.leaves.map Pl.name → n ∈ w.names
  | .leaf a s, n, h => by simpa [leaves, names, Pl.name] using h
  | .lot r a ps, n, h => by
    simp only [leaves] at h
    simp only [names, List.mem_cons]
    exact .inr (leaf_subs ps n h)
theorem leaf_subs : ∀ (ps : List (Int × Pl)) (n : Str), n ∈ (leavess ps).map Pl.name → n ∈ namess ps
  | [], n, h => by simp [leavess] at h
  | (i, w) :: ps, n, h => by
    simp only [leavess, List.map_append, List.mem_append] at h
    simp only [namess, List.mem_append]
    rcases h with h | h
    · exact .inl (leaf_sub w n h)
    · exact .inr (leaf_subs ps n h)
end
mutual
theorem worthsF_get : ∀ (p : Pl) (x : Rat) (d : List (Str × Rat)) (n : Str), p.names.Nodup → dGet (worthsF p x d) n = if n ∈ p.leaves.map Pl.name then some (x * p.worth n) else dGet d n
  | .leaf a s, x, d, n, nd => by
    simp only [worthsF, leaves, List.map_cons, List.map_nil, Pl.name, List.mem_singleton, worth, dGet_put]
    by_cases e : a = n
    · rw [if_pos e, if_pos e.symm]
      grind
    · rw [if_neg e, if_neg (fun z => e z.symm)]
  | .lot r a ps, x, d, n, nd => by
    simp only [names, List.nodup_cons] at nd
    have el : (Pl.lot r a ps).leaves = leavess ps := by simp only [leaves]
    have e0 : worthsF (.lot r a ps) x d = worthsFs ((ps.map fun q => q.1).sum) ps x d := by simp only [worthsF]
    rw [e0, worthsFs_get ps ((ps.map fun q => q.1).sum) x d n nd.2]
    by_cases m : n ∈ (leavess ps).map Pl.name
    · have e : ¬ a = n := fun z => nd.1 (z ▸ leaf_subs ps n m)
      rw [if_pos m, if_pos (by rw [el]; exact m)]
      simp only [worth]
      rw [if_neg (show ¬ decide (a = n) = true by simpa using e)]
    · rw [if_neg m, if_neg (by rw [el]; exact m)]
theorem worthsFs_get : ∀ (ps : List (Int × Pl)) (W : Int) (x : Rat) (d : List (Str × Rat)) (n : Str), (namess ps).Nodup → dGet (worthsFs W ps x d) n = if n ∈ (leavess ps).map Pl.name then some (x * worths W ps n) else dGet d n
  | [], W, x, d, n, nd => by simp [worthsFs, leavess]
  | (i, w) :: ps, W, x, d, n, nd => by
    simp only [namess, List.nodup_append] at nd
    simp only [worthsFs, leavess, List.map_append, List.mem_append, worths]
    rw [worthsFs_get ps W x _ n nd.2.1, worthsF_get w _ d n nd.1, find_isN]
    by_cases m1 : n ∈ w.leaves.map Pl.name
    · have k1 := leaf_sub w n m1
      have m2 : n ∉ (leavess ps).map Pl.name := fun z => nd.2.2 _ k1 _ (leaf_subs ps n z) rfl
      rw [if_neg m2, if_pos m1, if_pos (.inl m1), if_pos (decide_eq_true k1)]
      grind
    · rw [if_neg m1]
      by_cases m2 : n ∈ (leavess ps).map Pl.name
      · have k2 : n ∉ w.names := fun z => nd.2.2 _ z _ (leaf_subs ps n m2) rfl
        rw [if_pos m2, if_pos (.inr m2), if_neg (show ¬ decide (n ∈ w.names) = true by simpa using k2)]
      · rw [if_neg m2, if_neg (by rintro (z | z); exact m1 z; exact m2 z)]
end
mutual
theorem worthsF_keys : ∀ (p : Pl) (x : Rat) (d : List (Str × Rat)), (d.map (·.1) ++ p.leaves.map Pl.name).Nodup → (worthsF p x d).map (·.1) = d.map (·.1) ++ p.leaves.map Pl.name
  | .leaf a s, x, d, nd => by
    simp only [leaves, List.map_cons, List.map_nil, Pl.name] at nd
    have h : a ∉ d.map (·.1) := fun z => (List.nodup_append.mp nd).2.2 a z a (by simp) rfl
    simp only [worthsF, leaves, List.map_cons, List.map_nil, Pl.name]
    rw [dPut_new h, List.map_append]
    rfl
  | .lot r a ps, x, d, nd => by
    simp only [leaves] at nd
    simp only [worthsF, leaves]
    exact worthsFs_keys ps _ x d nd
theorem worthsFs_keys : ∀ (ps : List (Int × Pl)) (W : Int) (x : Rat) (d : List (Str × Rat)), (d.map (·.1) ++ (leavess ps).map Pl.name).Nodup → (worthsFs W ps x d).map (·.1) = d.map (·.1) ++ (leavess ps).map Pl.name
  | [], W, x, d, nd => by simp [worthsFs, leavess]
  | (i, w) :: ps, W, x, d, nd => by
    simp only [leavess, List.map_append] at nd
    rw [← List.append_assoc] at nd
    have n1 := (List.nodup_append.mp nd).1
    have k := worthsF_keys w (x * qd i W) d n1
    simp only [worthsFs, leavess, List.map_append]
    rw [worthsFs_keys ps W x _ (by rw [k]; exact nd), k, List.append_assoc]
end
mutual
theorem worthsF_len : ∀ (p : Pl) (x : Rat) (d : List (Str × Rat)), (worthsF p x d).length ≤ d.length + p.names.length
  | .leaf a s, x, d => by
    have := dPut_len (a := x) (k := a) (ds := d)
    simp only [worthsF, names, List.length_singleton]
    exact this
  | .lot r a ps, x, d => by
    have h2 := worthsFs_len ps ((ps.map fun q => q.1).sum) x d
    simp only [worthsF, names, List.length_cons]
    omega
theorem worthsFs_len : ∀ (ps : List (Int × Pl)) (W : Int) (x : Rat) (d : List (Str × Rat)), (worthsFs W ps x d).length ≤ d.length + (namess ps).length
  | [], W, x, d => by simp [worthsFs, namess]
  | (i, w) :: ps, W, x, d => by
    have h1 := worthsF_len w (x * qd i W) d
    have h2 := worthsFs_len ps W x (worthsF w (x * qd i W) d)
    simp only [worthsFs, namess, List.length_append]
    omega
end
end Pl
theorem wf_keys {p : Pl} {x : Rat} (nd : p.names.Nodup) : (p.worthsF x []).map (·.1) = p.leaves.map Pl.name := by
  have z := Pl.worthsF_keys p x [] (by rw [List.map_nil, List.nil_append]; exact leaf_names nd)
  simpa using z
theorem wf_get {p : Pl} {n : Str} (nd : p.names.Nodup) (h : n ∈ p.leaves.map Pl.name) : dGet (p.worthsF 1 []) n = some (p.worth n) := by
  rw [Pl.worthsF_get p 1 [] n nd, if_pos h]
  have : (1 : Rat) * p.worth n = p.worth n := by grind
  rw [this]
/-- the first leaf worth otherwise -/
noncomputable def apartV (p q : Pl) : Option Str := (sortT (p.leaves.map Pl.name)).find? fun n => !decide (p.worth n = q.worth n)
theorem sortT_mem {ks : List Str} {n : Str} : n ∈ sortT ks ↔ n ∈ ks := by
  unfold sortT
  by_cases h : ∃ ys : List Str, ys.Perm ks ∧ sortedS ys = true
  · rw [dif_pos h]
    exact (Classical.choose_spec h).1.mem_iff
  · rw [dif_neg h]
theorem sortT_len {ks : List Str} : (sortT ks).length = ks.length := by
  unfold sortT
  by_cases h : ∃ ys : List Str, ys.Perm ks ∧ sortedS ys = true
  · rw [dif_pos h]
    exact (Classical.choose_spec h).1.length_eq
  · rw [dif_neg h]
theorem apart_some {p q : Pl} {n : Str} (h : apartV p q = some n) : n ∈ p.leaves.map Pl.name ∧ p.worth n ≠ q.worth n := by
  have a := List.mem_of_find?_eq_some h
  have b := List.find?_some h
  exact ⟨sortT_mem.mp a, by simpa using b⟩
theorem apart_none {p q : Pl} (h : apartV p q = none) : ∀ n ∈ p.leaves.map Pl.name, p.worth n = q.worth n := fun n m => by
  have z := List.find?_eq_none.mp h n (sortT_mem.mpr m)
  simpa using z
theorem find_filter' {α : Type} {f : α → Bool} : ∀ {l : List α}, l.find? f = (l.filter f).head?
  | [] => rfl
  | a :: l => by
    cases c : f a with
    | true => rw [List.find?_cons_of_pos c, List.filter_cons_of_pos c]; rfl
    | false => rw [List.find?_cons_of_neg (by rw [c]; simp), List.filter_cons_of_neg (by rw [c]; simp)]; exact find_filter'
/-! ### far, of plans of the same leaves -/
theorem perm_sum {α : Type} {f : α → Rat} {l m : List α} (h : l.Perm m) : (l.map f).sum = (m.map f).sum := by
  induction h with
  | nil => rfl
  | cons x _ ih => simp only [List.map_cons, List.sum_cons]; rw [ih]
  | swap x y l => simp only [List.map_cons, List.sum_cons]; grind
  | trans _ _ a b => exact a.trans b
theorem far_other {p q : Pl} {d : List (Str × Int)} (hq : q.names.Nodup) (h : q.leaves.Perm p.leaves) : q.far d = (p.leaves.map fun l : Pl => l.far d * q.worth l.name).sum := by
  rw [← far_worth hq]
  exact perm_sum h
theorem far_alike {p q : Pl} {d : List (Str × Int)} (hp : p.names.Nodup) (hq : q.names.Nodup) (h : q.leaves.Perm p.leaves) (k : ∀ n ∈ p.leaves.map Pl.name, p.worth n = q.worth n) : p.far d = q.far d := by
  rw [far_other hq h, ← far_worth hp]
  congr 1
  exact List.map_congr_left fun l hl => by rw [k l.name (List.mem_map.mpr ⟨l, hl, rfl⟩)]
theorem sum_one {f : Pl → Rat} {l0 : Pl} : ∀ {ls : List Pl}, (ls.map Pl.name).Nodup → l0 ∈ ls → (∀ l ∈ ls, l.name ≠ l0.name → f l = 0) → (ls.map f).sum = f l0
  | [], _, h, _ => by simp at h
  | a :: ls, nd, h, hz => by
    rw [List.map_cons, List.nodup_cons] at nd
    simp only [List.map_cons, List.sum_cons]
    have z0 : ∀ ms : List Pl, (∀ l ∈ ms, f l = 0) → (ms.map f).sum = 0 := fun ms => by
      induction ms with
      | nil => intro _; rfl
      | cons b ms ih => intro hb; simp only [List.map_cons, List.sum_cons]; rw [hb b List.mem_cons_self, ih fun l hl => hb l (List.mem_cons_of_mem _ hl)]; grind
    rcases List.mem_cons.mp h with rfl | h
    · rw [z0 ls fun l hl => hz l (List.mem_cons_of_mem _ hl) fun e => nd.1 (e ▸ List.mem_map.mpr ⟨l, hl, rfl⟩)]
      grind
    · have ne : a.name ≠ l0.name := fun e => nd.1 (e ▸ List.mem_map.mpr ⟨l0, h, rfl⟩)
      rw [hz a List.mem_cons_self ne, sum_one nd.2 h fun l hl => hz l (List.mem_cons_of_mem _ hl)]
      grind
/-- one step of a leaf -/
theorem far_one {p q : Pl} {n : Str} {s : Int} (hp : p.names.Nodup) (h : q.leaves.Perm p.leaves) (hq : q.names.Nodup) (hm : Pl.leaf n (some s) ∈ p.leaves) : q.far (dPut [] n 1) = (1 : Rat) / (s : Rat) * q.worth n := by
  rw [far_other hq h, sum_one (f := fun l : Pl => l.far (dPut [] n 1) * q.worth l.name) (leaf_names hp) hm fun l hl ne => ?_]
  · have e : (Pl.leaf n (some s)).far (dPut [] n 1) = (1 : Rat) / (s : Rat) := by
      simp only [Pl.far]
      rw [dg_put, if_pos rfl]
      rfl
    show (Pl.leaf n (some s)).far (dPut [] n 1) * q.worth n = _
    rw [e]
  · have hi := leaves_isLeaf _ l hl
    cases l with
    | lot r a ps => simp [Pl.isLeaf] at hi
    | leaf a t =>
      have ne' : ¬ n = a := fun e => ne e.symm
      have e : (Pl.leaf a t).far (dPut [] n 1) = 0 := by
        cases t with
        | none => simp only [Pl.far]
        | some m =>
          simp only [Pl.far]
          rw [dg_put, if_neg ne', Rat.div_def]
          have : ((dg [] a : Int) : Rat) = 0 := rfl
          rw [this, Rat.zero_mul]
      show (Pl.leaf a t).far (dPut [] n 1) * _ = 0
      rw [e, Rat.zero_mul]
/-! ### runs of single steps -/
theorem runC_snoc {p : Pl} {ts : List Tel} {t : Tel} : runC p (ts ++ [t]) = stepC (runC p ts) t := by
  unfold runC
  rw [List.foldl_append]
  rfl
structure Steps (p : Pl) (ts : List Tel) (d : List (Str × Int)) : Prop where
  run : RunOk p ts
  plan : (runC p ts).plan = p
  did : (runC p ts).did = d
theorem steps_nil {p : Pl} (h : PlanOk p) : Steps p [] [] := ⟨runOk_few h (fun i t e => by simp at e) (by decide), rfl, rfl⟩
theorem steps_next {p : Pl} {ts : List Tel} {d : List (Str × Int)} {n : Str} {s : Int} (h : Steps p ts d) (hl : ts.length ≤ 20) (hm : Pl.leaf n (some s) ∈ p.leaves) (hd : dg d n + 1 ≤ s) : Steps p (ts ++ [.did n 1]) (dPut d n (dg d n + 1)) := by
  have co := h.run.plan
  have ma : Pl.leaf n (some s) ∈ p.all := (leaves_sub p).subset hm
  have nm := co.names n (mem_names ma)
  have to : TelOk (.did n 1) := ⟨⟨nm.1, nm.2.1⟩, fun _ => rfl, fun z => by simp [Tel.isFound] at z⟩
  have hf := find_all co.nodup ma
  have tk : Took (runC p ts).plan (runC p ts).did (.did n 1) p (dPut d n (dg d n + 1)) := by
    rw [h.plan, h.did]
    exact .did hf rfl fun s' e => by
      have : s = s' := by simpa [Pl.steps] using e
      subst this
      exact hd
  obtain ⟨cn, ea⟩ := tk.can
  have er : runC p (ts ++ [.did n 1]) = stepC (runC p ts) (.did n 1) := runC_snoc
  refine ⟨runOk_few co (fun i t e => ?_) (by rw [List.length_append, List.length_singleton]; omega), ?_, ?_⟩
  · by_cases lt : i < ts.length
    · rw [List.getElem?_append_left lt] at e
      rw [List.take_append_of_le_length (by omega)]
      exact h.run.can i t e
    · have hi : i = ts.length := by
        have := (List.getElem?_eq_some_iff.mp e).1
        rw [List.length_append, List.length_singleton] at this
        omega
      subst hi
      rw [List.getElem?_append_right (Nat.le_refl _), Nat.sub_self] at e
      cases e
      rw [List.take_append_of_le_length (Nat.le_refl _), List.take_length]
      exact ⟨to, cn⟩
  · rw [er]
    show (after _ _ _).1 = p
    rw [ea]
  · rw [er]
    show (after _ _ _).2 = _
    rw [ea]
end Hf

namespace Hf
open PySem PySem.Spec PyProof.Rows L2 ClX
/-! ### dicts of numbers compared -/
def hitsI (ls : List (Key × V)) (ks : List (Key × V)) : Bool := ks.all fun p => match p.2, valV ls p.1 with
  | .int i, some (.int j) => decide (i = j)
  | _, _ => false
theorem hits_int {X : Cx} {pins : List (Addr × Obj)} {σ : L2.St} {H : Hp} {s : Shared} (I : Inv X pins σ H s) {A : Around} (hu : A.in1.units + 64 < cLine) {ls : List (Key × V)} (hl : ∀ p ∈ ls, ∃ i, p.2 = .int i) {vb : List (Key × Value)} (rb : KV ls vb) {ks : List (Key × V)} {va : List (Key × Value)}
    (ra : KV ks va) : (∀ p ∈ ks, ∃ i, p.2 = .int i) → PySem.W.KeqHits A.in1 s vb va (hitsI ls ks) := by
  unfold KV at ra
  induction ra with
  | nil => intro _; exact .nil
  | @cons p q ps qs h t ih =>
    intro hp
    obtain ⟨h1, h2⟩ := h
    obtain ⟨i, ei⟩ := hp p List.mem_cons_self
    have h3 := ih fun p' hm => hp p' (List.mem_cons_of_mem _ hm)
    have rr := rb.val p.1
    obtain ⟨key, v⟩ := q
    have h1' : p.1 = key := h1
    unfold hitsI at h3 ⊢
    rw [List.all_cons]
    cases e : valV ls p.1 with
    | none =>
      rw [e] at rr
      have hn : valueAt vb p.1 = none := by
        cases z : valueAt vb p.1 with
        | none => rfl
        | some y => rw [z] at rr; exact rr.elim
      rw [h1'] at hn
      have ez : (match p.2, (none : Option V) with
        | .int i, some (.int j) => decide (i = j)
        | _, _ => false) = false := by rw [ei]
      rw [ez, Bool.false_and]
      exact .miss hn
    | some w =>
      rw [e] at rr
      obtain ⟨y, hy, ry⟩ := rr.some_of
      rw [h1'] at hy
      have hw : ∃ j, w = .int j := by
        have : ∀ l : List (Key × V), (∀ p ∈ l, ∃ i, p.2 = .int i) → valV l p.1 = some w → ∃ j, w = .int j := fun l => by
          induction l with
          | nil => intro _ z; simp [valV] at z
          | cons a l ihl =>
            intro ha z
            by_cases c : a.1 = p.1
            · rw [valV_pos c] at z
              cases z
              exact ha a List.mem_cons_self
            · rw [valV_neg c] at z
              exact ihl (fun b hb => ha b (List.mem_cons_of_mem _ hb)) z
        exact this ls hl e
      obtain ⟨j, ej⟩ := hw
      subst ej
      rw [ei] at h2
      obtain ⟨as1, r1⟩ := Dp.reads I (.int i) (.int i) v (.int i) h2
      obtain ⟨as2, r2⟩ := Dp.reads I (.int j) (.int j) y (.int j) ry
      have z := PySem.W.keq_at r1 r2 rfl rfl hu
      have ez : PyData.eqv (.int i) (.int j) = decide (i = j) := by
        simp only [PyData.eqv]
        exact Bool.beq_eq_decide_eq _ _
      rw [ez] at z
      have em : (match p.2, some (V.int j) with
        | .int i, some (.int j) => decide (i = j)
        | _, _ => false) = decide (i = j) := by rw [ei]
      rw [em]
      exact .hit hy z h3
def rNeDI : R2 := fun x y H Q => ∃ a c ks ls, x = .ref a ∧ y = .ref c ∧ H a = some (.dK ks) ∧ H c = some (.dK ls) ∧ (∀ p ∈ ks, ∃ i, p.2 = .int i) ∧ (∀ p ∈ ls, ∃ i, p.2 = .int i) ∧ Q (.bl (!(decide (ks.length = ls.length) && hitsI ls ks))) H
theorem op_neDI {X : Cx} (hu : X.A.units + 100 < cLine) : OpR X (compareOp .NotEq) rNeDI := by
  intro pins s σ H x y v u Q I rx ry h
  obtain ⟨a, b, ks, ls, rfl, rfl, ea, eb, h1, h2, q⟩ := h
  obtain rfl : v = Value.ref a := rx
  obtain rfl : u = Value.ref b := ry
  obtain ⟨_, ya, va, ra, da⟩ := (show ObjOk X.prog X.w H s.heap a (.dK ks) from I.hok a _ ea)
  obtain ⟨_, yb, vb, rb, db⟩ := (show ObjOk X.prog X.w H s.heap b (.dK ls) from I.hok b _ eb)
  have l1 : ks.length = va.length := ra.length
  have l2 : ls.length = vb.length := rb.length
  have e : (va.length == vb.length) = decide (ks.length = ls.length) := by rw [l1, l2]; exact (Bool.beq_eq_decide_eq _ _)
  exact PySem.W.keq_ne (knd := mixKind X.prog X.w) (r := hitsI ls ks) ya yb da db (by omega) (fun _ => hits_int I (by show X.A.units + 1 + 64 < cLine; omega) h2 rb ra h1) ⟨.bl _, H, I, (by rw [e]; rfl), q⟩
theorem op_neDIR {X : Cx} {k : Nat} (hr : Room k X.A) : OpR X (compareOp .NotEq) rNeDI := op_neDI (by have := hr.un; omega)
theorem KvAt.ints {G : Hp} : ∀ {kvs : List (Key × V)} {ds : List (Str × Int)}, KvAt rInt G kvs ds → ∀ p ∈ kvs, ∃ i, p.2 = .int i
  | _, _, .nil, p, m => by simp at m
  | _, _, .cons (a := a) h t, p, m => by
    rcases List.mem_cons.mp m with rfl | m
    · exact ⟨a, h⟩
    · exact KvAt.ints t p m
theorem hitsI_eq {G : Hp} {ls : List (Key × V)} {es : List (Str × Int)} (b : KvAt rInt G ls es) : ∀ {ks : List (Key × V)} {ds : List (Str × Int)}, KvAt rInt G ks ds → hitsI ls ks = ds.all fun q => decide (dGet es q.1 = some q.2)
  | _, _, .nil => rfl
  | _, _, .cons (k := k) (v := v) (a := a) (kvs := kvs) (ds := ds) h t => by
    have ih := hitsI_eq b t
    unfold hitsI at ih ⊢
    rw [List.all_cons, List.all_cons, ih]
    congr 1
    have hv : v = .int a := h
    subst hv
    rcases b.get (k := k) with ⟨h1, h2⟩ | ⟨w, c, h1, h2, h3⟩
    · simp only [h1, h2]
      rfl
    · have hw : w = .int c := h3
      subst hw
      simp only [h1, h2, Option.some.injEq]
      exact decide_eq_decide.mpr ⟨fun e => e.symm, fun e => e.symm⟩
section
variable {X : Cx} {Γ : List Slot} {e f : Expr} {pos : Pos} {ds es : List (Str × Int)} {k : Nat}
theorem et_neDI (hr : Room k X.A) (ha : EvB X Γ e (oDic rInt ds)) (hb : EvB X Γ f (oDic rInt es)) (hm : behindInMarks .NotEq f = false := by first | exact nobehind _ (by decide) (by decide) | rfl) : EvT X Γ (.Compare e [.NotEq] [f] pos) (!eqDI ds es) := fun E G H σ hh Q q =>
  WT.of (pt_cmpR (op_neDI (by have := hr.un; omega)) WE.pe WE.pe hm) (ha E G H σ hh _ fun a o G1 H1 l1 h1 ⟨ks, e1, a1⟩ => hb E G1 H1 σ (hh.step l1) _ fun c o2 G2 H2 l2 h2 ⟨ls, e2, a2⟩ => by
    subst e1 e2
    have a1' := a1.mono l2.g
    refine ⟨a, c, ks, ls, rfl, rfl, l2.h _ _ h1, h2, a1.ints, a2.ints, !eqDI ds es, ?_, q G2 H2 (l1.trans l2)⟩
    rw [hitsI_eq a2 a1', a1.length, a2.length]
    rfl)
end
end Hf

namespace Hf
open PySem PySem.Spec PyProof.Rows L2 ClX
/-! ### dicts with keys of any sort, plain -/
def kGet {κ α : Type} [DecidableEq κ] (ds : List (κ × α)) (k : κ) : Option α := (ds.find? fun q => decide (q.1 = k)).map (·.2)
def kPut {κ α : Type} [DecidableEq κ] (ds : List (κ × α)) (k : κ) (a : α) : List (κ × α) :=
  if (ds.any fun q => decide (q.1 = k)) = true then ds.map (fun q => if q.1 = k then (q.1, a) else q) else ds ++ [(k, a)]
section
variable {κ α : Type} [DecidableEq κ]
theorem kGet_pos {p : κ × α} {ds : List (κ × α)} {k : κ} (e : p.1 = k) : kGet (p :: ds) k = some p.2 := by simp [kGet, List.find?_cons, e]
theorem kGet_neg {p : κ × α} {ds : List (κ × α)} {k : κ} (e : ¬ p.1 = k) : kGet (p :: ds) k = kGet ds k := by simp [kGet, List.find?_cons, e]
theorem kGet_put {a : α} {k n : κ} : ∀ {ds : List (κ × α)}, kGet (kPut ds k a) n = if k = n then some a else kGet ds n := fun {ds} => by
  have hm : ∀ l : List (κ × α), (l.any fun q => decide (q.1 = k)) = true → kGet (l.map fun q => if q.1 = k then (q.1, a) else q) n = if k = n then some a else kGet l n := fun l => by
    induction l with
    | nil => intro h; simp at h
    | cons q l ih =>
      intro h
      by_cases e : q.1 = k
      · by_cases e2 : k = n
        · rw [if_pos e2, List.map_cons, if_pos e, kGet_pos (by rw [← e2]; exact e)]
        · rw [if_neg e2, List.map_cons, if_pos e, kGet_neg (by rw [e]; exact e2), kGet_neg (by rw [e]; exact e2)]
          have : ∀ l : List (κ × α), kGet (l.map fun q => if q.1 = k then (q.1, a) else q) n = kGet l n := fun l => by
            induction l with
            | nil => rfl
            | cons x l ih =>
              by_cases z : x.1 = k
              · rw [List.map_cons, if_pos z, kGet_neg (by rw [z]; exact e2), kGet_neg (by rw [z]; exact e2)]; exact ih
              · rw [List.map_cons, if_neg z]
                by_cases z2 : x.1 = n
                · rw [kGet_pos z2, kGet_pos z2]
                · rw [kGet_neg z2, kGet_neg z2]; exact ih
          exact this l
      · have h' : (l.any fun q => decide (q.1 = k)) = true := by
          rw [List.any_cons, decide_eq_false e, Bool.false_or] at h
          exact h
        rw [List.map_cons, if_neg e]
        by_cases z2 : q.1 = n
        · rw [kGet_pos z2, kGet_pos z2, if_neg (by rw [← z2]; exact fun z => e z.symm)]
        · rw [kGet_neg z2, kGet_neg z2]; exact ih h'
  have hs : ∀ l : List (κ × α), (l.any fun q => decide (q.1 = k)) = false → kGet (l ++ [(k, a)]) n = if k = n then some a else kGet l n := fun l => by
    induction l with
    | nil =>
      intro _
      by_cases e : k = n
      · rw [if_pos e]; exact kGet_pos e
      · rw [if_neg e]; exact kGet_neg e
    | cons q l ih =>
      intro h
      rw [List.any_cons, Bool.or_eq_false_iff] at h
      have e : ¬ q.1 = k := of_decide_eq_false h.1
      rw [List.cons_append]
      by_cases z2 : q.1 = n
      · rw [kGet_pos z2, kGet_pos z2, if_neg (by rw [← z2]; exact fun z => e z.symm)]
      · rw [kGet_neg z2, kGet_neg z2]; exact ih h.2
  unfold kPut
  split
  · rename_i h; exact hm ds h
  · rename_i h; exact hs ds ((Bool.not_eq_true _).mp h)
theorem kPut_len {a : α} {k : κ} {ds : List (κ × α)} : (kPut ds k a).length ≤ ds.length + 1 := by
  unfold kPut
  split <;> simp
theorem kPut_keys {a : α} {k : κ} {ds : List (κ × α)} : (kPut ds k a).map (·.1) = if k ∈ ds.map (·.1) then ds.map (·.1) else ds.map (·.1) ++ [k] := by
  have hw : (ds.any fun q => decide (q.1 = k)) = true ↔ k ∈ ds.map (·.1) := by
    rw [List.any_eq_true, List.mem_map]
    exact ⟨fun ⟨q, h1, h2⟩ => ⟨q, h1, of_decide_eq_true h2⟩, fun ⟨q, h1, h2⟩ => ⟨q, h1, decide_eq_true h2⟩⟩
  unfold kPut
  by_cases c : k ∈ ds.map (·.1)
  · rw [if_pos c, if_pos (hw.mpr c), List.map_map]
    apply List.map_congr_left
    intro q _
    show (if q.1 = k then (q.1, a) else q).1 = q.1
    split <;> rfl
  · rw [if_neg c, if_neg (fun z => c (hw.mp z)), List.map_append]
    rfl
theorem kGet_none {k : κ} : ∀ {ds : List (κ × α)}, kGet ds k = none ↔ k ∉ ds.map (·.1)
  | [] => by simp [kGet]
  | p :: ds => by
    by_cases e : p.1 = k
    · rw [kGet_pos e]; simp [e]
    · rw [kGet_neg e, kGet_none (ds := ds), List.map_cons, List.mem_cons, not_or]
      exact ⟨fun h => ⟨fun z => e z.symm, h⟩, fun h => h.2⟩
end
theorem dGet_k {α : Type} {ds : List (Str × α)} {k : Str} : dGet ds k = kGet ds k := rfl
theorem dPut_k {α : Type} {ds : List (Str × α)} {k : Str} {a : α} : dPut ds k a = kPut ds k a := rfl
/-! ### tallies: hand, leaf, how many -/
abbrev Tal := Str × Str × Int
def tkey (t : Tal) : Str × Str := (t.2.1, t.1)
def mostStep (d : List ((Str × Str) × Int)) (t : Tal) : List ((Str × Str) × Int) := kPut d (t.2.1, t.1) (max t.2.2 ((kGet d (t.2.1, t.1)).getD 0))
def mostL (ts : List Tal) : List ((Str × Str) × Int) := ts.foldl mostStep []
def foundStep (m : List ((Str × Str) × Int)) (d : List (Str × Int)) (k : Str × Str) : List (Str × Int) := dPut d k.1 ((dGet d k.1).getD 0 + (kGet m k).getD 0)
def foundL (m : List ((Str × Str) × Int)) (ks : List (Str × Str)) : List (Str × Int) := ks.foldl (foundStep m) []
/-- the greatest told by a hand of a leaf -/
def topOf (ts : List Tal) (h l : Str) : Int := maxL ([0] ++ (ts.filter fun t => decide ((t.1, t.2.1) = (h, l))).map (·.2.2))
def sumOf (hs : List Str) (ts : List Tal) (l : Str) : Int := hs.foldl (fun s h => s + topOf ts h l) 0
noncomputable def dueL (hs : List Str) (ts : List Tal) : List (Str × Int) := (sortT (ts.map (·.2.1))).foldl (fun d l => dPut d l (sumOf hs ts l)) []
theorem most_get (k : Str × Str) : ∀ (ts : List Tal) (d : List ((Str × Str) × Int)),
    (kGet (ts.foldl mostStep d) k).getD 0 = ((ts.filter fun t => decide (tkey t = k)).map (·.2.2)).foldl max ((kGet d k).getD 0)
      ∧ ((kGet (ts.foldl mostStep d) k).isSome = true ↔ ((kGet d k).isSome = true ∨ k ∈ ts.map tkey))
  | [], d => by simp
  | t :: ts, d => by
    obtain ⟨h1, h2⟩ := most_get k ts (mostStep d t)
    rw [List.foldl_cons]
    have e : kGet (mostStep d t) k = if tkey t = k then some (max t.2.2 ((kGet d (tkey t)).getD 0)) else kGet d k := kGet_put
    rw [e] at h1 h2
    by_cases c : tkey t = k
    · rw [if_pos c] at h1 h2
      refine ⟨?_, ?_⟩
      · rw [h1, List.filter_cons_of_pos (by exact decide_eq_true c), List.map_cons, List.foldl_cons, c, Option.getD_some, Int.max_comm]
      · rw [h2]; simp [c]
    · rw [if_neg c] at h1 h2
      refine ⟨?_, ?_⟩
      · rw [h1, List.filter_cons_of_neg (by simpa using c)]
      · rw [h2, List.map_cons, List.mem_cons]
        exact ⟨fun z => z.elim .inl fun m => .inr (.inr m), fun z => z.elim .inl fun m => m.elim (fun e => absurd e.symm c) .inr⟩
theorem most_top {ts : List Tal} {h l : Str} : (kGet (mostL ts) (l, h)).getD 0 = topOf ts h l := by
  have z := (most_get (l, h) ts []).1
  have e : (ts.filter fun t => decide (tkey t = (l, h))) = ts.filter fun t => decide ((t.1, t.2.1) = (h, l)) := by
    apply List.filter_congr
    intro t _
    apply decide_eq_decide.mpr
    show (t.2.1, t.1) = (l, h) ↔ (t.1, t.2.1) = (h, l)
    rw [Prod.mk.injEq, Prod.mk.injEq]
    exact And.comm
  rw [e] at z
  exact z
theorem most_keys : ∀ (ts : List Tal) (d : List ((Str × Str) × Int)), (d.map (·.1)).Nodup → ((ts.foldl mostStep d).map (·.1)).Nodup
  | [], _, h => h
  | t :: ts, d, h => most_keys ts _ (by
    unfold mostStep
    rw [kPut_keys]
    split
    · exact h
    · rename_i c
      rw [List.nodup_append]
      exact ⟨h, by simp, fun a ha b hb e => c (by
        have : b = (t.2.1, t.1) := by simpa using hb
        rw [← this, ← e]; exact ha)⟩)
theorem most_mem {ts : List Tal} {k : Str × Str} : k ∈ (mostL ts).map (·.1) ↔ k ∈ ts.map tkey := by
  have z := (most_get k ts []).2
  have a : (kGet (mostL ts) k).isSome = true ↔ k ∈ (mostL ts).map (·.1) := by
    by_cases c : k ∈ (mostL ts).map (·.1)
    · exact ⟨fun _ => c, fun _ => by
        cases e : kGet (mostL ts) k with
        | none => exact absurd c (kGet_none.mp e)
        | some _ => rfl⟩
    · exact ⟨fun h => (by rw [kGet_none.mpr c] at h; cases h), fun h => absurd h c⟩
  rw [← a]
  have b : ¬ (kGet ([] : List ((Str × Str) × Int)) k).isSome = true := by simp [kGet]
  exact z.trans ⟨fun h => h.resolve_left b, .inr⟩
theorem most_len (ts : List Tal) : ∀ d : List ((Str × Str) × Int), (ts.foldl mostStep d).length ≤ d.length + ts.length := by
  induction ts with
  | nil => intro d; simp
  | cons t ts ih =>
    intro d
    have := ih (mostStep d t)
    have e : (mostStep d t).length ≤ d.length + 1 := kPut_len
    rw [List.foldl_cons, List.length_cons]
    omega
end Hf

namespace Hf
open PySem PySem.Spec PyProof.Rows L2 ClX
/-! ### folds that put sorted keys -/
theorem lt_irr {a : Str} : ltS a a = false := by
  cases c : ltS a a with
  | false => rfl
  | true => have := ltN_asym c; unfold ltS at c; rw [c] at this; cases this
theorem lt_of_le {a b : Str} (h : ltS b a = false) (n : a ≠ b) : ltS a b = true := by
  cases c : ltS a b with
  | true => rfl
  | false => exact absurd (str_ext (ltN_eq c h)) n
def Strict (ks : List Str) : Prop := ks.Pairwise fun a b => ltS a b = true
theorem strict_nodup {ks : List Str} (h : Strict ks) : ks.Nodup := by
  unfold Strict at h
  exact h.imp fun {a b} z e => by rw [e, lt_irr] at z; cases z
theorem fold_mem {β : Type} (f : β → Str) (g : List (Str × Int) → β → Int) : ∀ (ys : List β) (d : List (Str × Int)) (l : Str),
    l ∈ (ys.foldl (fun d y => dPut d (f y) (g d y)) d).map (·.1) ↔ l ∈ d.map (·.1) ∨ l ∈ ys.map f
  | [], d, l => by simp
  | y :: ys, d, l => by
    rw [List.foldl_cons, fold_mem f g ys, dPut_k, kPut_keys]
    split
    · rename_i c
      rw [List.map_cons, List.mem_cons]
      exact ⟨fun z => z.elim .inl fun m => .inr (.inr m), fun z => z.elim .inl fun m => m.elim (fun e => .inl (e ▸ c)) .inr⟩
    · rw [List.mem_append, List.mem_singleton, List.map_cons, List.mem_cons, or_assoc]
theorem fold_strict {β : Type} (f : β → Str) (g : List (Str × Int) → β → Int) : ∀ (ys : List β) (d : List (Str × Int)),
    ys.Pairwise (fun a b => ltS (f b) (f a) = false) → (∀ k ∈ d.map (·.1), ∀ y ∈ ys, ltS (f y) k = false) → Strict (d.map (·.1)) → Strict ((ys.foldl (fun d y => dPut d (f y) (g d y)) d).map (·.1))
  | [], d, _, _, h => h
  | y :: ys, d, p, q, h => by
    obtain ⟨p1, p2⟩ := List.pairwise_cons.mp p
    rw [List.foldl_cons]
    apply fold_strict f g ys _ p2
    · intro k hk z hz
      rw [dPut_k, kPut_keys] at hk
      split at hk
      · exact q k hk z (List.mem_cons_of_mem _ hz)
      · rcases List.mem_append.mp hk with m | m
        · exact q k m z (List.mem_cons_of_mem _ hz)
        · rw [List.mem_singleton.mp m]; exact p1 z hz
    · rw [dPut_k, kPut_keys]
      split
      · exact h
      · rename_i c
        unfold Strict at h ⊢
        rw [List.pairwise_append]
        refine ⟨h, by simp, fun a ha b hb => ?_⟩
        rw [List.mem_singleton.mp hb]
        exact lt_of_le (q a ha y List.mem_cons_self) fun e => c (e ▸ ha)
theorem strict_uniq : ∀ {ks ls : List Str}, Strict ks → Strict ls → (∀ k, k ∈ ks ↔ k ∈ ls) → ks = ls
  | [], [], _, _, _ => rfl
  | [], b :: ls, _, _, h => absurd ((h b).mpr List.mem_cons_self) (by simp)
  | a :: ks, [], _, _, h => absurd ((h a).mp List.mem_cons_self) (by simp)
  | a :: ks, b :: ls, p, q, h => by
    obtain ⟨p1, p2⟩ := List.pairwise_cons.mp p
    obtain ⟨q1, q2⟩ := List.pairwise_cons.mp q
    have e : a = b := by
      rcases List.mem_cons.mp ((h a).mp List.mem_cons_self) with e | m
      · exact e
      · rcases List.mem_cons.mp ((h b).mpr List.mem_cons_self) with e | m2
        · exact e.symm
        · have := q1 a m
          have z := p1 b m2
          have w := ltN_asym z
          unfold ltS at this
          rw [this] at w
          cases w
    subst e
    rw [strict_uniq p2 q2 fun k => ?_]
    constructor
    · intro m
      rcases List.mem_cons.mp ((h k).mp (List.mem_cons_of_mem _ m)) with e | z
      · have := p1 k m
        rw [e, lt_irr] at this
        cases this
      · exact z
    · intro m
      rcases List.mem_cons.mp ((h k).mpr (List.mem_cons_of_mem _ m)) with e | z
      · have := q1 k m
        rw [e, lt_irr] at this
        cases this
      · exact z
theorem dict_ext : ∀ {ds es : List (Str × Int)}, (ds.map (·.1)).Nodup → ds.map (·.1) = es.map (·.1) → (∀ k ∈ ds.map (·.1), dGet ds k = dGet es k) → ds = es
  | [], [], _, _, _ => rfl
  | [], _ :: _, _, h, _ => by simp at h
  | _ :: _, [], _, h, _ => by simp at h
  | p :: ds, q :: es, n, h, g => by
    rw [List.map_cons, List.map_cons, List.cons.injEq] at h
    rw [List.map_cons, List.nodup_cons] at n
    have e := g p.1 List.mem_cons_self
    rw [dGet_pos rfl, dGet_pos h.1.symm, Option.some.injEq] at e
    rw [dict_ext n.2 h.2 fun k hk => ?_, Prod.ext h.1 e]
    have z := g k (List.mem_cons_of_mem _ hk)
    have ne : ¬ p.1 = k := fun e => n.1 (e ▸ hk)
    rw [dGet_neg ne, dGet_neg (by rw [← h.1]; exact ne)] at z
    exact z
theorem dGet_isNone {ds : List (Str × Int)} {k : Str} : dGet ds k = none ↔ k ∉ ds.map (·.1) := kGet_none
/-- what stands for a leaf behind a fold that adds -/
theorem add_get (m : Str × Str → Int) (l : Str) : ∀ (ks : List (Str × Str)) (d : List (Str × Int)),
    (dGet (ks.foldl (fun d k => dPut d k.1 ((dGet d k.1).getD 0 + m k)) d) l).getD 0 = (dGet d l).getD 0 + ((ks.filter fun k => decide (k.1 = l)).map m).sum
  | [], d => by simp
  | k :: ks, d => by
    rw [List.foldl_cons, add_get m l ks, dGet_put]
    by_cases c : k.1 = l
    · rw [if_pos c, List.filter_cons_of_pos (by exact decide_eq_true c), List.map_cons, List.sum_cons, c, Option.getD_some]
      omega
    · rw [if_neg c, List.filter_cons_of_neg (by simpa using c)]
/-- what stands for a leaf behind a fold that puts the same for the same -/
theorem put_get (m : Str → Int) (l : Str) : ∀ (ks : List Str) (d : List (Str × Int)),
    dGet (ks.foldl (fun d k => dPut d k (m k)) d) l = if l ∈ ks then some (m l) else dGet d l
  | [], d => by simp
  | k :: ks, d => by
    rw [List.foldl_cons, put_get m l ks, dGet_put]
    by_cases c : l ∈ ks
    · rw [if_pos c, if_pos (List.mem_cons_of_mem _ c)]
    · rw [if_neg c]
      by_cases e : k = l
      · rw [if_pos e, if_pos (e ▸ List.mem_cons_self), e]
      · rw [if_neg e, if_neg fun z => (List.mem_cons.mp z).elim (fun y => e y.symm) c]
end Hf

namespace Hf
open PySem PySem.Spec PyProof.Rows L2 ClX
/-! ### the sorts -/
def leS (a b : Str) : Bool := !ltS b a
theorem leS_tr {a b c : Str} (h : leS a b = true) (k : leS b c = true) : leS a c = true := by
  unfold leS at *
  rw [Bool.not_eq_true'] at *
  exact ltN_tr h k
theorem leS_tot (a b : Str) : (leS a b || leS b a) = true := by
  unfold leS
  cases c : ltS b a with
  | false => rfl
  | true =>
    have := ltN_asym c
    unfold ltS
    rw [this]
    rfl
theorem rising_of : ∀ {p : Str} {l : List Str}, (p :: l).Pairwise (fun a b => leS a b = true) → risingS p l = true
  | _, [], _ => rfl
  | p, x :: r, h => by
    obtain ⟨h1, h2⟩ := List.pairwise_cons.mp h
    have a := h1 x List.mem_cons_self
    unfold leS at a
    simp only [risingS, Bool.and_eq_true]
    exact ⟨a, rising_of h2⟩
theorem sorted_ex (ks : List Str) : ∃ ys : List Str, ys.Perm ks ∧ sortedS ys = true ∧ ys.Pairwise fun a b => ltS b a = false := by
  have pw : (ks.mergeSort leS).Pairwise fun a b => leS a b = true := List.pairwise_mergeSort (le := leS) (fun a b c h k => leS_tr h k) leS_tot ks
  refine ⟨ks.mergeSort leS, List.mergeSort_perm ks leS, ?_, pw.imp fun {a b} h => by unfold leS at h; rwa [Bool.not_eq_true'] at h⟩
  generalize ks.mergeSort leS = ys at pw
  cases ys with
  | nil => rfl
  | cons a l => exact rising_of pw
theorem sortT_perm (ks : List Str) : (sortT ks).Perm ks ∧ (sortT ks).Pairwise fun a b => ltS b a = false := by
  obtain ⟨ys, p, h, q⟩ := sorted_ex ks
  have e := sortT_of p h
  rw [← e]
  exact ⟨p, q⟩
/-! ### all hands together -/
theorem one_sum {hs : List Str} (nd : hs.Nodup) {h : Str} (c : Int) (hm : h ∈ hs) : (hs.map fun x => if x = h then c else 0).sum = c := by
  induction hs with
  | nil => simp at hm
  | cons a l ih =>
    rw [List.nodup_cons] at nd
    rw [List.map_cons, List.sum_cons]
    by_cases e : a = h
    · rw [if_pos e]
      have : ∀ l : List Str, h ∉ l → (l.map fun x => if x = h then c else 0).sum = 0 := fun l => by
        induction l with
        | nil => intro _; rfl
        | cons b l ih2 =>
          intro hn
          rw [List.map_cons, List.sum_cons, if_neg (fun z : b = h => hn (z ▸ List.mem_cons_self)), ih2 fun z => hn (List.mem_cons_of_mem _ z)]
          rfl
      rw [this l (e ▸ nd.1)]
      omega
    · rw [if_neg e, ih nd.2 ((List.mem_cons.mp hm).resolve_left fun z => e z.symm)]
      omega
theorem sum_add {α : Type} {f g : α → Int} : ∀ l : List α, (l.map fun x => f x + g x).sum = (l.map f).sum + (l.map g).sum
  | [] => rfl
  | a :: l => by
    rw [List.map_cons, List.sum_cons, sum_add l, List.map_cons, List.sum_cons, List.map_cons, List.sum_cons]
    omega
theorem hands_sum {hs : List Str} (nd : hs.Nodup) (m : Str × Str → Int) (l : Str) : ∀ ks : List (Str × Str), ks.Nodup → (∀ k ∈ ks, k.2 ∈ hs) →
    ((ks.filter fun k => decide (k.1 = l)).map m).sum = (hs.map fun h => if (l, h) ∈ ks then m (l, h) else 0).sum
  | [], _, _ => by
    have : ∀ hs : List Str, (hs.map fun h => if (l, h) ∈ ([] : List (Str × Str)) then m (l, h) else 0).sum = 0 := fun hs => by
      induction hs with
      | nil => rfl
      | cons a hs ih => rw [List.map_cons, List.sum_cons, ih]; simp
    rw [this]
    rfl
  | k :: ks, n, hk => by
    rw [List.nodup_cons] at n
    have ih := hands_sum nd m l ks n.2 fun x hx => hk x (List.mem_cons_of_mem _ hx)
    by_cases c : k.1 = l
    · rw [List.filter_cons_of_pos (by exact decide_eq_true c), List.map_cons, List.sum_cons, ih]
      have e : (fun h => if (l, h) ∈ k :: ks then m (l, h) else 0) = fun h => (if h = k.2 then m k else 0) + (if (l, h) ∈ ks then m (l, h) else 0) := by
        funext h
        by_cases z : h = k.2
        · have ek : (l, h) = k := Prod.ext c.symm z
          rw [if_pos z, if_pos (ek ▸ List.mem_cons_self), if_neg (ek ▸ n.1), ek]
          omega
        · rw [if_neg z]
          have : (l, h) ∈ k :: ks ↔ (l, h) ∈ ks := ⟨fun w => (List.mem_cons.mp w).resolve_left fun v => z (congrArg Prod.snd v), List.mem_cons_of_mem _⟩
          by_cases w : (l, h) ∈ ks
          · rw [if_pos w, if_pos (this.mpr w)]; omega
          · rw [if_neg w, if_neg fun v => w (this.mp v)]; omega
      rw [e, sum_add, one_sum nd _ (hk k List.mem_cons_self)]
    · rw [List.filter_cons_of_neg (by simpa using c), ih]
      have e : (fun h => if (l, h) ∈ k :: ks then m (l, h) else 0) = fun h => (if (l, h) ∈ ks then m (l, h) else 0) := by
        funext h
        have : (l, h) ∈ k :: ks ↔ (l, h) ∈ ks := ⟨fun w => (List.mem_cons.mp w).resolve_left fun v => c (congrArg Prod.fst v).symm, List.mem_cons_of_mem _⟩
        by_cases w : (l, h) ∈ ks
        · rw [if_pos w, if_pos (this.mpr w)]
        · rw [if_neg w, if_neg fun v => w (this.mp v)]
      rw [e]
theorem sumOf_eq {ts : List Tal} {l : Str} : ∀ (hs : List Str) (s : Int), hs.foldl (fun s h => s + topOf ts h l) s = s + (hs.map fun h => topOf ts h l).sum
  | [], s => by simp
  | h :: hs, s => by
    rw [List.foldl_cons, sumOf_eq hs, List.map_cons, List.sum_cons]
    omega
theorem top_none {ts : List Tal} {h l : Str} (n : (l, h) ∉ ts.map tkey) : topOf ts h l = 0 := by
  rw [← most_top]
  have : kGet (mostL ts) (l, h) = none := kGet_none.mpr fun z => n (most_mem.mp z)
  rw [this]
  rfl
/-- what the program joins is what is due -/
theorem joined_due {hs : List Str} {ts : List Tal} {ys : List (Str × Str)} (nd : hs.Nodup) (hh : ∀ t ∈ ts, t.1 ∈ hs) (p : ys.Perm ((mostL ts).map (·.1)))
    (so : ys.Pairwise fun a b => ltS b.1 a.1 = false) : foundL (mostL ts) ys = dueL hs ts := by
  obtain ⟨tp, tq⟩ := sortT_perm (ts.map (·.2.1))
  have nk : ((mostL ts).map (·.1)).Nodup := most_keys ts [] (by simp)
  have s1 : Strict ((foundL (mostL ts) ys).map (·.1)) := fold_strict (fun k : Str × Str => k.1) (fun d k => (dGet d k.1).getD 0 + (kGet (mostL ts) k).getD 0) ys [] so (fun k hk => by simp at hk) (by simp [Strict])
  have s2 : Strict ((dueL hs ts).map (·.1)) := fold_strict (fun l : Str => l) (fun _ l => sumOf hs ts l) _ [] tq (fun k hk => by simp at hk) (by simp [Strict])
  have m1 : ∀ l, l ∈ (foundL (mostL ts) ys).map (·.1) ↔ l ∈ ts.map (·.2.1) := fun l => by
    have z := fold_mem (fun k : Str × Str => k.1) (fun d k => (dGet d k.1).getD 0 + (kGet (mostL ts) k).getD 0) ys [] l
    refine z.trans ?_
    rw [List.map_nil]
    constructor
    · intro h
      rcases h with h | h
      · simp at h
      · obtain ⟨k, hk, e⟩ := List.mem_map.mp h
        obtain ⟨t, ht, e2⟩ := List.mem_map.mp (most_mem.mp (p.mem_iff.mp hk))
        exact List.mem_map.mpr ⟨t, ht, by rw [← e, ← e2]; rfl⟩
    · intro h
      obtain ⟨t, ht, e⟩ := List.mem_map.mp h
      exact .inr (List.mem_map.mpr ⟨tkey t, p.mem_iff.mpr (most_mem.mpr (List.mem_map.mpr ⟨t, ht, rfl⟩)), e⟩)
  have m2 : ∀ l, l ∈ (dueL hs ts).map (·.1) ↔ l ∈ ts.map (·.2.1) := fun l => by
    have z := fold_mem (fun l : Str => l) (fun _ l => sumOf hs ts l) (sortT (ts.map (·.2.1))) [] l
    refine z.trans ?_
    rw [List.map_nil, List.map_id']
    exact ⟨fun h => tp.mem_iff.mp (h.resolve_left (by simp)), fun h => .inr (tp.mem_iff.mpr h)⟩
  have ek : (foundL (mostL ts) ys).map (·.1) = (dueL hs ts).map (·.1) := strict_uniq s1 s2 fun k => (m1 k).trans (m2 k).symm
  refine dict_ext (strict_nodup s1) ek fun l hl => ?_
  have g2 : dGet (dueL hs ts) l = some (sumOf hs ts l) := by
    have z := put_get (fun l => sumOf hs ts l) l (sortT (ts.map (·.2.1))) []
    rw [if_pos (tp.mem_iff.mpr ((m1 l).mp hl))] at z
    exact z
  have g1 : (dGet (foundL (mostL ts) ys) l).getD 0 = sumOf hs ts l := by
    have z := add_get (fun k => (kGet (mostL ts) k).getD 0) l ys []
    have w := hands_sum nd (fun k => (kGet (mostL ts) k).getD 0) l ys (p.nodup_iff.mpr nk) fun k hk => by
      obtain ⟨t, ht, e2⟩ := List.mem_map.mp (most_mem.mp (p.mem_iff.mp hk))
      rw [← e2]
      exact hh t ht
    refine z.trans ?_
    rw [w]
    have e0 : (dGet ([] : List (Str × Int)) l).getD 0 = 0 := rfl
    rw [e0]
    unfold sumOf
    rw [sumOf_eq]
    congr 1
    apply congrArg
    apply List.map_congr_left
    intro h _
    by_cases c : (l, h) ∈ ys
    · rw [if_pos c]; exact most_top
    · rw [if_neg c, top_none fun z => c (p.mem_iff.mpr (most_mem.mpr z))]
  cases c : dGet (foundL (mostL ts) ys) l with
  | none => exact absurd (dGet_isNone.mp c) (fun n => n hl)
  | some v =>
    rw [c, Option.getD_some] at g1
    rw [g2, g1]
end Hf

namespace Hf
open PySem PySem.Spec PyProof.Rows L2 ClX
theorem maxL_same {xs ys : List Int} (hx : xs ≠ []) (h : ∀ x, x ∈ xs ↔ x ∈ ys) : maxL xs = maxL ys := by
  cases ys with
  | nil =>
    cases xs with
    | nil => exact absurd rfl hx
    | cons a l => exact absurd ((h a).mp List.mem_cons_self) (by simp)
  | cons b l =>
    obtain ⟨h1, h2⟩ := foldl_max_mem l b
    exact maxL_eq ((h _).mpr h1) fun y hy => h2 y ((h y).mp hy)
theorem top_ext {ts us : List Tal} (e : ∀ t, t ∈ ts ↔ t ∈ us) (h l : Str) : topOf ts h l = topOf us h l := by
  unfold topOf
  refine maxL_same (by simp) fun x => ?_
  rw [List.mem_append, List.mem_append, List.mem_map, List.mem_map]
  exact or_congr Iff.rfl ⟨fun ⟨t, m, e2⟩ => ⟨t, List.mem_filter.mpr ⟨(e t).mp (List.mem_filter.mp m).1, (List.mem_filter.mp m).2⟩, e2⟩,
    fun ⟨t, m, e2⟩ => ⟨t, List.mem_filter.mpr ⟨(e t).mpr (List.mem_filter.mp m).1, (List.mem_filter.mp m).2⟩, e2⟩⟩
theorem due_mem {hs : List Str} {ts : List Tal} {l : Str} : l ∈ (dueL hs ts).map (·.1) ↔ l ∈ ts.map (·.2.1) := by
  have z := fold_mem (fun l : Str => l) (fun _ l => sumOf hs ts l) (sortT (ts.map (·.2.1))) [] l
  refine z.trans ?_
  rw [List.map_nil, List.map_id']
  have tp := (sortT_perm (ts.map (·.2.1))).1
  exact ⟨fun h => tp.mem_iff.mp (h.resolve_left (by simp)), fun h => .inr (tp.mem_iff.mpr h)⟩
theorem due_strict {hs : List Str} {ts : List Tal} : Strict ((dueL hs ts).map (·.1)) :=
  fold_strict (fun l : Str => l) (fun _ l => sumOf hs ts l) _ [] (sortT_perm (ts.map (·.2.1))).2 (fun k hk => by simp at hk) (by simp [Strict])
theorem due_get {hs : List Str} {ts : List Tal} {l : Str} (h : l ∈ ts.map (·.2.1)) : dGet (dueL hs ts) l = some (sumOf hs ts l) := by
  have z := put_get (fun l => sumOf hs ts l) l (sortT (ts.map (·.2.1))) []
  rw [if_pos ((sortT_perm (ts.map (·.2.1))).1.mem_iff.mpr h)] at z
  exact z
/-- in whatever turn, and told again: the same -/
theorem due_ext {hs : List Str} {ts us : List Tal} (e : ∀ t, t ∈ ts ↔ t ∈ us) : dueL hs ts = dueL hs us := by
  have el : ∀ l, l ∈ ts.map (·.2.1) ↔ l ∈ us.map (·.2.1) := fun l => by
    rw [List.mem_map, List.mem_map]
    exact ⟨fun ⟨t, m, q⟩ => ⟨t, (e t).mp m, q⟩, fun ⟨t, m, q⟩ => ⟨t, (e t).mpr m, q⟩⟩
  have ek := strict_uniq (due_strict (hs := hs) (ts := ts)) (due_strict (hs := hs) (ts := us)) fun k => due_mem.trans ((el k).trans due_mem.symm)
  refine dict_ext (strict_nodup due_strict) ek fun l hl => ?_
  have h1 := due_mem.mp hl
  rw [due_get h1, due_get ((el l).mp h1)]
  unfold sumOf
  congr 1
  congr 1
  funext s h
  rw [top_ext e]
/-- the keys told stand in order -/
theorem due_sorted {hs : List Str} {ts : List Tal} : sortT ((dueL hs ts).map (·.1)) = (dueL hs ts).map (·.1) := by
  have h := due_strict (hs := hs) (ts := ts)
  have q : ((dueL hs ts).map (·.1)).Pairwise fun a b => leS a b = true := by
    unfold Strict at h
    exact h.imp fun {a b} z => by
      have := ltN_asym z
      unfold leS ltS
      rw [this]
      rfl
  have s : sortedS ((dueL hs ts).map (·.1)) = true := by
    generalize (dueL hs ts).map (·.1) = ks at q
    cases ks with
    | nil => rfl
    | cons a l => exact rising_of q
  exact (sortT_of (List.Perm.refl _) s).symm
/-! ### the law's tallies -/
def lawHands : List Str := ["did", "a", "zz", "leaf"]
def lawLeaves : List Str := ["row", "b", "did", "found"]
theorem lawHands_nodup : lawHands.Nodup := by decide
theorem mem_rev {ts : List Tal} (t : Tal) : t ∈ ts.reverse ↔ t ∈ ts := List.mem_reverse
theorem mem_again {ts us : List Tal} (p : us.Perm ts) (k : Nat) (t : Tal) : t ∈ us ++ ts.take k ↔ t ∈ ts := by
  rw [List.mem_append]
  exact ⟨fun h => h.elim (fun m => p.mem_iff.mp m) fun m => List.mem_of_mem_take m, fun h => .inl (p.mem_iff.mpr h)⟩
end Hf

namespace Hf
open PySem PySem.Spec PyProof.Rows L2 ClX
/-! ### dicts with pairs of texts as keys -/
def pk2 (k : Str × Str) : List Key := [.inr k.1, .inr k.2]
theorem pk2_inj {k l : Str × Str} : pk2 k = pk2 l ↔ k = l := ⟨fun h => by
  unfold pk2 at h
  injection h with h1 h2
  injection h2 with h2 _
  exact Prod.ext (Sum.inr.inj h1) (Sum.inr.inj h2), fun h => by rw [h]⟩
inductive KtAt {α : Type} (r : Rp α) (G : Hp) : List (List Key × V) → List ((Str × Str) × α) → Prop
  | nil : KtAt r G [] []
  | cons {k : Str × Str} {v : V} {a : α} {kvs : List (List Key × V)} {ds : List ((Str × Str) × α)} : r.rel G v a → KtAt r G kvs ds → KtAt r G ((pk2 k, v) :: kvs) ((k, a) :: ds)
section
variable {α : Type} {r : Rp α} {G G' : Hp}
theorem KtAt.mono (e : Ex G G') : ∀ {kvs : List (List Key × V)} {ds : List ((Str × Str) × α)}, KtAt r G kvs ds → KtAt r G' kvs ds
  | _, _, .nil => .nil
  | _, _, .cons h t => .cons (r.mono e h) (KtAt.mono e t)
theorem KtAt.length : ∀ {kvs : List (List Key × V)} {ds : List ((Str × Str) × α)}, KtAt r G kvs ds → kvs.length = ds.length
  | _, _, .nil => rfl
  | _, _, .cons _ t => by rw [List.length_cons, List.length_cons, KtAt.length t]
theorem KtAt.keys : ∀ {kvs : List (List Key × V)} {ds : List ((Str × Str) × α)}, KtAt r G kvs ds → kvs.map (·.1) = (ds.map (·.1)).map pk2
  | _, _, .nil => rfl
  | _, _, .cons h t => by simp only [List.map_cons]; rw [KtAt.keys t]
theorem KtAt.get {k : Str × Str} : ∀ {kvs : List (List Key × V)} {ds : List ((Str × Str) × α)}, KtAt r G kvs ds → (valV kvs (pk2 k) = none ∧ kGet ds k = none) ∨ ∃ v a, valV kvs (pk2 k) = some v ∧ kGet ds k = some a ∧ r.rel G v a
  | _, _, .nil => .inl ⟨rfl, rfl⟩
  | _, _, .cons (k := j) (v := v) (a := a) (kvs := kvs) (ds := ds) h t => by
    by_cases e : j = k
    · subst e
      exact .inr ⟨v, a, valV_pos rfl, kGet_pos rfl, h⟩
    · have e2 : ¬ pk2 j = pk2 k := fun z => e (pk2_inj.mp z)
      rw [valV_neg (p := (pk2 j, v)) e2, kGet_neg (p := (j, a)) e]
      exact KtAt.get t
theorem KtAt.any {k : Str × Str} : ∀ {kvs : List (List Key × V)} {ds : List ((Str × Str) × α)}, KtAt r G kvs ds → (kvs.any fun q => decide (q.1 = pk2 k)) = ds.any fun q => decide (q.1 = k)
  | _, _, .nil => rfl
  | _, _, .cons (k := j) h t => by
    rw [List.any_cons, List.any_cons, KtAt.any t]
    congr 1
    by_cases e : j = k
    · subst e; simp
    · have e2 : ¬ pk2 j = pk2 k := fun z => e (pk2_inj.mp z)
      simp [e, e2]
theorem KtAt.snoc {k : Str × Str} {v : V} {a : α} (h : r.rel G v a) : ∀ {kvs : List (List Key × V)} {ds : List ((Str × Str) × α)}, KtAt r G kvs ds → KtAt r G (kvs ++ [(pk2 k, v)]) (ds ++ [(k, a)])
  | _, _, .nil => .cons h .nil
  | _, _, .cons h1 t => .cons h1 (KtAt.snoc h t)
theorem KtAt.map {k : Str × Str} {v : V} {a : α} (h : r.rel G v a) : ∀ {kvs : List (List Key × V)} {ds : List ((Str × Str) × α)}, KtAt r G kvs ds → KtAt r G (kvs.map fun q => if q.1 = pk2 k then (q.1, v) else q) (ds.map fun q => if q.1 = k then (q.1, a) else q)
  | _, _, .nil => .nil
  | _, _, .cons (k := j) h1 t => by
    rw [List.map_cons, List.map_cons]
    by_cases e : j = k
    · subst e
      simp only [if_true]
      exact .cons h (KtAt.map h t)
    · have e2 : ¬ pk2 j = pk2 k := fun z => e (pk2_inj.mp z)
      rw [if_neg e2, if_neg e]
      exact .cons h1 (KtAt.map h t)
theorem KtAt.put {k : Str × Str} {v : V} {a : α} (h : r.rel G v a) {kvs : List (List Key × V)} {ds : List ((Str × Str) × α)} (t : KtAt r G kvs ds) : KtAt r G (putK kvs (pk2 k) v) (kPut ds k a) := by
  unfold putK kPut
  rw [t.any]
  split
  · exact t.map h
  · exact t.snoc h
end
def oDkt {α : Type} (r : Rp α) (ds : List ((Str × Str) × α)) : Oc := ⟨fun G o => ∃ kvs, o = .dT kvs ∧ KtAt r G kvs ds, fun e ⟨kvs, h1, h2⟩ => ⟨kvs, h1, h2.mono e⟩⟩
/-- a pair of texts, made here (no constant) -/
def rP2 : Rp (Str × Str) := ⟨fun G v k => ∃ p, v = .ref p ∧ G p = some (.tup [.str k.1, .str k.2]), fun e ⟨p, h1, h2⟩ => ⟨p, h1, e _ _ h2⟩⟩
section
variable {X : Cx} {E : Ent} {Γ Γ' Γ1 Γ2 : List Slot} {D : Ends} {e f g o : Expr} {es : List Expr} {rest : List Stmt} {pos p p2 apos cpos : Pos} {α β γ ι : Type} {r : Rp α} {x : α} {s : Rp β} {y : β} {as : List α} {ds : List ((Str × Str) × α)} {k : Str × Str} {j : Nat}
theorem eo_dnewT : EvO X Γ (.Dict [] [] pos) (oDkt r []) := fun E G H σ hh Q q =>
  WE.of pe_dnewT fun p n => q p _ G _ n ((Le.refl hh.le.gh).addO n) (Evl.fresh_back hh.le.gh n) upd_same ⟨[], rfl, .nil⟩
/-- d.get(k, x) -/
theorem ev_dgetT (hr : Room j X.A) (h : EvB X Γ e (oDkt r ds)) (hk : Ev X Γ f rP2 k) (hx : Ev X Γ g r x)
    (hpe : PE X (.Call (.Attribute e "get" apos) [f, g] [] cpos) (tDGet2 (WE X e) (WE X f) (WE X g)) := by exact pe_dget2 (hu_of hr) WE.pe WE.pe WE.pe ⟨rfl, rfl, rfl, rfl⟩) : Ev X Γ (.Call (.Attribute e "get" apos) [f, g] [] cpos) r ((kGet ds k).getD x) := fun E G H σ hh Q q =>
  WE.of hpe (h E G H σ hh _ fun p o G1 H1 l1 hp ⟨kvs, e1, ha⟩ => by
    subst e1
    refine ⟨p, rfl, .inr ⟨kvs, .inl hp⟩, hk E G1 H1 σ (hh.step l1) _ fun w G2 H2 l2 r2 => hx E G2 H2 σ ((hh.step l1).step l2) _ fun z G3 H3 l3 r3 => ?_⟩
    have l := l2.trans l3
    obtain ⟨b, e2, hb⟩ := r2
    subst e2
    refine ⟨_, DGet.t (k := pk2 k) (l.h _ _ hp) (l3.gh _ _ (l3.g _ _ hb)), ?_⟩
    rcases (ha.mono l.g).get (k := k) with ⟨h1, h2⟩ | ⟨v, a, h1, h2, h3⟩
    · rw [h1]
      exact q z G3 H3 (l1.trans l) (by rw [h2]; exact r3)
    · rw [h1]
      exact q v G3 H3 (l1.trans l) (by rw [h2]; exact h3))
/-- d[k], it is there -/
theorem ev_dixT (hr : Room j X.A) (h : EvB X Γ e (oDkt r ds)) (hk : Ev X Γ f rP2 k) (hx : kGet ds k = some x)
    (hpe : PE X (.Subscript e f pos) (tDGet (WE X e) (WE X f)) := by exact pe_dget (hu_of hr) WE.pe WE.pe (fun _ _ => rfl)) : Ev X Γ (.Subscript e f pos) r x := fun E G H σ hh Q q =>
  WE.of hpe (h E G H σ hh _ fun p o G1 H1 l1 hp ⟨kvs, e1, ha⟩ => by
    subst e1
    refine hk E G1 H1 σ (hh.step l1) _ fun w G2 H2 l2 r2 => ?_
    obtain ⟨b, e2, hb⟩ := r2
    subst e2
    rcases (ha.mono l2.g).get (k := k) with ⟨h1, h2⟩ | ⟨v, a, h1, h2, h3⟩
    · rw [hx] at h2; cases h2
    · rw [hx] at h2
      cases h2
      exact ⟨p, v, rfl, h1 ▸ DGet.t (k := pk2 k) (l2.h _ _ hp) (l2.gh _ _ hb), q v G2 H2 (l1.trans l2) h3⟩)
/-- d[k] = v, d by its name -/
theorem bk_dputT (hr : Room j X.A) (i : Nat) {a : Str} {pq : Option Addr} (hg : Γ[i]? = some (.ow (oDkt r ds) pq)) (he : Ev X Γ e r x) (hk : Ev X Γ f rP2 k) (hl : ds.length < sizeLine) (kk : Bk X E (Γ.set i (.ow (oDkt r (kPut ds k x)) pq)) rest D)
    (hps : PS X (.Assign [.Subscript (.Name a p) f p2] e pos) (sDPut (tVar i) (WE X f) (WE X e)) := by exact ps_dput (hu_of hr) (pv _) WE.pe WE.pe rfl) : Bk X E Γ (.Assign [.Subscript (.Name a p) f p2] e pos :: rest) D :=
  bk_of hps fun G H σ hh => he E G H σ hh _ fun v G1 H1 l1 r1 => by
    have hh1 := hh.step l1
    obtain ⟨q, ob, h1, h2, h3, h4, kvs, h5, h6⟩ := hh1.ow hg
    subst h5
    refine ⟨_, h1, hk E G1 H1 σ hh1 _ fun w G2 H2 l2 r2 => ?_⟩
    obtain ⟨b, e2, hb⟩ := r2
    subst e2
    refine ⟨q, _, rfl, DPut.t (k := pk2 k) (l2.h _ _ h4) (l2.gh _ _ hb) (by rw [h6.length]; exact hl), ?_⟩
    exact kk G2 _ σ ((hh1.step l2).mut hg h1 ⟨_, rfl, (h6.mono l2.g).put (r.mono l2.g r1)⟩)
/-- (a, b) of texts -/
theorem ev_tupP {n : Nat} {a b : Str} (h : EvA X Γ es [⟨rStr, a⟩, ⟨rStr, b⟩]) : Ev X Γ (.Tuple es n pos) rP2 (a, b) := fun E G H σ hh Q q =>
  WE.of (pe_tup WA.pa) (h E G H σ hh _ fun vs G1 H1 l1 a1 => by
    match vs, a1 with
    | [v1, v2], ⟨h1, h2, _⟩ =>
      have e1 : v1 = .str a := h1
      have e2 : v2 = .str b := h2
      subst e1
      subst e2
      exact ⟨by show 2 ≤ sizeLine; decide, fun p n => q _ (upd G1 p (.tup [.str a, .str b])) _ (l1.add n) ⟨p, rfl, upd_same⟩⟩)
theorem Ev.pT2 (h : Ev X Γ e rP2 k) : Ev X Γ e (rT2 X.K rStr rStr) k := fun E G H σ hh Q q => h E G H σ hh Q fun v G1 H1 l1 ⟨p, e1, h1⟩ => q v G1 H1 l1 ⟨p, _, _, e1, .inl (.inl h1), rfl, rfl⟩
theorem p2_t2 {K : PySem.W.Frag} {G : Hp} {v : V} (h : rP2.rel G v k) : (rT2 K rStr rStr).rel G v k := by
  obtain ⟨p, e1, h1⟩ := h
  exact ⟨p, _, _, e1, .inl (.inl h1), rfl, rfl⟩
end
end Hf

namespace Hf
open PySem PySem.Spec PyProof.Rows PySem.W L2 ClX
/-! ### pairs of texts in order -/
def ltQ (k l : Str × Str) : Bool := if k.1 = l.1 then decide (k.2.cps.toList < l.2.cps.toList) else decide (k.1.cps.toList < l.1.cps.toList)
/-- v is a tuple of the two texts k -/
def PIn (h : Heap) (v : Value) (k : Str × Str) : Prop := ∃ (a : Addr) (t u : Tok), v = .ref a ∧ IsTup h a #[.str k.1 t, .str k.2 u]
theorem firsts_pp {h : Heap} : ∀ vs : List Value, (∀ v ∈ vs, ∃ k, PIn h v k) → ∃ fs : List Value, KatTups h vs fs ∧ fs.length = vs.length ∧ ∀ f ∈ fs, ∃ (x : Str) (t : Tok), f = Value.str x t
  | [], _ => ⟨[], KatTups.nil, rfl, fun f hf => by simp at hf⟩
  | v :: vs, x => by
    obtain ⟨fs, k, hl, hi⟩ := firsts_pp vs fun u hu => x u (List.mem_cons_of_mem _ hu)
    obtain ⟨y, a, t, u, rfl, ⟨o, ho, hc, n, hd⟩⟩ := x v (List.mem_cons_self ..)
    refine ⟨.str y.1 t :: fs, KatTups.cons ho hc hd rfl k, by rw [List.length_cons, List.length_cons, hl], fun f hf => ?_⟩
    rcases List.mem_cons.mp hf with rfl | hf
    · exact ⟨_, _, rfl⟩
    · exact hi f hf
section
variable {prog : Program} {w : World} {A : Around} {E : Value → Shared → Prop} {s : Shared}
theorem lt_pp {v v2 : Value} {k l : Str × Str} (h1 : PIn s.heap v k) (h2 : PIn s.heap v2 l) {Q : Bool → Shared → Prop} (hQ : Q (ltQ k l) s) : wpAny (model prog w) A (keyLt' (tuples' true) v v2) Q E s := by
  obtain ⟨a, t, u, rfl, ⟨o, ho, hc, n, hd⟩⟩ := h1
  obtain ⟨a', t', u', rfl, ⟨o', ho', hc', n', hd'⟩⟩ := h2
  refine kat_lt ho hd ho' hd' ?_
  show KatLex prog w A true false Q [(Value.str k.1 t, Value.str l.1 t'), (Value.str k.2 u, Value.str l.2 u')] 0 s
  unfold ltQ at hQ
  refine kat_cons (wpAny_eqBool_str ?_)
  refine kat_go (fun e => ?_) (fun e => ?_)
  · rw [if_pos (of_decide_eq_true e)] at hQ
    refine kat_yes (kat_cons (wpAny_eqBool_str ?_))
    refine kat_go (fun e2 => ?_) (fun e2 => ?_)
    · have e3 := of_decide_eq_true e2
      rw [e3] at hQ
      have irr : decide (l.2.cps.toList < l.2.cps.toList) = false := decide_eq_false (List.lt_irrefl _)
      rw [irr] at hQ
      exact kat_yes (kat_nil hQ)
    · refine kat_no ?_
      show wpAny _ _ (oneLt' false _ _) _ _ _
      exact kat_one _ _ (PyProof.Rows.lt_str hQ)
  · rw [if_neg (of_decide_eq_false e)] at hQ
    refine kat_no ?_
    show wpAny _ _ (oneLt' true _ _) _ _ _
    exact oneLt_str hQ
theorem kind_pp {vs : List Value} {ρ : Value → Int} (h2 : 2 ≤ vs.length) (x : ∀ v ∈ vs, ∃ k, PIn s.heap v k)
    (hρ : ∀ v ∈ vs, ∀ u ∈ vs, ∀ k l, PIn s.heap v k → PIn s.heap u l → ltQ k l = decide (ρ v < ρ u)) (Q : SortKind → Shared → Prop)
    (h : ∀ κ, TS.Cmp prog w A s κ (pairsOf vs) ρ → Q κ s) : wpAny (model prog w) A (keyKind' vs.toArray) Q E s := by
  obtain ⟨fs, k, hl, hi⟩ := firsts_pp vs x
  refine kat_kind (T := Value.type "str") k (by omega) (fun f hf => ?_) rfl (h _ ?_)
  · obtain ⟨y, t, rfl⟩ := hi f hf
    exact .now
  · have hb : (Value.type "str" != Value.type "tuple") = true := by first | rfl | decide | simp
    rw [hb]
    intro p q hp hq Q' E' hQ
    rw [pairsOf_toList] at hp hq
    have mp := (mem_zip_self hp).2
    have mq := (mem_zip_self hq).2
    obtain ⟨y, py⟩ := x _ mp
    obtain ⟨z, pz⟩ := x _ mq
    refine lt_pp py pz ?_
    rw [hρ _ mp _ mq y z py pz]
    exact hQ
end
end Hf

namespace Hf
open PySem PySem.Spec PyProof.Rows PySem.W L2 ClX
theorem ltQ_eq {k l : Str × Str} : ltQ k l = if k.1 = l.1 then ltS k.2 l.2 else ltS k.1 l.1 := by
  unfold ltQ ltS
  rw [lt_meets, lt_meets]
theorem lt_asym {a b : Str} (h : ltS a b = true) : ltS b a = false := ltN_asym h
theorem lt_tr {a b c : Str} (h : ltS a b = true) (k : ltS b c = true) : ltS a c = true :=
  lt_of_le (ltN_tr (lt_asym h) (lt_asym k)) fun e => by
    rw [← e] at k
    rw [lt_asym h] at k
    cases k
theorem q_asym {k l : Str × Str} (h : ltQ k l = true) : ltQ l k = false := by
  rw [ltQ_eq] at h ⊢
  by_cases e : k.1 = l.1
  · rw [if_pos e] at h
    rw [if_pos e.symm]
    exact lt_asym h
  · rw [if_neg e] at h
    rw [if_neg fun z => e z.symm]
    exact lt_asym h
theorem q_irr {k : Str × Str} : ltQ k k = false := by
  rw [ltQ_eq, if_pos rfl]
  exact lt_irr
theorem q_tr {k l m : Str × Str} (h : ltQ k l = true) (g : ltQ l m = true) : ltQ k m = true := by
  rw [ltQ_eq] at h g ⊢
  by_cases e : k.1 = l.1
  · rw [if_pos e] at h
    by_cases e2 : l.1 = m.1
    · rw [if_pos e2] at g
      rw [if_pos (e.trans e2)]
      exact lt_tr h g
    · rw [if_neg e2] at g
      rw [if_neg fun z => e2 (e.symm.trans z), e]
      exact g
  · rw [if_neg e] at h
    by_cases e2 : l.1 = m.1
    · rw [if_neg fun z => e (z.trans e2.symm), ← e2]
      exact h
    · rw [if_neg e2] at g
      have z := lt_tr h g
      have ne : k.1 ≠ m.1 := fun y => by rw [y, lt_irr] at z; cases z
      rw [if_neg ne]
      exact z
theorem q_tot {k l : Str × Str} (h : ltQ k l = false) (g : ltQ l k = false) : k = l := by
  rw [ltQ_eq] at h g
  by_cases e : k.1 = l.1
  · rw [if_pos e] at h
    rw [if_pos e.symm] at g
    exact Prod.ext e (str_ext (ltN_eq h g))
  · rw [if_neg e] at h
    rw [if_neg fun z => e z.symm] at g
    exact absurd (str_ext (ltN_eq h g)) e
theorem filter_le {α : Type} {p q : α → Bool} : ∀ {l : List α}, (∀ x ∈ l, p x = true → q x = true) → (l.filter p).length ≤ (l.filter q).length
  | [], _ => Nat.le_refl _
  | a :: l, h => by
    have ih := filter_le (p := p) (q := q) (l := l) fun x hx => h x (List.mem_cons_of_mem _ hx)
    have ha := h a List.mem_cons_self
    rw [List.filter_cons, List.filter_cons]
    cases hp : p a with
    | true =>
      rw [ha hp]
      simp only [if_true, List.length_cons]
      omega
    | false =>
      cases hq : q a with
      | true =>
        simp only [if_true, List.length_cons, Bool.false_eq_true, if_false]
        omega
      | false => simpa using ih
theorem filter_lt {α : Type} {p q : α → Bool} : ∀ {l : List α} {y : α}, (∀ x ∈ l, p x = true → q x = true) → y ∈ l → q y = true → p y = false → (l.filter p).length < (l.filter q).length
  | a :: l, y, h, m, hq, hp => by
    have h' : ∀ x ∈ l, p x = true → q x = true := fun x hx => h x (List.mem_cons_of_mem _ hx)
    have ha := h a List.mem_cons_self
    rw [List.filter_cons, List.filter_cons]
    rcases List.mem_cons.mp m with e | m
    · subst e
      rw [hq, hp]
      have := filter_le (p := p) (q := q) h'
      simp only [if_true, List.length_cons, Bool.false_eq_true, if_false]
      omega
    · have ih := filter_lt h' m hq hp
      cases hpa : p a with
      | true =>
        rw [ha hpa]
        simp only [if_true, List.length_cons]
        omega
      | false =>
        cases hqa : q a with
        | true =>
          simp only [if_true, List.length_cons, Bool.false_eq_true, if_false]
          omega
        | false => simpa using ih
def rankQ (ks : List (Str × Str)) (k : Str × Str) : Int := ((ks.filter fun l => ltQ l k).length : Int)
theorem rank_lt {ks : List (Str × Str)} {k l : Str × Str} (hk : k ∈ ks) (h : ltQ k l = true) : rankQ ks k < rankQ ks l := by
  unfold rankQ
  have := filter_lt (p := fun x => ltQ x k) (q := fun x => ltQ x l) (l := ks) (y := k) (fun x _ z => q_tr z h) hk h q_irr
  omega
theorem rank_eq {ks : List (Str × Str)} {k l : Str × Str} (hk : k ∈ ks) (hl : l ∈ ks) : ltQ k l = decide (rankQ ks k < rankQ ks l) := by
  cases h : ltQ k l with
  | true => exact (decide_eq_true (rank_lt hk h)).symm
  | false =>
    refine (decide_eq_false ?_).symm
    cases g : ltQ l k with
    | true =>
      have := rank_lt hl g
      omega
    | false =>
      rw [q_tot h g]
      omega
noncomputable def keyC (H : Hp) (v : Value) : Str × Str :=
  @dite _ (∃ (k : Str × Str) (p : Addr), v = .ref p ∧ H p = some (.tup [.str k.1, .str k.2])) (Classical.propDecidable _) (fun h => Classical.choose h) (fun _ => (Str.empty, Str.empty))
theorem keyC_eq {H : Hp} {p : Addr} {k : Str × Str} (h : H p = some (.tup [.str k.1, .str k.2])) : keyC H (.ref p) = k := by
  have e : ∃ (k : Str × Str) (q : Addr), Value.ref p = .ref q ∧ H q = some (.tup [.str k.1, .str k.2]) := ⟨k, p, rfl, h⟩
  unfold keyC
  rw [dif_pos e]
  obtain ⟨q, e1, h1⟩ := Classical.choose_spec e
  injection e1 with e1
  rw [← e1, h] at h1
  injection h1 with h1
  injection h1 with h1
  injection h1 with a b
  injection b with b _
  injection a with a
  injection b with b
  exact (Prod.ext a b).symm
/-- the leaves of pairs in order stand in order -/
theorem first_le {k l : Str × Str} (h : ltQ l k = false) : ltS l.1 k.1 = false := by
  rw [ltQ_eq] at h
  by_cases e : l.1 = k.1
  · rw [e]; exact lt_irr
  · rw [if_neg e] at h; exact h
end Hf

namespace Hf
open PySem PySem.Spec PyProof.Rows PySem.W L2 ClX
section
variable {X : Cx}
/-- sorted(d), d's keys pairs of texts -/
theorem call_sortedQ (hc : X.calm = true) : CallR X (.builtin "sorted") (fun xs H Q => ∃ (d : Addr) (kvs : List (List Key × V)) (ks : List (Str × Str)), xs = [.ref d] ∧ Rd H d (.dT kvs) ∧ kvs.map (·.1) = ks.map pk2 ∧ ks.length < 64 ∧
    ∀ (zs : List (Addr × (Str × Str))) (p : Addr), (zs.map (·.2)).Perm ks → (zs.map (·.2)).Pairwise (fun a b => ltQ b a = false) → (∀ z ∈ zs, H z.1 = some (.tup [.str z.2.1, .str z.2.2])) → H p = none → Q (.ref p) (upd H p (.lst (zs.map fun z => V.ref z.1)))) := by
  intro pins s σ H xs us Q I r q
  obtain ⟨d, kvs, ks, rfl, hd, hks, h64, q⟩ := q
  obtain ⟨u, rfl, rx⟩ := r.one
  cases rx
  obtain ⟨z, hs, xs', pr, o, es, ep, ho, hx, hdt, he, hn⟩ := (show ObjOk X.prog X.w H s.heap d (.dT kvs) from hd.ok I.hok)
  have l1 : es.size = xs'.length := size_of_entries he
  have l2 : kvs.length = xs'.length := Paired.length pr
  have l3 : kvs.length = ks.length := by
    have e := congrArg List.length hks
    rw [List.length_map, List.length_map] at e
    exact e
  refine Calls.call_function_entry PyProof.Rows.kind_sorted PyProof.Rows.plain_sorted PyProof.Rows.entry_sorted (PyProof.Rows.args_sorted1 _) ?_
  unfold Builtin.«sorted»
  refine wpAny_bind (m := checkCount "sorted" 1 1 _) (wpAny_pure ?_)
  refine wpAny_bind (PySem.W.kdu_collect (A := X.A.in1) (kdl_raw hs hx hdt) (I.ok.hd hc) ho (by rw [sizeLine_eq]; omega) fun h' tk acc hk hacc => ?_)
  have ea : acc.toList = xs'.map fun x => Value.ref x.2.1 := by
    have hl : acc.toList.length = xs'.length := by rw [Array.length_toList, hacc.1]; exact l1
    apply List.ext_getElem?
    intro j
    rw [List.getElem?_map]
    cases hj : acc.toList[j]? with
    | none =>
      have h1 := List.getElem?_eq_none_iff.mp hj
      rw [List.getElem?_eq_none (by omega)]
      all_goals rfl
    | some v =>
      obtain ⟨en, hen, hv⟩ := hacc.2 j v (by rw [← Array.getElem?_toList]; exact hj)
      have qe := entry_at he j
      rw [hen] at qe
      cases hb : xs'[j]? with
      | none =>
        rw [hb] at qe
        exact nomatch (show some en = none from qe)
      | some b =>
        rw [hb] at qe
        have e2 : en = entryOfKey (tupleKind (mixKind X.prog X.w)) b := Option.some.inj qe
        rw [hv, e2]
        all_goals rfl
  -- the keys' tuples
  have key : ∀ (j : Nat) (b : Addr), (xs'.map (·.2.1))[j]? = some b → ∃ k, ks[j]? = some k ∧ H b = some (.tup [.str k.1, .str k.2]) := by
    intro j b hj
    rw [List.getElem?_map] at hj
    cases hxj : xs'[j]? with
    | none => rw [hxj] at hj; cases hj
    | some x =>
      rw [hxj] at hj
      have e1 : x.2.1 = b := Option.some.inj hj
      obtain ⟨e0, he0, r1, r2, r3⟩ := DX.pget pr hxj
      have e3 : (kvs.map (·.1))[j]? = some e0.1 := by rw [List.getElem?_map, he0]; rfl
      rw [hks, List.getElem?_map] at e3
      cases e4 : ks[j]? with
      | none => rw [e4] at e3; cases e3
      | some k =>
        rw [e4] at e3
        have e5 : pk2 k = e0.1 := Option.some.inj e3
        rw [← e5, e1] at r2
        exact ⟨k, rfl, r2⟩
  have las : (xs'.map (·.2.1)).length = ks.length := by rw [List.length_map]; omega
  have ea2 : acc.toList = (xs'.map (·.2.1)).map Value.ref := by rw [ea, List.map_map]; all_goals rfl
  generalize has : xs'.map (·.2.1) = as at key las ea2
  have hal : acc.toList.length = ks.length := by rw [ea2, List.length_map, las]
  have I1 : Inv X pins σ H { s with heap := h', toks := tk } := I.kept hk
  refine wpAny_bind (wpAny_newList ?_ (by rw [hal, sizeLine_eq]; omega))
  have hoL : (h'.push (seqObj "list" acc.toList.toArray 0)).get? h'.objs.size = some (seqObj "list" acc.toList.toArray 0) := Heap.get?_push_size _ rfl
  have kb : ∀ b o, h'.get? b = some o → b ≠ h'.objs.size ∧ (h'.push (seqObj "list" acc.toList.toArray 0)).get? b = some o := fun b o e => ⟨Nat.ne_of_lt (Heap.lt_size e), Heap.get?_push_of_some _ e⟩
  show wpAny _ _ _ _ _ { s with heap := h'.push (seqObj "list" acc.toList.toArray 0), toks := tk }
  generalize hh2 : h'.push (seqObj "list" acc.toList.toArray 0) = h2 at hoL kb ⊢
  have pin : ∀ v ∈ acc.toList, ∃ k, PIn (TS.midHeap h2 h'.objs.size acc.toList) v k ∧ keyC H v = k ∧ k ∈ ks := by
    intro v hv
    rw [ea2] at hv
    obtain ⟨b, hb, rfl⟩ := List.mem_map.mp hv
    obtain ⟨j, hj⟩ := List.mem_iff_getElem?.mp hb
    obtain ⟨k, hkj, hH⟩ := key j b hj
    obtain ⟨_, its, rv, ot, hot, hct, nt, hdt2⟩ := (show ObjOk X.prog X.w H s.heap b (.tup [.str k.1, .str k.2]) from I.hok b _ hH)
    obtain ⟨t, u, rfl⟩ : ∃ t u, its = [Value.str k.1 t, Value.str k.2 u] := by
      cases rv with
      | cons r1 r2 =>
        cases r2 with
        | cons r3 r4 =>
          cases r4
          obtain ⟨t, rfl⟩ := r1
          obtain ⟨u, rfl⟩ := r3
          exact ⟨t, u, rfl⟩
    have h1 := hk _ _ hot
    obtain ⟨n1, h3⟩ := kb _ _ h1
    exact ⟨k, ⟨b, t, u, rfl, ot, TS.midHeap_old n1 h3, hct, nt, hdt2⟩, keyC_eq hH, List.mem_of_getElem? hkj⟩
  have pinU : ∀ {v k l}, PIn (TS.midHeap h2 h'.objs.size acc.toList) v k → PIn (TS.midHeap h2 h'.objs.size acc.toList) v l → k = l := by
    intro v k l ⟨a, t, u, e, o1, g1, c1, n1, d1⟩ ⟨a2, t2, u2, e2, o2, g2, c2, n2, d2⟩
    subst e
    injection e2 with e2
    subst e2
    rw [g1] at g2
    injection g2 with g2
    subst g2
    rw [d1] at d2
    injection d2 with d2 _
    have d3 := congrArg Array.toList d2
    simp only [List.cons.injEq, Value.str.injEq, and_true] at d3
    exact Prod.ext d3.1.1 d3.2.1
  refine wpAny_bind (wpAny_holding (wpAny_call_entry PyProof.Rows.slot_list_sort ⟨_, hoL, rfl⟩ PyProof.Rows.entry_list_sort
    (SK.plain_sort (s := { s with heap := h2, toks := tk }) (r := fun v => rankQ ks (keyC H v)) hoL (by rw [hal]; exact h64) (fun h2' Qk hQk => ?_) fun ps out o1 o2 o3 => ⟨_, rfl, ?_⟩) (PyProof.Rows.args_list_sort _)))
  · refine kind_pp (s := { s with heap := TS.midHeap h2 h'.objs.size acc.toList, toks := tk }) h2' (fun v hv => ?_) (fun v hv u hu k l pk pl => ?_) Qk hQk
    · obtain ⟨k, a, _, _⟩ := pin v hv
      exact ⟨k, a⟩
    · obtain ⟨k1, a1, b1, c1⟩ := pin v hv
      obtain ⟨k2, a2, b2, c2⟩ := pin u hu
      rw [b1, b2, pinU pk a1, pinU pl a2]
      exact rank_eq c1 c2
  · have o2' : ps.Perm ((as.map Value.ref).zip (as.map Value.ref)) := by rw [← ea2]; exact o2
    obtain ⟨zs, pz, ez⟩ := perm_lift (fun z : Addr × (Str × Str) => (Value.ref z.1, Value.ref z.1)) o2' (as.zip ks) (DX.zip_self Value.ref as ks las)
    have idx : ∀ z ∈ zs, ∃ j : Nat, as[j]? = some z.1 ∧ ks[j]? = some z.2 := by
      intro z' hz'
      obtain ⟨j, hj⟩ := List.mem_iff_getElem?.mp (pz.mem_iff.mp hz')
      exact ⟨j, List.getElem?_zip_eq_some.mp hj⟩
    have hz : ∀ z ∈ zs, H z.1 = some (.tup [.str z.2.1, .str z.2.2]) ∧ z.2 ∈ ks := by
      intro z' hz'
      obtain ⟨j, j1, j2⟩ := idx z' hz'
      obtain ⟨k, k1, k2⟩ := key j _ j1
      have e := Option.some.inj (k1.symm.trans j2)
      subst e
      exact ⟨k2, List.mem_of_getElem? j2⟩
    have hout : out.toList = zs.map fun z => Value.ref z.1 := by
      rw [o1, ← ez, List.map_map]
      all_goals rfl
    have hperm : (zs.map (·.2)).Perm ks := by
      have e := pz.map (·.2)
      have m2 : (as.zip ks).map (·.2) = ks := List.map_snd_zip (by rw [las]; exact Nat.le_refl _)
      rw [m2] at e
      exact e
    have hsort : (zs.map (·.2)).Pairwise (fun a b => ltQ b a = false) := by
      rw [← ez, List.pairwise_map] at o3
      rw [List.pairwise_map]
      refine List.Pairwise.imp_of_mem (fun {x y} hx hy h => ?_) o3
      obtain ⟨x1, x2⟩ := hz x hx
      obtain ⟨y1, y2⟩ := hz y hy
      have h' : rankQ ks (keyC H (.ref x.1)) ≤ rankQ ks (keyC H (.ref y.1)) := h
      rw [keyC_eq x1, keyC_eq y1] at h'
      rw [rank_eq y2 x2]
      exact decide_eq_false (by omega)
    obtain ⟨e', he'⟩ := PyProof.Rows.sortedHeap_at (vs := acc.toList) (out := out) hoL
    have hlen : (zs.map fun z => V.ref z.1).length ≤ sizeLine := by
      have e := hperm.length_eq
      rw [List.length_map] at e
      rw [List.length_map, sizeLine_eq]
      omega
    have rv : Vals (zs.map fun z => V.ref z.1) out.toList := by
      rw [hout]
      exact vals_maps (fun z : Addr × (Str × Str) => V.ref z.1) (fun z => Value.ref z.1) zs fun _ _ => rfl
    refine wpAny_pure ⟨_, rfl, .ref h'.objs.size, upd H h'.objs.size (.lst (zs.map fun z => V.ref z.1)), I1.laid (t' := tk) (fun b u e => ?_) (Nat.le_refl _) ?_, rfl, q zs _ hperm hsort (fun z hz' => (hz z hz').1) (I1.hok.fresh (Nat.le_refl _))⟩
    · obtain ⟨n1, h3⟩ := kb _ _ e
      exact (PyProof.Rows.sortedHeap_old n1 (Heap.lt_size h3)).trans h3
    · exact ⟨hlen, out.toList, e', rv, he'⟩
end
end Hf

namespace Hf
open PySem PySem.Spec PyProof.Rows L2 ClX
theorem q_uniq : ∀ {ys zs : List (Str × Str)}, ys.Perm zs → ys.Pairwise (fun a b => ltQ b a = false) → zs.Pairwise (fun a b => ltQ b a = false) → ys = zs
  | [], zs, p, _, _ => (List.nil_perm.mp p).symm
  | y :: ys, [], p, _, _ => absurd p.length_eq (by simp)
  | y :: ys, z :: zs, p, h, k => by
    obtain ⟨h1, h2⟩ := List.pairwise_cons.mp h
    obtain ⟨k1, k2⟩ := List.pairwise_cons.mp k
    have e : y = z := by
      have a : ltQ y z = false := by
        rcases List.mem_cons.mp (p.mem_iff.mp List.mem_cons_self) with e | m
        · rw [e]; exact q_irr
        · exact k1 y m
      have b : ltQ z y = false := by
        rcases List.mem_cons.mp (p.mem_iff.mpr List.mem_cons_self) with e | m
        · rw [e]; exact q_irr
        · exact h1 z m
      exact q_tot a b
    subst e
    rw [q_uniq p.cons_inv h2 k2]
/-- the pairs in order -/
noncomputable def sortQ (ks : List (Str × Str)) : List (Str × Str) := @dite _ (∃ ys : List (Str × Str), ys.Perm ks ∧ ys.Pairwise (fun a b => ltQ b a = false)) (Classical.propDecidable _) (fun h => Classical.choose h) (fun _ => ks)
theorem sortQ_of {ys ks : List (Str × Str)} (p : ys.Perm ks) (h : ys.Pairwise (fun a b => ltQ b a = false)) : ys = sortQ ks := by
  have e : ∃ ys : List (Str × Str), ys.Perm ks ∧ ys.Pairwise (fun a b => ltQ b a = false) := ⟨ys, p, h⟩
  unfold sortQ
  rw [dif_pos e]
  obtain ⟨p2, h2⟩ := Classical.choose_spec e
  exact q_uniq (p.trans p2.symm) h h2
theorem sortQ_ok (ks : List (Str × Str)) : (sortQ ks).Perm ks ∧ (sortQ ks).Pairwise (fun a b => ltQ b a = false) := by
  have pw : (ks.mergeSort fun a b => !ltQ b a).Pairwise fun a b => (!ltQ b a) = true := List.pairwise_mergeSort (le := fun a b => !ltQ b a) (fun a b c h k => by
    rw [Bool.not_eq_true'] at h k ⊢
    cases z : ltQ c a with
    | false => rfl
    | true =>
      cases y : ltQ a b with
      | true => rw [q_tr z y] at k; cases k
      | false => rw [q_tot y h] at z; rw [z] at k; cases k) (fun a b => by
    cases z : ltQ b a with
    | false => simp
    | true => rw [q_asym z]; simp) ks
  have p := List.mergeSort_perm ks fun a b => !ltQ b a
  have e := sortQ_of p (pw.imp fun {a b} h => by rwa [Bool.not_eq_true'] at h)
  rw [← e]
  exact ⟨p, pw.imp fun {a b} h => by rwa [Bool.not_eq_true'] at h⟩
/-- what joined tells -/
noncomputable def joinedL (ts : List Tal) : List (Str × Int) := foundL (mostL ts) (sortQ ((mostL ts).map (·.1)))
theorem joinedL_due {hs : List Str} {ts : List Tal} (nd : hs.Nodup) (hh : ∀ t ∈ ts, t.1 ∈ hs) : joinedL ts = dueL hs ts :=
  joined_due nd hh (sortQ_ok _).1 ((sortQ_ok _).2.imp fun {a b} h => first_le h)
end Hf

namespace Hf
open PySem PySem.Spec PyProof.Rows PySem.W L2 ClX
/-- the keys of a locked dict (o) in another turn: ks -/
def Itks (d : Addr) (o : Obj) (kvs : List (List Key × V)) (ks : List (Str × Str)) : It :=
  ⟨fun i H => H d = some (.frz o (.dT kvs)) ∧ i < ks.length, fun i H x H' => H' = H ∧ ∃ (k : Str × Str) (q : Addr), ks[i]? = some k ∧ x = .ref q ∧ H q = some (.tup [.str k.1, .str k.2]), fun i H => H d = some (.frz o (.dT kvs)) ∧ ks.length ≤ i⟩
theorem turn_sortQ {P : Program} {w : World} {K : PySem.W.Frag} {tg : Expr} {d : Addr} {o : Obj} {es : Array DictEntry} {ep c : Nat} {its : Array Value} {kvs : List (List Key × V)} {ks : List (Str × Str)} (it q : Addr) (hne : q ≠ it) (hod : o.data = .dict es ep) (hsz : its.size = ks.length)
    (hk : ∀ (j : Nat) (v : Value), its[j]? = some v → ∃ (i : Nat) (en : DictEntry) (k : Str × Str) (y : V), es[i]? = some en ∧ v = en.key ∧ kvs[i]? = some (pk2 k, y) ∧ ks[j]? = some k) :
    Turn P w K tg (Itks d o kvs ks) [it, q] it (fun i h => h.IsListIter it q i ∧ h.get? q = some { cls := .type "list", dict := none, data := .seq its c, slots := #[] }) where
  mem := by simp
  obj := fun i h st b hb => by
    have e : b = it ∨ b = q := by simpa using hb
    rcases e with e | e
    · subst e
      obtain ⟨oi, e, cc, dd⟩ := st.1
      exact ⟨oi, e, fun v z => by rw [dd] at z; cases z⟩
    · subst e
      exact ⟨_, st.2, fun v z => nomatch z⟩
  keep := fun i h h' st k => ⟨st.1.at fun oi e => k it (by simp) oi e, k q (by simp) _ st.2⟩
  item := by
    intro X hP hw hK hc i pins s σ H E I hf st hg
    subst hP hw hK
    obtain ⟨hd, hi⟩ := hg
    obtain ⟨f0, f1, f2, f3, f4, f5⟩ := hf it (by simp)
    obtain ⟨hs, hgd, hx, es', ep', hdt, hsz', ent⟩ := I.frzT hd
    obtain ⟨rfl, rfl⟩ := dict_ep hod hdt
    have hlt : i < its.size := by omega
    obtain ⟨m, en', k, y, hen', hv, hkv, hkj⟩ := hk i its[i] (Array.getElem?_eq_getElem hlt)
    obtain ⟨en, b, hen, hkey, hb⟩ := ent m (pk2 k) y hkv
    have hx' : its[i]? = some en.key := by
      rw [hen] at hen'
      cases hen'
      rw [Array.getElem?_eq_getElem hlt, hv]
    refine wpAny_pyNext_list_item st.1 (PySem.IsL.isList st.2) (x := en.key) hx' fun h' st' sb => ?_
    have I1 : Inv X pins σ H { s with heap := h' } := I.turned (t' := s.toks) (fun b ob hb e => (sb.2 b hb).trans e) f0 f1 f3 f4 f5
    obtain ⟨oi, e, cc, dd⟩ := id st'
    exact ⟨en.key, rfl, go_of (s := { s with heap := h' }) e cc dd (by decide) ⟨.ref b, H, I1, hkey, ⟨rfl, k, b, hkj, rfl, hb⟩, ⟨st', (sb.2 q hne).trans st.2⟩, fun b hb => (hf b hb).1⟩⟩
  done := by
    intro X hP hw hK hc i pins s σ H E I hf st hg
    subst hP hw hK
    obtain ⟨hd, hi⟩ := hg
    obtain ⟨f0, f1, f2, f3, f4, f5⟩ := hf it (by simp)
    exact wpAny_pyNext_list_end (I.ok.hd hc) st.1 (PySem.IsL.isList st.2) (Array.getElem?_eq_none (by omega)) fun h' eb => ⟨rfl, I.turned (t' := s.toks) (fun b ob hb e => eb b ob hb e) f0 f1 f3 f4 f5⟩
  self := fun _ _ _ _ _ st h => wpAny_pyIter_listiter st.1 h
end Hf

namespace Hf
open PySem PySem.Spec PyProof.Rows PySem.W L2 ClX
/-- the iterable sorted(e), e's value a locked dict with pairs of texts as keys -/
def iSortQ (td : TE) : TI := fun σ H R => td σ H fun v H1 => ∃ d od ws ks, v = V.ref d ∧ H1 d = some (.frz od (.dT ws)) ∧ ws.map (·.1) = List.map pk2 ks ∧ ks.length < 64 ∧ ∀ H2, Ex H1 H2 → H2 d = some (.frz od (.dT ws)) → R (Itks d od ws (sortQ ks)) H2
theorem frz_rd {H : Hp} {d : Addr} {od : Obj} {ws : List (List Key × V)} (h : H d = some (.frz od (.dT ws))) : Rd H d (.dT ws) := .inr ⟨od, h⟩
section
variable {X : Cx}
/-- sorted(d) on the heap: a new list of the key tuples, in order -/
theorem raw_sortQ {pins : List (Addr × Obj)} {σ : L2.St} {H : Hp} {s : Shared} {d : Addr} {kvs : List (List Key × V)} {ks : List (Str × Str)} {Q : Value → Shared → Prop} (hc : X.calm = true) (I : Inv X pins σ H s) (hd : Rd H d (.dT kvs)) (hks : kvs.map (·.1) = ks.map pk2) (h64 : ks.length < 64)
    (q : ∀ (zs : List (Addr × (Str × Str))) (h1 h2 : Heap) (tk : Nat) (L : Addr) (c : Nat), (zs.map (·.2)).Perm ks → (zs.map (·.2)).Pairwise (fun a b => ltQ b a = false) → (∀ z ∈ zs, ∃ (o : Obj) (es : Array DictEntry) (ep i : Nat) (en : DictEntry) (y : V), s.heap.get? d = some o ∧ o.data = .dict es ep ∧ es[i]? = some en ∧ en.key = .ref z.1 ∧ kvs[i]? = some (pk2 z.2, y)) → Inv X pins σ H { s with heap := h1, toks := tk } → L = h1.objs.size →
      (∀ b o, h1.get? b = some o → h2.get? b = some o) → h2.get? L = some (seqObj "list" (zs.map fun z => Value.ref z.1).toArray c) → Q (.ref L) { s with heap := h2, toks := tk }) :
    wpAny (model X.prog X.w) X.A (call (.builtin "sorted") [.ref d]) Q X.xe s := by
  obtain ⟨z, hs, xs', pr, o, es, ep, ho, hx, hdt, he, hn⟩ := (show ObjOk X.prog X.w H s.heap d (.dT kvs) from hd.ok I.hok)
  have l1 : es.size = xs'.length := size_of_entries he
  have l2 : kvs.length = xs'.length := Paired.length pr
  have l3 : kvs.length = ks.length := by
    have e := congrArg List.length hks
    rw [List.length_map, List.length_map] at e
    exact e
  refine Calls.call_function_entry PyProof.Rows.kind_sorted PyProof.Rows.plain_sorted PyProof.Rows.entry_sorted (PyProof.Rows.args_sorted1 _) ?_
  unfold Builtin.«sorted»
  refine wpAny_bind (m := checkCount "sorted" 1 1 _) (wpAny_pure ?_)
  refine wpAny_bind (PySem.W.kdu_collect (A := X.A.in1) (kdl_raw hs hx hdt) (I.ok.hd hc) ho (by rw [sizeLine_eq]; omega) fun h' tk acc hk hacc => ?_)
  have ea : acc.toList = xs'.map fun x => Value.ref x.2.1 := by
    have hl : acc.toList.length = xs'.length := by rw [Array.length_toList, hacc.1]; exact l1
    apply List.ext_getElem?
    intro j
    rw [List.getElem?_map]
    cases hj : acc.toList[j]? with
    | none =>
      have h1 := List.getElem?_eq_none_iff.mp hj
      rw [List.getElem?_eq_none (by omega)]
      all_goals rfl
    | some v =>
      obtain ⟨en, hen, hv⟩ := hacc.2 j v (by rw [← Array.getElem?_toList]; exact hj)
      have qe := entry_at he j
      rw [hen] at qe
      cases hb : xs'[j]? with
      | none =>
        rw [hb] at qe
        exact nomatch (show some en = none from qe)
      | some b =>
        rw [hb] at qe
        have e2 : en = entryOfKey (tupleKind (mixKind X.prog X.w)) b := Option.some.inj qe
        rw [hv, e2]
        all_goals rfl
  -- the keys' tuples
  have key : ∀ (j : Nat) (b : Addr), (xs'.map (·.2.1))[j]? = some b → ∃ k, ks[j]? = some k ∧ H b = some (.tup [.str k.1, .str k.2]) ∧ ∃ (en : DictEntry) (y : V), es[j]? = some en ∧ en.key = .ref b ∧ kvs[j]? = some (pk2 k, y) := by
    intro j b hj
    rw [List.getElem?_map] at hj
    cases hxj : xs'[j]? with
    | none => rw [hxj] at hj; cases hj
    | some x =>
      rw [hxj] at hj
      have e1 : x.2.1 = b := Option.some.inj hj
      obtain ⟨e0, he0, r1, r2, r3⟩ := DX.pget pr hxj
      have e3 : (kvs.map (·.1))[j]? = some e0.1 := by rw [List.getElem?_map, he0]; rfl
      rw [hks, List.getElem?_map] at e3
      cases e4 : ks[j]? with
      | none => rw [e4] at e3; cases e3
      | some k =>
        rw [e4] at e3
        have e5 : pk2 k = e0.1 := Option.some.inj e3
        rw [← e5, e1] at r2
        refine ⟨k, rfl, r2, entryOfKey (tupleKind (mixKind X.prog X.w)) x, e0.2, ?_, ?_, ?_⟩
        · have qe := entry_at he j
          rw [hxj] at qe
          exact qe
        · rw [← e1]; rfl
        · rw [he0, e5]
  have las : (xs'.map (·.2.1)).length = ks.length := by rw [List.length_map]; omega
  have ea2 : acc.toList = (xs'.map (·.2.1)).map Value.ref := by rw [ea, List.map_map]; all_goals rfl
  generalize has : xs'.map (·.2.1) = as at key las ea2
  have hal : acc.toList.length = ks.length := by rw [ea2, List.length_map, las]
  have I1 : Inv X pins σ H { s with heap := h', toks := tk } := I.kept hk
  refine wpAny_bind (wpAny_newList ?_ (by rw [hal, sizeLine_eq]; omega))
  have hoL : (h'.push (seqObj "list" acc.toList.toArray 0)).get? h'.objs.size = some (seqObj "list" acc.toList.toArray 0) := Heap.get?_push_size _ rfl
  have kb : ∀ b o, h'.get? b = some o → b ≠ h'.objs.size ∧ (h'.push (seqObj "list" acc.toList.toArray 0)).get? b = some o := fun b o e => ⟨Nat.ne_of_lt (Heap.lt_size e), Heap.get?_push_of_some _ e⟩
  show wpAny _ _ _ _ _ { s with heap := h'.push (seqObj "list" acc.toList.toArray 0), toks := tk }
  generalize hh2 : h'.push (seqObj "list" acc.toList.toArray 0) = h2 at hoL kb ⊢
  have pin : ∀ v ∈ acc.toList, ∃ k, PIn (TS.midHeap h2 h'.objs.size acc.toList) v k ∧ keyC H v = k ∧ k ∈ ks := by
    intro v hv
    rw [ea2] at hv
    obtain ⟨b, hb, rfl⟩ := List.mem_map.mp hv
    obtain ⟨j, hj⟩ := List.mem_iff_getElem?.mp hb
    obtain ⟨k, hkj, hH, _⟩ := key j b hj
    obtain ⟨_, its, rv, ot, hot, hct, nt, hdt2⟩ := (show ObjOk X.prog X.w H s.heap b (.tup [.str k.1, .str k.2]) from I.hok b _ hH)
    obtain ⟨t, u, rfl⟩ : ∃ t u, its = [Value.str k.1 t, Value.str k.2 u] := by
      cases rv with
      | cons r1 r2 =>
        cases r2 with
        | cons r3 r4 =>
          cases r4
          obtain ⟨t, rfl⟩ := r1
          obtain ⟨u, rfl⟩ := r3
          exact ⟨t, u, rfl⟩
    have h1 := hk _ _ hot
    obtain ⟨n1, h3⟩ := kb _ _ h1
    exact ⟨k, ⟨b, t, u, rfl, ot, TS.midHeap_old n1 h3, hct, nt, hdt2⟩, keyC_eq hH, List.mem_of_getElem? hkj⟩
  have pinU : ∀ {v k l}, PIn (TS.midHeap h2 h'.objs.size acc.toList) v k → PIn (TS.midHeap h2 h'.objs.size acc.toList) v l → k = l := by
    intro v k l ⟨a, t, u, e, o1, g1, c1, n1, d1⟩ ⟨a2, t2, u2, e2, o2, g2, c2, n2, d2⟩
    subst e
    injection e2 with e2
    subst e2
    rw [g1] at g2
    injection g2 with g2
    subst g2
    rw [d1] at d2
    injection d2 with d2 _
    have d3 := congrArg Array.toList d2
    simp only [List.cons.injEq, Value.str.injEq, and_true] at d3
    exact Prod.ext d3.1.1 d3.2.1
  refine wpAny_bind (wpAny_holding (wpAny_call_entry PyProof.Rows.slot_list_sort ⟨_, hoL, rfl⟩ PyProof.Rows.entry_list_sort
    (SK.plain_sort (s := { s with heap := h2, toks := tk }) (r := fun v => rankQ ks (keyC H v)) hoL (by rw [hal]; exact h64) (fun h2' Qk hQk => ?_) fun ps out o1 o2 o3 => ⟨_, rfl, ?_⟩) (PyProof.Rows.args_list_sort _)))
  · refine kind_pp (s := { s with heap := TS.midHeap h2 h'.objs.size acc.toList, toks := tk }) h2' (fun v hv => ?_) (fun v hv u hu k l pk pl => ?_) Qk hQk
    · obtain ⟨k, a, _, _⟩ := pin v hv
      exact ⟨k, a⟩
    · obtain ⟨k1, a1, b1, c1⟩ := pin v hv
      obtain ⟨k2, a2, b2, c2⟩ := pin u hu
      rw [b1, b2, pinU pk a1, pinU pl a2]
      exact rank_eq c1 c2
  · have o2' : ps.Perm ((as.map Value.ref).zip (as.map Value.ref)) := by rw [← ea2]; exact o2
    obtain ⟨zs, pz, ez⟩ := perm_lift (fun z : Addr × (Str × Str) => (Value.ref z.1, Value.ref z.1)) o2' (as.zip ks) (DX.zip_self Value.ref as ks las)
    have idx : ∀ z ∈ zs, ∃ j : Nat, as[j]? = some z.1 ∧ ks[j]? = some z.2 := by
      intro z' hz'
      obtain ⟨j, hj⟩ := List.mem_iff_getElem?.mp (pz.mem_iff.mp hz')
      exact ⟨j, List.getElem?_zip_eq_some.mp hj⟩
    have hz : ∀ z ∈ zs, H z.1 = some (.tup [.str z.2.1, .str z.2.2]) ∧ z.2 ∈ ks ∧ ∃ (o : Obj) (es : Array DictEntry) (ep i : Nat) (en : DictEntry) (y : V), s.heap.get? d = some o ∧ o.data = .dict es ep ∧ es[i]? = some en ∧ en.key = .ref z.1 ∧ kvs[i]? = some (pk2 z.2, y) := by
      intro z' hz'
      obtain ⟨j, j1, j2⟩ := idx z' hz'
      obtain ⟨k, k1, k2, en, y, k3, k4, k5⟩ := key j _ j1
      have e := Option.some.inj (k1.symm.trans j2)
      subst e
      exact ⟨k2, List.mem_of_getElem? j2, o, es, ep, j, en, y, ho, hdt, k3, k4, k5⟩
    have hout : out.toList = zs.map fun z => Value.ref z.1 := by
      rw [o1, ← ez, List.map_map]
      all_goals rfl
    have hperm : (zs.map (·.2)).Perm ks := by
      have e := pz.map (·.2)
      have m2 : (as.zip ks).map (·.2) = ks := List.map_snd_zip (by rw [las]; exact Nat.le_refl _)
      rw [m2] at e
      exact e
    have hsort : (zs.map (·.2)).Pairwise (fun a b => ltQ b a = false) := by
      rw [← ez, List.pairwise_map] at o3
      rw [List.pairwise_map]
      refine List.Pairwise.imp_of_mem (fun {x y} hx hy h => ?_) o3
      obtain ⟨x1, x2, _⟩ := hz x hx
      obtain ⟨y1, y2, _⟩ := hz y hy
      have h' : rankQ ks (keyC H (.ref x.1)) ≤ rankQ ks (keyC H (.ref y.1)) := h
      rw [keyC_eq x1, keyC_eq y1] at h'
      rw [rank_eq y2 x2]
      exact decide_eq_false (by omega)
    obtain ⟨e', he'⟩ := PyProof.Rows.sortedHeap_at (vs := acc.toList) (out := out) hoL
    have eo : out = (zs.map fun z => Value.ref z.1).toArray := Array.toList_inj.mp (by rw [hout])
    subst eo

    refine wpAny_pure ⟨_, rfl, q zs h' _ tk h'.objs.size e' hperm hsort (fun z hz' => (hz z hz').2.2) I1 rfl (fun b u e => ?_) he'⟩
    obtain ⟨n1, h3⟩ := kb _ _ e
    exact (PyProof.Rows.sortedHeap_old n1 (Heap.lt_size h3)).trans h3
end
end Hf

namespace Hf
open PySem PySem.Spec PyProof.Rows PySem.W L2 ClX
theorem pi_sortQ {X : Cx} {tg e : Expr} {td : TE} {p pos : Pos} (hc : X.calm = true) (he : PE X e td) (hg : Gl X "sorted") (hm : X.mg "sorted" = none)
    (hst : starEach (e :: []) X.env = (false, eval e X.env) :: starEach [] X.env) (hpl : (backTo pos (starEach [] X.env)).any (·.1) = false) : PI X tg (.Call (.Name "sorted" p) [e] [] pos) (iSortQ td) := by
  refine ⟨fun pins s σ H R I h => ?_⟩
  refine wpAny_Call_Name_kw (ld_blt I hg hm (show bootBuiltins "sorted" = some (.builtin "sorted") by decide +kernel) ?_ (by decide) (by decide))
  have ha := (pa_cons he pa_nil hst).run pos pins s σ H (fun vs H1 => match vs with
    | [v] => ∃ d od ws ks, v = V.ref d ∧ H1 d = some (.frz od (.dT ws)) ∧ ws.map (·.1) = List.map pk2 ks ∧ ks.length < 64 ∧ ∀ H2, Ex H1 H2 → H2 d = some (.frz od (.dT ws)) → R (Itks d od ws (sortQ ks)) H2
    | _ => False) I h
  refine PyProof.Rows.callWith_builtin1 (thn ha fun us s1 ⟨vs, H1, I1, r1, q1⟩ => ?_) hst hpl
  cases vs with
  | nil => exact False.elim q1
  | cons v vs =>
    cases vs with
    | cons _ _ => exact False.elim q1
    | nil =>
      obtain ⟨d, od, ws, ks, ev, hd, hks, h64, q⟩ := q1
      subst ev
      obtain ⟨u, rfl, ru⟩ := r1.one
      cases ru
      obtain ⟨hs, hgd, hx, es, ep, hdt, hsz, ent⟩ := I1.frzT hd
      refine raw_sortQ hc I1 (frz_rd hd) hks h64 fun zs h1 h2 tk L c pz sz hz I2 eL kp e2 => ?_
      subst eL
      refine wpAny_pyIter_list (PySem.IsL.isList e2) ?_
      have hlt : h1.objs.size < h2.objs.size := Heap.lt_size e2
      have I3 : Inv X pins σ H1 { s1 with heap := h2, toks := tk } := I2.kept (t' := tk) kp
      have ez : zs.map (·.2) = sortQ ks := sortQ_of pz sz
      refine ⟨h2.objs.size, [h2.objs.size, h1.objs.size], _, Itks d od ws (sortQ ks), H1, rfl, I3.kept (t' := tk) (fun b ob z => Heap.get?_push_of_some _ z),
        turn_sortQ (c := c) (its := (zs.map fun z => Value.ref z.1).toArray) h2.objs.size h1.objs.size (Nat.ne_of_lt hlt) hdt (by rw [List.size_toArray, List.length_map, ← ez, List.length_map]) ?_, ⟨⟨_, Heap.get?_push_size _ rfl, rfl, rfl⟩, Heap.get?_push_of_some _ e2⟩, fun b hb => ?_, q H1 (.refl _) hd⟩
      · intro j v hj
        rw [List.getElem?_toArray, List.getElem?_map] at hj
        cases hzj : zs[j]? with
        | none => rw [hzj] at hj; cases hj
        | some z =>
          rw [hzj] at hj
          have e1 : Value.ref z.1 = v := Option.some.inj hj
          obtain ⟨o', es', ep', i, en, y, g1, g2, g3, g4, g5⟩ := hz z (List.mem_of_getElem? hzj)
          rw [hgd] at g1
          cases g1
          obtain ⟨rfl, rfl⟩ := dict_ep hdt g2
          exact ⟨i, en, z.2, y, g3, by rw [← e1, g4], g5, by rw [← ez, List.getElem?_map, hzj]; rfl⟩
      · have eb : b = h2.objs.size ∨ b = h1.objs.size := by simpa using hb
        rcases eb with eb | eb
        · subst eb
          exact I3.fpOk (Nat.le_refl _) (I3.hok.fresh (Nat.le_refl _))
        · subst eb
          exact I2.fpOk (Nat.le_refl _) (I2.hok.fresh (Nat.le_refl _))
end Hf

namespace Hf
open PySem PySem.Spec PyProof.Rows L2 ClX
/-! ### for a, b in sorted(d), d a dict of one's own with pairs of texts as keys -/
def oDt {α : Type} (kvs : List (List Key × V)) (r : Rp α) (ds : List ((Str × Str) × α)) : Oc := ⟨fun G o => o = .dT kvs ∧ KtAt r G kvs ds, fun e ⟨h1, h2⟩ => ⟨h1, h2.mono e⟩⟩
def oFt {α : Type} (od : Obj) (kvs : List (List Key × V)) (r : Rp α) (ds : List ((Str × Str) × α)) : Oc := ⟨fun G o => o = .frz od (.dT kvs) ∧ KtAt r G kvs ds, fun e ⟨h1, h2⟩ => ⟨h1, h2.mono e⟩⟩
section
variable {X : Cx} {E : Ent} {Γ Γ' Γ1 Γ2 : List Slot} {D : Ends} {e f g o : Expr} {es : List Expr} {body rest : List Stmt} {pos p p2 apos cpos : Pos} {α β γ ι : Type} {r : Rp α} {x : α} {s : Rp β} {y : β} {as : List α} {ds : List ((Str × Str) × α)} {k : Str × Str} {j : Nat} {kvs : List (List Key × V)}
/-- d[k], d locked -/
theorem ev_dixFt {od : Obj} (hr : Room j X.A) (h : EvB X Γ e (oFt od kvs r ds)) (hk : Ev X Γ f rP2 k) (hx : kGet ds k = some x)
    (hpe : PE X (.Subscript e f pos) (tDGet (WE X e) (WE X f)) := by exact pe_dget (hu_of hr) WE.pe WE.pe (fun _ _ => rfl)) : Ev X Γ (.Subscript e f pos) r x := fun E G H σ hh Q q =>
  WE.of hpe (h E G H σ hh _ fun p o G1 H1 l1 hp ⟨e1, ha⟩ => by
    subst e1
    refine hk E G1 H1 σ (hh.step l1) _ fun w G2 H2 l2 r2 => ?_
    obtain ⟨b, e2, hb⟩ := r2
    subst e2
    rcases (ha.mono l2.g).get (k := k) with ⟨h1, h2⟩ | ⟨v, a, h1, h2, h3⟩
    · rw [hx] at h2; cases h2
    · rw [hx] at h2
      cases h2
      exact ⟨p, v, rfl, h1 ▸ .inr ⟨kvs, pk2 k, b, .inr ⟨od, l2.h _ _ hp⟩, rfl, l2.gh _ _ hb, rfl⟩, q v G2 H2 (l1.trans l2) h3⟩)
/-- a target of two texts, the tuple on the heap -/
def TgH (X : Cx) (tg : Expr) (U : Str × Str → List Slot → List Slot) : Prop := ∀ (E : Ent) (G H : Hp) (σ : L2.St) (Γ : List Slot) (q : Addr) (k : Str × Str), Holds E G H σ Γ → H q = some (.tup [.str k.1, .str k.2]) → ∀ Q : L2.St → Hp → Prop, (∀ σ', Holds E G H σ' (U k Γ) → Q σ' H) → WG X tg (.ref q) σ H Q
theorem tgh_two {t1 t2 : Expr} {n : Nat} {U W : Str → List Slot → List Slot} {vs ws : List Nat} (h1 : TgOk X t1 rStr U vs) (h2 : TgOk X t2 rStr W ws) (hc : X.calm = true := by rfl) (hs1 : (assignEach (t1 :: [t2]) X.env).map (·.2) = assign t1 X.env :: (assignEach [t2] X.env).map (·.2) := by rfl)
    (hs2 : (assignEach (t2 :: []) X.env).map (·.2) = assign t2 X.env :: (assignEach [] X.env).map (·.2) := by rfl) (hn : (assignEach [t1, t2] X.env).length = 2 := by rfl) (hst : (assignEach [t1, t2] X.env).findIdx? (·.1) = none := by rfl) :
    TgH X (.Tuple [t1, t2] n pos) (fun a Γ => W a.2 (U a.1 Γ)) := fun E G H σ Γ q a hh hq Q k => by
  refine WG.of (pg_tup hc (pgs_cons (t := WG X t1) WG.pg (pgs_cons (t := WG X t2) WG.pg pgs_nil hs2) hs1) hn hst) ⟨q, [.str a.1, .str a.2], rfl, .inl (.inl hq), rfl, _, [.str a.2], rfl, ?_⟩
  exact h1 E G H σ Γ _ a.1 hh rfl _ fun σ1 b1 hh1 => ⟨_, [], rfl, h2 E G H σ1 _ _ a.2 hh1 rfl _ fun σ2 b2 hh2 => ⟨rfl, k σ2 hh2⟩⟩
theorem bk_forQ {S : Type} {tg : Expr} {U : Str × Str → List Slot → List Slot} (i : Nat) {a : Str} {d : Addr} (mk : Slot → S → List Slot) (I : Nat → S → Prop) (s0 : S) (hp : PassesOwn (model X.prog X.w) X.A X.env X.xe) (hg : Γ[i]? = some (.ow (oDkt r ds) (some d))) (h64 : ds.length < 64) (ht : TgH X tg U) (h0 : I 0 s0)
    (hΓ : ∀ (x : Slot) (G H : Hp) (σ : L2.St), Holds E G H σ (Γ.set i x) → Holds E G H σ (mk x s0)) (hm : ∀ x s, (mk x s)[i]? = some x) (hms : ∀ x y s, (mk x s).set i y = mk y s)
    (step : ∀ F od kvs n s a, (sortQ (ds.map (·.1)))[n]? = some a → I n s → ∀ (rt : VK) (bk : L2.St → Hp → Prop), Bk X { E with F := F } (U a (mk (.ow (oFt od kvs r ds) (some d)) s)) body
      { nx := fun σ H => ∃ s', I (n + 1) s' ∧ At { E with F := F } (mk (.ow (oFt od kvs r ds) (some d)) s') σ H, rt := rt, bk := bk, ct := fun σ H => ∃ s', I (n + 1) s' ∧ At { E with F := F } (mk (.ow (oFt od kvs r ds) (some d)) s') σ H })
    (done : ∀ s, I (sortQ (ds.map (·.1))).length s → Bk X E (mk (.ow (oDkt r ds) (some d)) s) rest D) (hme : X.mg "sorted" = none) (hge : Gl X "sorted" := by rfl) (hc : X.calm = true := by rfl) (hs : ∀ x, foldedSetIterable (.Call (.Name "sorted" p2) [.Name a p] [] cpos) X.env x = pure x := by intro _; rfl)
    (hse : starEach (.Name a p :: []) X.env = (false, eval (.Name a p) X.env) :: starEach [] X.env := by rfl) (hpl : (backTo cpos (starEach [] X.env)).any (·.1) = false := by rfl)
    (hN : X.N[i]? = some a := by rfl) (hv : Vis X.env.scope a := by first | exact Or.inl rfl | exact Or.inr (Or.inl rfl) | exact Or.inr (Or.inr rfl)) (hd : (a == ("__debug__" : Str)) = false := by decide) (hcd : (a == ("__classdict__" : Str)) = false := by decide) :
    Bk X E Γ (.For tg (.Call (.Name "sorted" p2) [.Name a p] [] cpos) body [] pos :: rest) D :=
  bk_of (ps_lock (ps_for hp hc (pi_sortQ hc (pe_var hN hv hd hcd) hge hme hse hpl) (WG.pg (tg := tg)) WB.pss hs)) fun G H σ hh => by
    obtain ⟨q, o, h1, h2, h3, h4, kvs, h5, h6⟩ := hh.ow hg
    subst h5
    have eq : q = d := h3.1
    subst eq
    refine ⟨q, .dT kvs, h4, trivial, fun od => ?_⟩
    have hl := hΓ (.ow (oFt od kvs r ds) (some q)) _ _ _ (hh.mut hg h1 (c' := oFt od kvs r ds) (o' := .frz od (.dT kvs)) ⟨rfl, h6⟩)
    have hlen : kvs.length = ds.length := h6.length
    refine ⟨_, h1, q, od, kvs, ds.map (·.1), rfl, upd_same, h6.keys, by rw [List.length_map]; exact h64, fun H2 ex2 hq2 => ?_⟩
    have hl2 := hl.step (G' := G) (H' := H2) ⟨.refl _, ex2, hl.le.gh.trans ex2, fun a o z1 z2 => by rw [z1] at z2; cases z2⟩
    generalize hks : sortQ (ds.map (·.1)) = ks at step done ⊢
    refine ⟨fun n m σ H => m = ks.length - n ∧ n ≤ ks.length ∧ ∃ s G1, I n s ∧ Holds { E with F := G } G1 H σ (mk (.ow (oFt od kvs r ds) (some q)) s), ⟨ks.length, by simp, Nat.zero_le _, s0, G, h0, hl2.floor (.refl _)⟩, ?_⟩
    rintro n m σ' H' ⟨rfl, hn, s, G2, hs, hh2⟩
    obtain ⟨q', o', w1, w2, w3, w4, w5, w6⟩ := hh2.ow (hm _ s)
    have eq : q' = q := w3.1
    subst eq w5
    by_cases lt : n < ks.length
    · refine .inr ⟨⟨w4, by omega⟩, fun σ' H' => ∃ s', I (n + 1) s' ∧ At { E with F := G } (mk (.ow (oFt od kvs r ds) (some q')) s') σ' H', fun σ' H' ⟨s', i', G', h'⟩ => ⟨ks.length - (n + 1), by omega, rfl, lt, s', G', i', h'⟩, fun x H'' yy => ?_⟩
      obtain ⟨e1, k, b, e2, e3, e4⟩ := yy
      subst e1 e3
      refine ht { E with F := G } G2 _ σ' _ b k hh2 e4 _ fun σ3 hh3 => ?_
      exact step G od kvs n s k e2 hs _ _ G2 _ σ3 hh3
    · have e : n = ks.length := by omega
      subst e
      refine .inl ⟨⟨w4, by omega⟩, w4, done s hs G2 _ σ' ?_⟩
      have z := hh2.mut (hm _ s) w1 (c' := oDkt r ds) (o' := .dT kvs) ⟨kvs, rfl, w6⟩
      rw [hms] at z
      exact z.unfloor (hh.fl.trans hh2.fl)
/-- from here on an object of one's own is known by its place -/
theorem bk_pin (i : Nat) {c : Oc} {q : Option Addr} (hg : Γ[i]? = some (.ow c q))
    (k : ∀ (d : Addr) (E1 : Ent), (∀ G' H', LeE E1.G E1.H E1.M G' H' → LeE E.G E.H E.M G' H') → (∀ a, E1.H a = none → E.H a = none) → Bk X E1 (lookO Γ i (.ow c (some d))) rest D) : Bk X E Γ rest D := fun G H σ hh => by
  obtain ⟨d, o, h1, h2, h3, h4, h5⟩ := hh.ow hg
  refine k d { G := G, H := H, M := fun a => a = d } (fun G' H' l => hh.le.re l fun x hx => ?_) (fun a z => hh.le.fresh z) G H σ ⟨⟨.refl _, fun a o z => ?_, hh.le.gh, fun a o z1 z2 => ?_, fun a z => ?_⟩, (fun a u z => by cases z), by rw [lookO_len]; exact hh.len, fun j s z => ?_, fun j1 j2 s t z1 z2 o1 o2 z => ?_⟩
  · subst hx; exact h3.or
  · by_cases e : a = d
    · exact .inr ⟨e, o, z⟩
    · exact .inl ⟨e, z⟩
  · have z2 : G a = none := z2
    rw [z1] at z2; cases z2
  · subst z; exact ⟨h2, _, h4⟩
  · rcases lookO_ok z with rfl | ⟨rfl, rfl⟩ | ⟨o1, e'⟩
    · trivial
    · exact ⟨d, _, h1, h2, ⟨rfl, rfl⟩, h4, h5⟩
    · have z := hh.ok j s e'
      cases s with
      | no => trivial
      | sh r' a' => exact z
      | ow c' q' => cases o1
  · rcases lookO_ok z1 with rfl | ⟨rfl, rfl⟩ | ⟨n1, _⟩
    · cases o1
    · rcases lookO_ok z2 with rfl | ⟨rfl, rfl⟩ | ⟨n2, _⟩
      · cases o2
      · rfl
      · rw [n2] at o2; cases o2
    · rw [n1] at o1; cases o1
end
end Hf

namespace Hf
open PySem PySem.Spec PyProof.Rows L2 ClX
section
variable {X : Cx} {E : Ent} {Γ Γ' Γ1 Γ2 : List Slot} {D : Ends} {e f g o tg : Expr} {es : List Expr} {body rest : List Stmt} {pos p p2 p3 p4 apos cpos : Pos} {α β γ ι : Type} {r : Rp α} {x : α} {s : Rp β} {y : β} {t : Rp γ} {as : List α} {ds : List (Str × α)} {k j : Nat}
theorem ev_lenT3 {a : α × β × γ} (h : Ev X Γ e (rT3 X.K r s t) a) (hm : X.mg "len" = none) (hg : Gl X "len" := by rfl) (he : starEach (e :: []) X.env = (false, eval e X.env) :: starEach [] X.env := by rfl) (hpl : (backTo pos (starEach [] X.env)).any (·.1) = false := by rfl) :
    Ev X Γ (.Call (.Name "len" p) [e] [] pos) rInt 3 := fun E G H σ hh Q q =>
  WE.of (pe_callB call_len_seq hg hm PySem.boot_len (pa_cons WE.pe pa_nil he) (he := he) (hpl := hpl)) (h E G H σ hh _ fun v G1 H1 l1 ⟨p, v1, v2, v3, e1, hp, _, _, _⟩ => ⟨p, _, by rw [e1], .inr (Evl.ex_t l1.gh hp), q _ G1 H1 l1 rfl⟩)
/-- t[:2] of three -/
theorem ev_cutT3 {a : α × β × γ} (h : Ev X Γ e (rT3 X.K r s t) a) : Ev X Γ (.Subscript e (.Slice none (some (.Constant (.int 2) k p2)) none p3) pos) (rT2 X.K r s) (a.1, a.2.1) := fun E G H σ hh Q q =>
  WE.of (pe_slice sl_tup WE.pe po_none (po_some pe_int)) (h E G H σ hh _ fun v G1 H1 l1 ⟨p, v1, v2, v3, e1, hp, h1, h2, h3⟩ =>
    ⟨2, rfl, p, [v1, v2, v3], e1, Evl.ex_t l1.gh hp, by show ¬ (HT.sIx 3 0 none = 0 ∧ HT.sIx 3 3 (some 2) = 3); decide, fun p3 n => by
      have e2 : cutV [v1, v2, v3] none (some 2) = [v1, v2] := rfl
      rw [e2]
      have n1 := Evl.fresh_back l1.gh n
      exact q _ (upd G1 p3 (.tup [v1, v2])) _ (l1.add n) ⟨p3, v1, v2, rfl, .inl (.inl upd_same), r.mono (Evl.Ex.new n1) h1, s.mono (Evl.Ex.new n1) h2⟩⟩)
/-- sorted(xs), texts -/
theorem eo_sortedL {us : List Str} (h : EvB X Γ e (oLst rStr us)) (hl : us.length < 64) (hm : X.mg "sorted" = none) (hg : Gl X "sorted" := by rfl) (he : starEach (e :: []) X.env = (false, eval e X.env) :: starEach [] X.env := by rfl) (hpl : (backTo pos (starEach [] X.env)).any (·.1) = false := by rfl) :
    EvO X Γ (.Call (.Name "sorted" p) [e] [] pos) (oLst rStr (sortT us)) := fun E G H σ hh Q q =>
  WE.of (pe_callB cr_sortedS hg hm (by decide +kernel) (pa_cons WE.pe pa_nil he) (he := he) (hpl := hpl)) (h E G H σ hh _ fun p o G1 H1 l1 hp ⟨vs, e1, ha⟩ => by
    subst e1
    have ev := all2_str ha
    subst ev
    refine ⟨p, us, rfl, .inl (.inl hp), hl, fun ys p3 pm so n => ?_⟩
    rw [sortT_of pm so]
    exact q p3 _ G1 _ (Evl.fresh_back l1.h n) (l1.addO n) (Evl.fresh_back l1.gh n) upd_same ⟨_, rfl, all2_ofStr _⟩)
/-- list(d) -/
theorem KvAt.keysV {G : Hp} : ∀ {kvs : List (Key × V)} {ds : List (Str × α)}, KvAt r G kvs ds → kvs.map (fun kv => kV kv.1) = (ds.map (·.1)).map V.str
  | _, _, .nil => rfl
  | _, _, .cons h t => by simp only [List.map_cons]; rw [KvAt.keysV t]; rfl
theorem eo_listD (h : EvB X Γ e (oDic r ds)) (hm : X.mg "list" = none) (hc : X.calm = true := by rfl) (hg : Gl X "list" := by rfl) (he : starEach (e :: []) X.env = (false, eval e X.env) :: starEach [] X.env := by rfl) (hpl : (backTo pos (starEach [] X.env)).any (·.1) = false := by rfl) :
    EvO X Γ (.Call (.Name "list" p) [e] [] pos) (oLst rStr (ds.map (·.1))) := fun E G H σ hh Q q =>
  WE.of (pe_callTy (call_listD hc) hg hm (by decide +kernel) (pa_cons WE.pe pa_nil he) (he := he) (hpl := hpl)) (h E G H σ hh _ fun p o G1 H1 l1 hp ⟨kvs, e1, ha⟩ => by
    subst e1
    refine ⟨p, kvs, rfl, .inl hp, fun p3 n => ?_⟩
    rw [ha.keysV]
    exact q p3 _ G1 _ (Evl.fresh_back l1.h n) (l1.addO n) (Evl.fresh_back l1.gh n) upd_same ⟨_, rfl, all2_ofStr _⟩)
/-! ### the values of a new dict -/
/-- a new dict, locked as it is told -/
def tLockN (td : TE) : TE := fun σ H Q => td σ H fun x H1 => ∃ d kvs, x = V.ref d ∧ H1 d = some (.dK kvs) ∧ ∀ od, Q x (upd H1 d (.frz od (.dK kvs)))
theorem pe_lockN {td : TE} (h : PE X e td) : PE X e (tLockN td) := ⟨fun pins s σ H Q I hw => thn (h.run pins s σ H _ I hw) fun u s1 ⟨x, H1, I1, rx, d, kvs, ex, hd, q⟩ => by
  obtain ⟨od, I2⟩ := I1.lock hd trivial
  exact ⟨x, _, I2, rx, q od⟩⟩
theorem ei_values (h : EvO X Γ e (oDic r ds)) (hbase : attributeBase e "values" X.env (eval e X.env) = eval e X.env := by rfl) (hline : (apos.endLine == cpos.line) = true := by rfl) : EvI X Γ tg (.Call (.Attribute e "values" apos) [] [] cpos) r (ds.map (·.2)) :=
  ⟨_, pi_values (pe_lockN WE.pe) hbase hline, fun E G H σ hh R q => h E G H σ hh _ fun p o G1 H1 n l1 g1 hp ⟨kvs, e1, ha⟩ => by
    subst e1
    refine ⟨p, kvs, rfl, hp, fun od => ⟨p, od, kvs, rfl, upd_same, ?_⟩⟩
    have gx : Ex G1 (upd G1 p (.frz od (.dK kvs))) := Evl.Ex.new g1
    have l2 : Le G H (upd G1 p (.frz od (.dK kvs))) (upd H1 p (.frz od (.dK kvs))) := by
      refine ⟨l1.g.trans gx, fun a u z => ?_, fun a u z => ?_, fun a u z1 z2 => ?_⟩
      · have ne : a ≠ p := fun w => by subst w; rw [n] at z; cases z
        rw [upd_ne ne]; exact l1.h _ _ z
      · by_cases ea : a = p
        · subst ea; rw [upd_same] at z ⊢; exact z
        · rw [upd_ne ea] at z ⊢; exact l1.gh _ _ z
      · by_cases ea : a = p
        · subst ea; exact n
        · rw [upd_ne ea] at z1; exact l1.new a u z1 z2
    refine q _ _ _ l2 fun i G2 H2 x2 y2 => ⟨fun a ea => ?_, fun le => ?_⟩
    · have hd : H2 p = some (.frz od (.dK kvs)) := y2 _ _ (x2 _ _ upd_same)
      have lt : i < kvs.length := by
        rw [ha.length]
        have z := (List.getElem?_eq_some_iff.mp ea).1
        rwa [List.length_map] at z
      refine ⟨⟨hd, lt⟩, fun x H' ⟨e1, kk, hk⟩ => ?_⟩
      subst e1
      obtain ⟨nm, a', e4, e5, e6⟩ := ha.at hk
      rw [List.getElem?_map, e5] at ea
      cases ea
      exact ⟨G2, .refl y2, r.mono (gx.trans x2) e6⟩
    · refine ⟨y2 _ _ (x2 _ _ upd_same), ?_⟩
      rw [ha.length]
      rwa [List.length_map] at le⟩
/-- d.clear(), d one's own -/
theorem bk_dclear (i : Nat) {a : Str} {pq : Option Addr} (hg : Γ[i]? = some (.ow (oDic r ds) pq)) (k : Bk X E (Γ.set i (.ow (oDic r []) pq)) rest D)
    (hpe : PE X (.Call (.Attribute (.Name a p) "clear" apos) [] [] cpos) (tBM0 X.K "dict" rDClear (tVar i)) := by exact pe_dclear (pv _))
    (hs : swapsWith (.Call (.Attribute (.Name a p) "clear" apos) [] [] cpos) none pos.line X.env = pure false := by rfl) : Bk X E Γ (.Expr (.Call (.Attribute (.Name a p) "clear" apos) [] [] cpos) pos :: rest) D :=
  bk_of (ps_expr hpe hs) fun G H σ hh => by
    obtain ⟨q, o, h1, h2, h3, h4, kvs, h5, h6⟩ := hh.ow hg
    subst h5
    exact ⟨_, h1, .inr (.inr (.inl ⟨rfl, .inl ⟨kvs, h4⟩⟩)), q, kvs, rfl, rfl, h4, k G _ σ (hh.mut hg h1 ⟨[], rfl, .nil⟩)⟩
end
/-! ### == of dicts of numbers -/
def rEqDI : R2 := fun x y H Q => ∃ a c ks ls, x = .ref a ∧ y = .ref c ∧ H a = some (.dK ks) ∧ H c = some (.dK ls) ∧ (∀ p ∈ ks, ∃ i, p.2 = .int i) ∧ (∀ p ∈ ls, ∃ i, p.2 = .int i) ∧ Q (.bl (decide (ks.length = ls.length) && hitsI ls ks)) H
theorem op_eqDI {X : Cx} (hu : X.A.units + 100 < cLine) : OpR X (compareOp .Eq) rEqDI := by
  intro pins s σ H x y v u Q I rx ry h
  obtain ⟨a, b, ks, ls, rfl, rfl, ea, eb, h1, h2, q⟩ := h
  obtain rfl : v = Value.ref a := rx
  obtain rfl : u = Value.ref b := ry
  obtain ⟨_, ya, va, ra, da⟩ := (show ObjOk X.prog X.w H s.heap a (.dK ks) from I.hok a _ ea)
  obtain ⟨_, yb, vb, rb, db⟩ := (show ObjOk X.prog X.w H s.heap b (.dK ls) from I.hok b _ eb)
  have l1 : ks.length = va.length := ra.length
  have l2 : ls.length = vb.length := rb.length
  have e : (va.length == vb.length) = decide (ks.length = ls.length) := by rw [l1, l2]; exact (Bool.beq_eq_decide_eq _ _)
  exact PySem.W.keq_eq (knd := mixKind X.prog X.w) (r := hitsI ls ks) ya yb da db (by omega) (fun _ => hits_int I (by show X.A.units + 1 + 64 < cLine; omega) h2 rb ra h1) ⟨.bl _, H, I, (by rw [e]; rfl), q⟩
section
variable {X : Cx} {Γ : List Slot} {e f : Expr} {pos : Pos} {ds es : List (Str × Int)} {k : Nat}
theorem ev_eqDI (hr : Room k X.A) (ha : EvB X Γ e (oDic rInt ds)) (hb : EvB X Γ f (oDic rInt es)) (hm : behindInMarks .Eq f = false := by first | exact nobehind _ (by decide) (by decide) | rfl) : Ev X Γ (.Compare e [.Eq] [f] pos) rBool (eqDI ds es) := fun E G H σ hh Q q =>
  WE.of (pe_cmpR (op_eqDI (by have := hr.un; omega)) WE.pe WE.pe hm) (ha E G H σ hh _ fun a o G1 H1 l1 h1 ⟨ks, e1, a1⟩ => hb E G1 H1 σ (hh.step l1) _ fun c o2 G2 H2 l2 h2 ⟨ls, e2, a2⟩ => by
    subst e1 e2
    have a1' := a1.mono l2.g
    refine ⟨a, c, ks, ls, rfl, rfl, l2.h _ _ h1, h2, a1.ints, a2.ints, q _ G2 H2 (l1.trans l2) ?_⟩
    rw [hitsI_eq a2 a1', a1.length, a2.length]
    rfl)
end
theorem eqDI_self {ds : List (Str × Int)} (h : (ds.map (·.1)).Nodup) : eqDI ds ds = true := by
  unfold eqDI
  simp only [decide_true, Bool.true_and, List.all_eq_true, decide_eq_true_eq]
  intro q hq
  have : ∀ l : List (Str × Int), (l.map (·.1)).Nodup → q ∈ l → dGet l q.1 = some q.2 := fun l => by
    induction l with
    | nil => intro _ m; simp at m
    | cons p l ih =>
      intro nd m
      rw [List.map_cons, List.nodup_cons] at nd
      rcases List.mem_cons.mp m with rfl | m
      · exact dGet_pos rfl
      · have ne : ¬ p.1 = q.1 := fun w => nd.1 (by rw [w]; exact List.mem_map_of_mem m)
        rw [dGet_neg ne]
        exact ih nd.2 m
  exact this ds h hq
/-! ### pairs of texts, lists of tallies, == -/
def pdPP (a : Str × Str) : PyData := .tuple [.str a.1, .str a.2]
theorem eqv_pp {K : PySem.W.Frag} {a : Str × Str} (h1 : PyData.strOk a.1 = true) (h2 : PyData.strOk a.2 = true) : Eqv K (rT2 K rStr rStr) a (pdPP a) := ⟨fun G v ⟨p, v1, v2, e, h, h1, h2⟩ => by
  cases e; cases h1; cases h2
  exact .tup h (.cons (.str _) (.cons (.str _) .nil)), by simp [SeqAt.shaped, pdPP, PyData.canLay0, PyData.canLayAll0, h1, h2, PyData.depth, PyData.depthAll]⟩
theorem pdPP_eqv {a b : Str × Str} : PyData.eqv (pdPP a) (pdPP b) = decide (a = b) := by
  obtain ⟨a1, a2⟩ := a
  obtain ⟨b1, b2⟩ := b
  simp [pdPP, PyData.eqv, PyData.eqvAll]
  by_cases h1 : a1 = b1 <;> by_cases h2 : a2 = b2 <;> simp [h1, h2]
def rTal (K : PySem.W.Frag) : Rp Tal := rT3 K rStr rStr rInt
def pdTal (a : Tal) : PyData := .tuple [.str a.1, .str a.2.1, .int a.2.2]
def TalOk (t : Tal) : Prop := t.1 ∈ lawHands ∧ t.2.1 ∈ lawLeaves ∧ 0 ≤ t.2.2 ∧ t.2.2 ≤ 1000
end Hf

/-! a lambda of one parameter as the key of sorted -/
namespace Hf
open PySem PySem.Spec PyProof.Rows PySem.W PySem.Calls L2 ClX LamX NdefX
/-! ### numbers reckoned in a frame: nothing changes but the count of tokens -/
def EI (prog : Program) (w : World) (A : Around) (env : Env) (s : Shared) (e : Expr) (n : Int) : Prop :=
  ∀ (E Q : Value → Shared → Prop) (tk : Nat), (∀ t tk', Q (.int n t) { s with toks := tk' }) → wpAny (model prog w) A (eval e env) Q E { s with toks := tk }
section
variable {prog : Program} {w : World} {A : Around} {env : Env} {s : Shared} {e f : Expr} {i j : Int} {pos p p2 p3 : Pos} {k : Nat} {y : Str}
theorem ei_c : EI prog w A env s (.Constant (.int i) k pos) i := fun _ _ _ q => wpAny_Constant_int (q _ _)
theorem ei_add (ha : EI prog w A env s e i) (hb : EI prog w A env s f j) : EI prog w A env s (.BinOp e .Add f pos) (i + j) := fun _ _ tk q => wpAny_BinOp (ha _ _ tk fun _ tk1 => hb _ _ tk1 fun _ _ => PyProof.Rows.add_int (q _ _))
theorem ei_mul (hc : CMul i j) (ha : EI prog w A env s e i) (hb : EI prog w A env s f j) : EI prog w A env s (.BinOp e .Mult f pos) (i * j) := fun _ _ tk q => wpAny_BinOp (ha _ _ tk fun _ tk1 => hb _ _ tk1 fun _ _ => PyProof.Rows.mul_int (q _ _) hc.ok)
theorem ei_mod (hc : 0 < j) (ha : EI prog w A env s e i) (hb : EI prog w A env s f j) : EI prog w A env s (.BinOp e .Mod f pos) (i % j) := fun _ _ tk q => wpAny_BinOp (ha _ _ tk fun _ tk1 => hb _ _ tk1 fun _ _ => mod_int' (by omega) (by rw [Int.fmod_eq_emod_of_nonneg i (by omega)]; exact q _ _))
theorem ei_free {c : Addr} {t : Tok} (hk : env.scope.kind = .function) (hx : env.kindOf y = some .free) (hc : env.cells.lookup y = some c) (hv : s.heap.IsCell c (some (.int i t))) (hcd : (y == ("__classdict__" : Str)) = false := by decide) (hd : (y == ("__debug__" : Str)) = false := by decide) : EI prog w A env s (.Name y pos) i := fun _ _ tk q =>
  wpAny_Name (wpAny_loadName_free (s := { s with toks := tk }) hk hx hc hv (q t tk) hcd) hd
theorem ei_at {m : Str → Option Value} {a : Addr} {its : Array Value} {n : Int} {jj : Nat} {t : Tok} (hk : env.scope.kind = .function) (hx : env.kindOf y = some .local) (hn : s.heap.Ns env.locals m) (hv : m y = some (.ref a)) (ht : IsTup s.heap a its) (hlo : -(2 ^ 63) ≤ n ∧ n < 2 ^ 63) (hj : seqIndex? n its.size = some jj) (hi : its[jj]? = some (.int i t)) (hd : (y == ("__debug__" : Str)) = false := by decide)
    : EI prog w A env s (.Subscript (.Name y p) (.Constant (.int n) k p2) pos) i := fun _ _ tk q =>
  Subscript_ (wpAny_Name (wpAny_loadName_local (s := { s with toks := tk }) hk hx hn hv (wpAny_Constant_int (item_tuple ht hlo.1 hlo.2 hj hi (q t _)))) hd)
theorem ei_lenAt {cpos : Pos} {m mg mb : Str → Option Value} {a : Addr} {its : Array Value} {n : Int} {jj : Nat} {t : Tok} {z : Str} (hk : env.scope.kind = .function) (hx : env.kindOf y = some .local) (hn : s.heap.Ns env.locals m) (hv : m y = some (.ref a)) (ht : IsTup s.heap a its) (hlo : -(2 ^ 63) ≤ n ∧ n < 2 ^ 63) (hj : seqIndex? n its.size = some jj) (hi : its[jj]? = some (.str z t)) (hz : z.length ≤ 1000)
    (hg : env.kindOf "len" = some .globalImplicit) (g1 : s.heap.Ns env.globals mg) (g2 : mg "len" = none) (g3 : s.heap.Ns env.builtins mb) (g4 : mb "len" = some (.builtin "len")) (hd : (y == ("__debug__" : Str)) = false := by decide)
    (hs : starEach [(.Subscript (.Name y p) (.Constant (.int n) k p2) pos : Expr)] env = [(false, eval (.Subscript (.Name y p) (.Constant (.int n) k p2) pos) env)] := by rfl) : EI prog w A env s (.Call (.Name "len" p3) [.Subscript (.Name y p) (.Constant (.int n) k p2) pos] [] cpos) (z.length : Int) := fun _ _ tk q => by
  refine wpAny_Call_Name_kw (Calls.Name_function_global (s := { s with toks := tk }) hk hg (Calls.loadGlobal_builtin g1 g2 g3 g4 ?_) (by decide))
  refine PyProof.Rows.callWith_builtin1 (e := .Subscript (.Name y p) (.Constant (.int n) k p2) pos) (rest := []) ?_ hs (by rfl)
  rw [hs]
  show wpAny _ _ (spliced ((false, eval (.Subscript (.Name y p) (.Constant (.int n) k p2) pos) env) :: [])) _ _ _
  exact Calls.spliced_cons (Subscript_ (wpAny_Name (wpAny_loadName_local hk hx hn hv (wpAny_Constant_int (item_tuple ht hlo.1 hlo.2 hj hi (Calls.spliced_nil (PyProof.Rows.len_str (by omega) (q _ _)))))) hd))
end
/-- a call of the lambda: the key, all that was there is kept -/
theorem lam_call {prog : Program} {w : World} {A : Around} {E : Value → Shared → Prop} {s : Shared} {f c' : Addr} {q y : Str} {params : Arguments} {body : Expr} {scope : Scope} {cl : List (Str × Addr)} {pm ctv v : Value} {key : Int}
    (hd : A.depth < recursionLimit) (fo : s.heap.get? f = some (kla_obj "<lambda>" q params body scope cl pm c' ctv)) (code : s.heap.CodeRec (.ref c') q) (lim : s.heap.NoLimit) (hk : scope.kind = .function) (co : scope.isCoroutine = false) (gen : scope.isGenerator = false)
    (nocell : ∀ x ∈ scope.names, x.2 ≠ .cell) (par : scope.names.lookup y = some .local) (hbind : bindArgs (kla_fn "<lambda>" q params body scope cl pm (.ref c') ctv) ⟨[v], []⟩ = pure [(y, v)])
    (hb : ∀ (B : Around) (h₁ : Heap), h₁.Ns s.heap.objs.size (fun x => [(y, v)].reverse.lookup x) → (∀ b o, s.heap.get? b = some o → h₁.get? b = some o) → EI prog w B (envX q scope s.heap.objs.size f (.ref c') cl) { s with heap := h₁ } body key) :
    wpAny (model prog w) A (call (.ref f) [v]) (KeyPure (.int key) s) E s := by
  refine wpAny_call (kla_callFunE hd fo rfl co gen rfl code ?_)
  rw [hbind]
  refine wpAny_pure (wpAny_newFunctionEnv nocell (fun x hx => by
    have e : x = (y, v) := by simpa using hx
    subst e
    exact par) (fun h₁ hns hsb => ⟨lim.fresh _ hsb, ?_⟩) hk)
  show codeAny _ _ (.expr body (envX q scope s.heap.objs.size f (.ref c') cl)) _ _
  have kp : ∀ b o, s.heap.get? b = some o → h₁.get? b = some o := fun b o e => hsb.extBut b o (Nat.ne_of_lt (Heap.lt_size e)) (Heap.get?_push_of_some _ e)
  refine kla_codeExpr (hb _ h₁ hns kp _ _ _ fun t tk' => ?_)
  exact ⟨h₁, tk', rfl, kp, .int key t⟩
end Hf

namespace Hf
open PySem PySem.Spec PyProof.Rows PySem.W PySem.Calls L2 ClX LamX NdefX
/-- a def's table of code objects -/
def oTab0 : Oc := ⟨fun _ o => o = .tbl #[], fun _ h => h⟩
def oTab : Oc := ⟨fun _ o => ∃ ps, o = .tbl ps, fun _ h => h⟩
abbrev lamQ (X : Cx) : Str := X.env.qual ++ "<lambda>"
section
variable {X : Cx} {pins : List (Addr × Obj)} {σ : L2.St} {H : Hp} {s : Shared}
/-- the first lambda of a def -/
theorem lam_first {c P : Addr} {params : Arguments} {body : Expr} {scope : Scope} {pos : Pos} {E Q : Value → Shared → Prop} (I : Inv X pins σ H s) (B : TabB X.base X.mg c P) (hcode : X.env.code = .ref c) (hP : H P = some (.tbl #[])) (hdef : defaultsOf params X.env = ([], []))
    (hfree : ∀ y ∈ scope.names, y.2 = .free → ∃ c, X.env.cells.lookup y.1 = some c)
    (h : ∀ (f c' : Addr) (pm ctv : Value) (more : Array Value) (s' : Shared), Inv X pins σ (upd (upd H P (.tbl more)) c' (CodeO c' (lamQ X))) s' → s'.heap.get? f = some (kla_obj "<lambda>" (lamQ X) params body scope (cloFrom X.env.cells scope.names []) pm c' ctv) → H c' = none → Q (.ref f) s') :
    wpAny (model X.prog X.w) X.A (eval (.Lambda params body scope pos) X.env) Q E s := by
  have at0 : s.heap.get? P = some { cls := .none, data := .fields #[] } := I.hok P _ hP
  have bt : s.heap.BuiltinsAt X.mg P := B.bm.keeps I.bk
  refine kla_eval hdef (kla_makeFunction (mg := X.mg) (c := c) (P := P) (ps := #[]) (closure_ok hfree) I.ok.glob (I.mod.glob.keeps I.bk) hcode (B.code.keeps I.bk) at0 True.intro (by simp [codeAmong]) B.gP bt ?_)
  intro c' ctv h' tk hx hge hlt hrec htb
  obtain ⟨c2, oc, us, t, e2, g1, g2, g3⟩ := hrec
  cases e2
  have J := inv_table (q := lamQ X) (t' := tk) (ps := #[]) (more := #[rawInt pos.line, rawInt pos.col, .ref c']) (h' := h'.push (kla_obj "<lambda>" (lamQ X) params body scope (cloFrom X.env.cells scope.names []) ((X.mg "__name__").getD .none) c' ctv)) I hP
    (fun b o hb e => Heap.get?_push_of_some _ (hx b o hb e)) (Heap.get?_push_of_some _ htb) hge ⟨oc, us, t, Heap.get?_push_of_some _ g1, g2, g3⟩
  exact h h'.objs.size c' ((X.mg "__name__").getD .none) ctv _ _ J (Heap.get?_push_size _ rfl) (I.hok.fresh hge)
end
/-- what the sort is told of an item -/
def Ri (K : PySem.W.Frag) {α : Type} (r : Rp α) (G : Hp) (u : Value) (t : α) : Prop := ∃ x : V, RelV x u ∧ r.rel G x t
theorem ri_each {K : PySem.W.Frag} {α : Type} {r : Rp α} {G : Hp} : ∀ {vs : List V} {us : List Value} {ts : List α}, Vals vs us → All2 r G vs ts → EachIs (Ri K r G) us ts
  | _, _, _, .nil, .nil => .nil
  | _, _, _, .cons h t, .cons k l => .cons ⟨_, h, k⟩ (ri_each t l)
theorem each_ri {K : PySem.W.Frag} {α : Type} {r : Rp α} {G : Hp} : ∀ {us : List Value} {ts : List α}, EachIs (Ri K r G) us ts → ∃ vs, Vals vs us ∧ All2 r G vs ts
  | _, _, .nil => ⟨[], .nil, .nil⟩
  | _, _, .cons ⟨x, h, k⟩ t => by
    obtain ⟨vs, h1, h2⟩ := each_ri t
    exact ⟨x :: vs, .cons h h1, .cons k h2⟩
/-- sorted(xs, key=lambda y: body) -/
def tSortLam (X : Cx) (P : Addr) {α : Type} (r : Rp α) (KEY : L2.St → α → Int → Prop) (te : TE) : TE := fun σ H Q => te σ H fun v H1 => ∃ (a : Addr) (vs : List V) (ts : List α) (key : α → Int) (G : Hp), v = .ref a ∧ SqL X.K H1 a vs ∧ All2 r G vs ts ∧ Ex G H1 ∧ H1 P = some (.tbl #[]) ∧ G P = none ∧ ts.length ≤ 1000 ∧ (∀ t ∈ ts, KEY σ t (key t)) ∧
  ∀ (more : Array Value) (c' p : Addr) (vs' : List V) (ts' : List α), ts'.Perm ts → All2 r G vs' ts' → H1 c' = none → upd (upd H1 P (.tbl more)) c' (CodeO c' (lamQ X)) p = none → Q (.ref p) (upd (upd (upd H1 P (.tbl more)) c' (CodeO c' (lamQ X))) p (.lst vs'))
theorem pe_sortLam {X : Cx} {α : Type} {r : Rp α} {KEY : L2.St → α → Int → Prop} {c P : Addr} {k : Nat} {params : Arguments} {body xs : Expr} {scope : Scope} {te : TE} {p kpos lpos pos : Pos} {y : Str} (hc : X.calm = true) (he : PE X xs te) (hr : Room (k + 3) X.A) (B : TabB X.base X.mg c P) (hcode : X.env.code = .ref c)
    (hg : Gl X "sorted") (hm : X.mg "sorted" = none) (hdef : defaultsOf params X.env = ([], [])) (hfree : ∀ y ∈ scope.names, y.2 = .free → X.env.scope.names.lookup y.1 = some .cell ∨ X.env.scope.names.lookup y.1 = some .free) (hk : scope.kind = .function) (co : scope.isCoroutine = false) (gen : scope.isGenerator = false) (nocell : ∀ x ∈ scope.names, x.2 ≠ .cell) (par : scope.names.lookup y = some .local)
    (hbind : ∀ (q : Str) (cl : List (Str × Addr)) (pm cv ctv v : Value), bindArgs (kla_fn "<lambda>" q params body scope cl pm cv ctv) ⟨[v], []⟩ = pure [(y, v)])
    (hbody : ∀ (pins : List (Addr × Obj)) (σ : L2.St) (H G : Hp) (s : Shared) (f c' : Addr) (u : Value) (x : V) (t : α) (n : Int) (h : Heap) (B : Around) (L : Addr) (h₁ : Heap) (tk : Nat), Inv X pins σ H s → Ex G H → RelV x u → r.rel G x t → KEY σ t n → (∀ b o, s.heap.get? b = some o → h₁.get? b = some o) → h₁.Ns L (fun x => [(y, u)].reverse.lookup x) →
      EI X.prog X.w B (envX (lamQ X) scope L f (.ref c') (cloFrom X.env.cells scope.names [])) { s with heap := h₁, toks := tk } body n)
    (hs1 : backTo pos (starEach (xs :: []) X.env) = (false, eval xs X.env) :: backTo pos (starEach [] X.env) := by rfl) (hpl : (backTo pos (starEach (xs :: []) X.env)).any (·.1) = false := by rfl) :
    PE X (.Call (.Name "sorted" p) [xs] [⟨some "key", .Lambda params body scope lpos, kpos⟩] pos) (tSortLam X P r KEY te) := by
  refine ⟨fun pins s σ H Q I h => ?_⟩
  refine wpAny_Call_Name_kw (ld_blt I hg hm (show bootBuiltins "sorted" = some (.builtin "sorted") by decide +kernel) ?_ (by decide) (by decide))
  refine PyProof.Rows.callWith_kw ?_ hs1 hpl (by rfl) (by rfl)
  rw [hs1]
  refine Calls.spliced_cons (thn (he.run pins s σ H _ I h) fun u s1 ⟨v, H1, I1, r1, a, vs, ts, key, G, ev, hl, hall, ex, hP, gP, hlen, hkey, q⟩ => ?_)
  subst ev
  cases r1
  refine Calls.spliced_nil ?_
  show wpAny _ _ (evalAll ((do let v ← eval (.Lambda params body scope lpos) X.env; standAt pos; pure v) :: [])) _ _ s1
  refine wpAny_evalAll_cons (wpAny_bind (lam_first I1 B hcode hP hdef (fun y hy e => (hfree y hy e).elim (fun z => I1.ok.has _ (.inl z)) fun z => I1.ok.has _ (.inr z)) fun f c' pm ctv more s2 I2 fo nc => wpAny_bind (wpAny_standAt (wpAny_pure (wpAny_evalAll_nil ?_)))))
  show wpAny _ _ (call (.builtin "sorted") [.ref a] [("key", .ref f)]) _ _ s2
  -- the list behind the making of the lambda
  have hPc : P ≠ c' := fun z => by subst z; rw [hP] at nc; cases nc
  have keepG : ∀ b o, G b = some o → upd (upd H1 P (.tbl more)) c' (CodeO c' (lamQ X)) b = some o := fun b o e => by
    have n1 : b ≠ P := fun z => by subst z; rw [gP] at e; cases e
    have n2 : b ≠ c' := fun z => by subst z; have w := ex _ _ e; rw [nc] at w; cases w
    rw [upd_ne n2, upd_ne n1]
    exact ex _ _ e
  have hl2 : SqL X.K (upd (upd H1 P (.tbl more)) c' (CodeO c' (lamQ X))) a vs := by
    rcases hl with (hl | ⟨ob, hl⟩) | hl
    · have n1 : a ≠ P := fun z => by subst z; rw [hP] at hl; cases hl
      have n2 : a ≠ c' := fun z => by subst z; rw [nc] at hl; cases hl
      exact .inl (.inl (by rw [upd_ne n2, upd_ne n1]; exact hl))
    · have n1 : a ≠ P := fun z => by subst z; rw [hP] at hl; cases hl
      have n2 : a ≠ c' := fun z => by subst z; rw [nc] at hl; cases hl
      exact .inl (.inr ⟨ob, by rw [upd_ne n2, upd_ne n1]; exact hl⟩)
    · exact .inr hl
  have q2 := q more c'
  clear q
  generalize hH2 : upd (upd H1 P (.tbl more)) c' (CodeO c' (lamQ X)) = H2 at *
  have hc' : H2 c' = some (CodeO c' (lamQ X)) := by rw [← hH2, upd_same]
  obtain ⟨its, rv, pl, hz⟩ := I2.list hl2
  have hun := hr.un
  refine sorted_key_data (b := false) (R := Ri X.K r G) (bs := ts) (fun t => .int (key t)) pl.isList (ri_each rv hall) (AllAlike.of fun _ _ => by simp [alike]) (Sortable.others fun _ => ⟨by simp, by simp⟩) (by rw [sizeLine_eq]; omega) (fun t _ => ?_) (ksk_s1 _ _) (fun _ => ksk_l1 _ _) (fun _ => ksk_t1 _ _) (fun u t ⟨x, rx, rt⟩ mt h tk kp => ?_) fun out cc h' tk kp _ hD hol eo => ?_
  · show X.A.units + 2 + PyData.depth (.int (key t)) < cLine
    simp only [PyData.depth]
    omega
  · have hcr : h.CodeRec (.ref c') (lamQ X) := by
      obtain ⟨c0, oc, us, t0, e0, g1, g2, g3⟩ := codeO_at I2.hok hc'
      exact ⟨c0, oc, us, t0, e0, kp _ _ g1, g2, g3⟩
    refine lam_call (s := { s2 with heap := h, toks := tk }) ?_ (kp _ _ fo) hcr (I2.nolimit.keeps kp) hk co gen nocell par (hbind _ _ _ _ _ _) fun B' h₁ hns kp2 => ?_
    · exact (hr.mono (j := 2 + 1) (by omega)).in1.in1.depth
    · exact hbody pins σ H2 G s2 f c' u x t (key t) h B' h.objs.size h₁ tk I2 keepG rx rt (hkey t mt) (fun b o e => kp2 b o (kp b o e)) hns
  · obtain ⟨vs', w1, w2⟩ := each_ri eo
    have pm := List.mergeSort_perm ts (dataLe false fun t => PyData.int (key t))
    have hl3 : vs'.length ≤ sizeLine := by rw [w2.length, pm.length_eq, sizeLine_eq]; omega
    exact ⟨.ref (s2.heap.objs.size + 1), upd H2 (s2.heap.objs.size + 1) (.lst vs'), I2.laid (t' := tk) (o := .lst vs') kp (Nat.le_succ _) ⟨hl3, out, cc, w1, hD⟩, rfl, q2 _ vs' _ pm w2 nc (I2.hok.fresh (Nat.le_succ _))⟩
end Hf

namespace Hf
open PySem PySem.Spec PyProof.Rows PySem.W PySem.Calls L2 ClX LamX NdefX
section
variable {X : Cx} {E : Ent} {Γ : List Slot} {D : Ends} {rest : List Stmt} {α : Type} {r : Rp α} {ts : List α} {KEY : L2.St → α → Int → Prop} {P : Addr} {params : Arguments} {body xs : Expr} {scope : Scope} {p kpos lpos pos spos py : Pos} {y0 : Str}
theorem bk_sortLam (i g : Nat) (key : α → Int) (nd : X.N.Nodup) (hpe : PE X (.Call (.Name "sorted" p) [xs] [⟨some "key", .Lambda params body scope lpos, kpos⟩] pos) (tSortLam X P r KEY (WE X xs))) (hg : Γ[g]? = some (.ow oTab0 (some P))) (he : Ev X Γ xs (rLst r) ts) (hlen : ts.length ≤ 1000)
    (hkey : ∀ (G H : Hp) (σ : L2.St), Holds E G H σ Γ → ∀ t ∈ ts, KEY σ t (key t)) (k : ∀ ts', ts'.Perm ts → Bk X E ((Γ.set g (.ow oTab (some P))).set i (.sh (rLst r) ts')) rest D) (hi : X.N[i]? = some y0 := by rfl) (hx : Loc X.env.scope y0 := by first | exact Or.inl rfl | exact Or.inr rfl)
    (hs : swapsWith (.Call (.Name "sorted" p) [xs] [⟨some "key", .Lambda params body scope lpos, kpos⟩] pos) (some (.Name y0 py)) spos.line X.env = pure false := by rfl) (hf : X.fn y0 = true ∨ X.env.scope.names.lookup y0 = some .local := by first | exact .inl rfl | exact .inr rfl) :
    Bk X E Γ (.Assign [.Name y0 py] (.Call (.Name "sorted" p) [xs] [⟨some "key", .Lambda params body scope lpos, kpos⟩] pos) spos :: rest) D :=
  bk_of (ps_set nd hi hx hpe hs hf) fun G H σ hh => he E G H σ hh _ fun v G1 H1 l1 ⟨a, vs, e1, ha, hall⟩ => by
    have hh1 := hh.step l1
    obtain ⟨P', o, w1, w2, w3, w4, w5⟩ := hh1.ow hg
    have eP : P' = P := w3.1
    subst eP
    have w5' : o = .tbl #[] := w5
    subst w5'
    refine ⟨a, vs, ts, key, G1, e1, .inl (.inl (l1.gh _ _ ha)), hall, l1.gh, w4, w2, hlen, hkey G H σ hh, fun more c' p vs' ts' pm hal nc np => ?_⟩
    have hm := hh1.mut hg w1 (c' := oTab) (o' := .tbl more) ⟨more, rfl⟩
    have ne : c' ≠ P' := fun z => by subst z; rw [w4] at nc; cases nc
    have l2 : Le G1 (upd H1 P' (.tbl more)) G1 (upd (upd H1 P' (.tbl more)) c' (CodeO c' (lamQ X))) := (Le.refl hm.le.gh).addO (by rw [upd_ne ne]; exact nc)
    have l3 := l2.add (p := p) (o := .lst vs') np
    have g0 : G1 p = none := Evl.fresh_back l2.gh np
    exact k ts' pm _ _ _ ((hm.step l3).set_sh ⟨p, vs', rfl, upd_same, hal.mono (Evl.Ex.new g0)⟩)
end
theorem Holds.ghost {G H : Hp} {σ : L2.St} {Γ : List Slot} {P : Addr} {o : HO} {c : Oc} (n : Nat) (h : Holds { G := G, H := H } G H σ Γ) (hno : ∀ (i : Nat) (s : Slot), Γ[i]? = some s → s.isOw = false) (gP : G P = none) (hP : H P = some o) (hc : c.rel G o) :
    Holds { G := G, H := H, M := fun a => a = P } G H (σ.set n (some (.ref P))) (Γ.set n (.ow c (some P))) := by
  have only : ∀ (i : Nat) (s : Slot), (Γ.set n (.ow c (some P)))[i]? = some s → s.isOw = true → i = n := fun i s q w => by
    rcases get_set q with ⟨e, _⟩ | ⟨_, q⟩
    · exact e.symm
    · rw [hno i s q] at w; cases w
  refine ⟨⟨.refl _, fun x u q => ?_, h.le.gh, fun x u q1 q2 => absurd (q1.symm.trans q2) (by simp), fun x q => ?_⟩, (fun a u q => by cases q), by rw [List.length_set, List.length_set]; exact h.len, fun i s q => ?_, fun i j s t q1 q2 o1 o2 _ => (only i s q1 o1).trans (only j t q2 o2).symm⟩
  · by_cases e : x = P
    · exact .inr ⟨e, u, q⟩
    · exact .inl ⟨e, q⟩
  · subst q; exact ⟨gP, o, hP⟩
  · have q0 := q
    rcases get_set q with ⟨rfl, rfl⟩ | ⟨ne, q⟩
    · have lt : n < σ.length := by
        rw [h.len]
        have z := (List.getElem?_eq_some_iff.mp q0).1
        rwa [List.length_set] at z
      exact ⟨P, o, by rw [List.getElem?_set_self lt], gP, ⟨rfl, rfl⟩, hP, hc⟩
    · rw [List.getElem?_set_ne ne]
      have z := h.ok i s q
      have no := hno i s q
      cases s with
      | no => trivial
      | sh r a => exact z
      | ow c' q' => cases no
section
variable {P : Program} {w : World} {K : PySem.W.Frag} {mg : Str → Option Value} {base : Heap} {x qual : Str} {params : Arguments} {body : List Stmt} {scope : Scope} {dvs : List V} {kws : List (Str × V)} {fd : FuncData} {at_ : He.Defn}
/-- a def of which the code object is known -/
theorem fn_code {CX : CXT} {N ps : List Str} {k : Nat} {sp : Sp} (F : FunD K x qual params body scope dvs kws (He.fAd K at_) fd) (S : FnScope N ps scope) (len : ∀ vs H Q E, sp vs H Q E → vs.length = ps.length)
    (hb : ∀ (A : Around) (outer : List Env) (s : Shared) (H : Hp) (vs : List V) (Q : VK) (E : XK), Room k (A.deeper (envOfC qual scope s.heap.objs.size (He.fAd K at_) (.ref (He.codeOf K at_)))) → sp vs H Q E →
      ∃ t, PSs (cxOf CX P w K mg base N qual scope (He.fAd K at_) (.ref (He.codeOf K at_)) A outer s H E) body t ∧ t { nx := fun _ H' => Q .non H', rt := Q } (L2.start N vs) H) : FnOk P w K mg base CX (k + 1) (He.fAd K at_) fd ps sp := by
  obtain ⟨oc, od, dV, kV, doc, pm, an, cdv, ct, osl, rfl, lk, hcd, _, _⟩ := F.ex
  obtain ⟨c, rfl⟩ := He.codeIn_ref hcd
  have ec : He.codeOf K at_ = c := He.codeOf_eq lk rfl
  rw [ec] at hb
  exact fn_of lk hcd S len fun A outer s H vs Q E hr hsp => hb A outer s H vs Q E hr hsp
end
/-! ### the lambda's key: (c + 31 * t[2] + 7 * len(t[0])) * 48271 % 1009 -/
def keyOf6 (c : Int) (t : Tal) : Int := (c + 31 * t.2.2 + 7 * (t.1.length : Int)) * 48271 % 1009
theorem key_body {X : Cx} {pins : List (Addr × Obj)} {σ : L2.St} {H G : Hp} {s : Shared} {f c' L : Addr} {u : Value} {x : V} {t : Tal} {h₁ : Heap} {tk ic : Nat} {A : Around} {scope : Scope} {y z : Str} {cell : Int} {p1 p2 p3 p4 p5 p6 p7 p8 p9 q1 q2 q3 q4 q5 q6 q7 q8 q9 q10 : Pos} {k1 k2 k3 k4 k5 k6 : Nat}
    (I : Inv X pins σ H s) (ex : Ex G H) (ru : RelV x u) (rt : (rT3 X.K rStr rStr rInt).rel G x t) (hσ : σ[ic]? = some (some (.int cell))) (hl : t.1.length ≤ 1000) (kp : ∀ b o, s.heap.get? b = some o → h₁.get? b = some o) (hns : h₁.Ns L (fun x => [(y, u)].reverse.lookup x))
    (hk : scope.kind = .function) (hy : scope.names.lookup y = some .local) (hz : scope.names.lookup z = some .free) (hlen : (envX (lamQ X) scope L f (.ref c') (cloFrom X.env.cells scope.names [])).kindOf "len" = some .globalImplicit) (hm : X.mg "len" = none)
    (hfree : ∀ y ∈ scope.names, y.2 = .free → X.env.scope.names.lookup y.1 = some .cell ∨ X.env.scope.names.lookup y.1 = some .free) (hN : X.N[ic]? = some z)
    (hky : (envX (lamQ X) scope L f (.ref c') (cloFrom X.env.cells scope.names [])).kindOf y = some .local) (hkz : (envX (lamQ X) scope L f (.ref c') (cloFrom X.env.cells scope.names [])).kindOf z = some .free)
    (hcd : (z == ("__classdict__" : Str)) = false := by decide) (hdz : (z == ("__debug__" : Str)) = false := by decide) (hdy : (y == ("__debug__" : Str)) = false := by decide) :
    EI X.prog X.w A (envX (lamQ X) scope L f (.ref c') (cloFrom X.env.cells scope.names [])) { s with heap := h₁, toks := tk }
      (.BinOp (.BinOp (.BinOp (.BinOp (.Name z p1) .Add (.BinOp (.Constant (.int 31) k1 p2) .Mult (.Subscript (.Name y p3) (.Constant (.int 2) k2 p4) p5) p6) p7) .Add (.BinOp (.Constant (.int 7) k3 p8) .Mult (.Call (.Name "len" p9) [.Subscript (.Name y q1) (.Constant (.int 0) k4 q2) q3] [] q4) q5) q6) .Mult (.Constant (.int 48271) k5 q7) q8) .Mod (.Constant (.int 1009) k6 q9) q10) (keyOf6 cell t) := by
  obtain ⟨b, v1, v2, v3, e1, hp, r1, r2, r3⟩ := rt
  subst e1
  have er1 : v1 = .str t.1 := r1
  have er2 : v2 = .str t.2.1 := r2
  have er3 : v3 = .int t.2.2 := r3
  subst er1 er2 er3
  obtain rfl : u = Value.ref b := ru
  obtain ⟨its, rv, ht, _⟩ := I.tuple (Evl.ex_t ex hp)
  obtain ⟨t1, t2, t3, rfl⟩ : ∃ t1 t2 t3, its = [Value.str t.1 t1, Value.str t.2.1 t2, Value.int t.2.2 t3] := by
    cases rv with
    | cons a rv =>
      cases rv with
      | cons b rv =>
        cases rv with
        | cons c rv =>
          cases rv
          obtain ⟨x1, rfl⟩ := a
          obtain ⟨x2, rfl⟩ := b
          obtain ⟨x3, rfl⟩ := c
          exact ⟨_, _, _, rfl⟩
  have ht1 : IsTup h₁ b [Value.str t.1 t1, Value.str t.2.1 t2, Value.int t.2.2 t3].toArray := by
    obtain ⟨o, w1, w2, n, w3⟩ := ht
    exact ⟨o, kp _ _ w1, w2, n, w3⟩
  have cp := Caps.made (X := X) (fr := [z]) (js := [ic]) I.ok hfree (fun y hy => by
    have e : y = z := by simpa using hy
    subst e
    exact PySem.mem_of_lookup hz) (by simp [hN])
  obtain ⟨cc, hcc, hv⟩ := (cells_of I cp).has 0 z rfl
  obtain ⟨uc, ruc, hcell⟩ := hv (.int cell) (by simp [slotAt_of hσ])
  obtain ⟨tc, rfl⟩ := ruc
  have hc1 : h₁.IsCell cc (some (.int cell tc)) := by
    obtain ⟨o, w1, w2⟩ := hcell
    exact ⟨o, kp _ _ w1, w2⟩
  obtain ⟨mb, b1, b2⟩ := I.mod.blt
  have hv : (fun x => [(y, Value.ref b)].reverse.lookup x) y = some (Value.ref b) := by simp [List.lookup]
  unfold keyOf6
  have a1 := ei_free (prog := X.prog) (w := X.w) (A := A) (s := { s with heap := h₁, toks := tk }) (pos := p1) hk hkz hcc hc1 hcd hdz
  have a2 : EI X.prog X.w A (envX (lamQ X) scope L f (.ref c') (cloFrom X.env.cells scope.names [])) { s with heap := h₁, toks := tk } (.Subscript (.Name y p3) (.Constant (.int 2) k2 p4) p5) t.2.2 := ei_at hk hky hns hv ht1 (by decide) (jj := 2) (by rfl) (by rfl) hdy
  have hs : starEach [(.Subscript (.Name y q1) (.Constant (.int 0) k4 q2) q3 : Expr)] (envX (lamQ X) scope L f (.ref c') (cloFrom X.env.cells scope.names [])) = [(false, eval (.Subscript (.Name y q1) (.Constant (.int 0) k4 q2) q3) (envX (lamQ X) scope L f (.ref c') (cloFrom X.env.cells scope.names [])))] := by rfl
  have hbl : mb "len" = some (.builtin "len") := (b2 "len" (by decide)).trans PySem.boot_len
  have g1 : h₁.Ns mainGlobals X.mg := (I.mod.glob.keeps I.bk).keeps kp
  have g3 : h₁.Ns builtinsNs mb := (b1.keeps I.bk).keeps kp
  have hj : seqIndex? 0 [Value.str t.1 t1, Value.str t.2.1 t2, Value.int t.2.2 t3].toArray.size = some 0 := by rfl
  have hi : [Value.str t.1 t1, Value.str t.2.1 t2, Value.int t.2.2 t3].toArray[0]? = some (.str t.1 t1) := by rfl
  have a3 := ei_lenAt (cpos := q4) (prog := X.prog) (w := X.w) (A := A) (s := { s with heap := h₁, toks := tk }) (pos := q3) (p := q1) (p2 := q2) (p3 := p9) (k := k4) (z := t.1) hk hky hns hv ht1 (by decide) hj hi hl hlen g1 hm g3 hbl hdy hs
  exact ei_mod (by decide) (ei_mul (.inr (by decide)) (ei_add (ei_add a1 (ei_mul (.inl (by decide)) ei_c a2)) (ei_mul (.inl (by decide)) ei_c a3)) ei_c) ei_c
end Hf

namespace Hf
open PySem PySem.Spec PyProof.Rows L2
/-! ### k06, the plain law -/
def dgt (c k : Int) : Int := (numbersL c [(4 : Int), (4 : Int), (12 : Int), (8 : Int)]).getD k.toNat 0
def talOf (c : Int) : Tal := (lawHands.getD (dgt c 0).toNat Str.empty, lawLeaves.getD (dgt c 1).toNat Str.empty, if decide (dgt c 3 < (6 : Int)) = true then dgt c 2 else [(0 : Int), (1000 : Int)].getD (dgt c 3 - (6 : Int)).toNat 0)
def talStep (script : List Int) (s : List Tal) (k : Int) : List Tal := s ++ [talOf (cellAt script (1 + k % 40))]
def talsL (script : List Int) : List Tal := (rangeL 0 (cellAt script 0 % 41).toNat).foldl (talStep script) []
theorem dgt_eq (c : Int) : numbersL c [(4 : Int), (4 : Int), (12 : Int), (8 : Int)] = [restOf c % 4, restOf c / 4 % 4, restOf c / 4 / 4 % 12, restOf c / 4 / 4 / 12 % 8] := rfl
theorem dgt_ok (c : Int) : (0 ≤ dgt c 0 ∧ dgt c 0 < 4) ∧ (0 ≤ dgt c 1 ∧ dgt c 1 < 4) ∧ (0 ≤ dgt c 2 ∧ dgt c 2 < 12) ∧ (0 ≤ dgt c 3 ∧ dgt c 3 < 8) := by
  have e0 : dgt c 0 = restOf c % 4 := rfl
  have e1 : dgt c 1 = restOf c / 4 % 4 := rfl
  have e2 : dgt c 2 = restOf c / 4 / 4 % 12 := rfl
  have e3 : dgt c 3 = restOf c / 4 / 4 / 12 % 8 := rfl
  rw [e0, e1, e2, e3]
  omega
theorem dgt_ix {c k : Int} (h : 0 ≤ k ∧ k < 4 := by decide) : 0 ≤ k ∧ k < ((numbersL c [(4 : Int), (4 : Int), (12 : Int), (8 : Int)]).length : Int) := by
  rw [dgt_eq]
  exact h
theorem many_ok (c : Int) : 0 ≤ (if decide (dgt c 3 < (6 : Int)) = true then dgt c 2 else [(0 : Int), (1000 : Int)].getD (dgt c 3 - (6 : Int)).toNat 0) ∧ (if decide (dgt c 3 < (6 : Int)) = true then dgt c 2 else [(0 : Int), (1000 : Int)].getD (dgt c 3 - (6 : Int)).toNat 0) ≤ 1000 := by
  have h := dgt_ok c
  split
  · omega
  · rename_i q
    have q1 : ¬ dgt c 3 < 6 := by simpa using q
    have : (dgt c 3 - 6).toNat = 0 ∨ (dgt c 3 - 6).toNat = 1 := by omega
    rcases this with e | e <;> rw [e] <;> decide
theorem getD_in {α : Type} {l : List α} {n : Nat} {d : α} (h : n < l.length) : l.getD n d ∈ l := by
  rw [List.getD_eq_getElem?_getD, List.getElem?_eq_getElem h]
  exact List.getElem_mem h
theorem talOf_ok (c : Int) : TalOk (talOf c) := by
  have h := dgt_ok c
  have m := many_ok c
  refine ⟨getD_in (by show (dgt c 0).toNat < 4; omega), getD_in (by show (dgt c 1).toNat < 4; omega), m.1, m.2⟩
theorem tals_fold (script : List Int) : ∀ (ks : List Int) (s : List Tal), ks.foldl (talStep script) s = s ++ ks.map fun k => talOf (cellAt script (1 + k % 40))
  | [], s => by simp
  | k :: ks, s => by rw [List.foldl_cons, tals_fold script ks]; simp [talStep]
theorem tals_ok (script : List Int) : ∀ t ∈ talsL script, TalOk t := by
  intro t ht
  unfold talsL at ht
  rw [tals_fold] at ht
  simp only [List.nil_append, List.mem_map] at ht
  obtain ⟨k, _, rfl⟩ := ht
  exact talOf_ok _
theorem tals_len (script : List Int) : (talsL script).length ≤ 40 := by
  unfold talsL
  rw [tals_fold]
  simp [rangeL]
  omega
theorem tals_st {script : List Int} {i : Nat} {s : List Tal} {n : Nat} (e : s = ((rangeL 0 n).take i).foldl (talStep script) []) (hn : n ≤ 41) : s.length + 1 ≤ 1000 := by
  rw [e, tals_fold]
  simp [rangeL]
  omega
theorem hand_name {u : Str} (h : u ∈ lawHands) : isNameB u = true ∧ u.length ≤ 1000 ∧ PyData.strOk u = true := by
  simp only [lawHands, List.mem_cons, List.not_mem_nil, or_false] at h
  rcases h with rfl | rfl | rfl | rfl <;> exact ⟨by decide +kernel, by decide +kernel, by decide +kernel⟩
theorem leaf_name {u : Str} (h : u ∈ lawLeaves) : isNameB u = true ∧ u.length ≤ 1000 ∧ PyData.strOk u = true := by
  simp only [lawLeaves, List.mem_cons, List.not_mem_nil, or_false] at h
  rcases h with rfl | rfl | rfl | rfl <;> exact ⟨by decide +kernel, by decide +kernel, by decide +kernel⟩
theorem tal_is {t : Tal} (h : TalOk t) : (isNameB t.1 && (isNameB t.2.1 && isNum t.2.2 0 1000)) = true := by
  obtain ⟨h1, h2, h3, h4⟩ := h
  rw [(hand_name h1).1, (leaf_name h2).1]
  simp [isNum, h3, h4]
def TalsOk (ts : List Tal) : Prop := (∀ t ∈ ts, TalOk t) ∧ ts.length ≤ 46
theorem tals_all {ts : List Tal} (h : TalsOk ts) : ((ts.map fun _ : Tal => true).all id) = true := by simp
theorem most_few {ts : List Tal} (h : TalsOk ts) {i : Nat} : ((ts.take i).foldl mostStep []).length ≤ 46 := by
  have := most_len (ts.take i) []
  have h2 := h.2
  rw [List.length_take] at this
  simp only [List.length_nil] at this
  omega
theorem mostL_few {ts : List Tal} (h : TalsOk ts) : (mostL ts).length ≤ 46 := by
  have := most_len ts []
  have h2 := h.2
  simp only [List.length_nil] at this
  unfold mostL
  omega
theorem joined_is {ts : List Tal} (h : TalsOk ts) : joinedL ts = dueL lawHands ts := joinedL_due lawHands_nodup fun t ht => (h.1 t ht).1
theorem found_len (m : List ((Str × Str) × Int)) : ∀ (ks : List (Str × Str)) (d : List (Str × Int)), (ks.foldl (foundStep m) d).length ≤ d.length + ks.length
  | [], d => by simp
  | k :: ks, d => by
    have := found_len m ks (foundStep m d k)
    have e : (foundStep m d k).length ≤ d.length + 1 := kPut_len
    rw [List.foldl_cons, List.length_cons]
    omega
theorem most_some {ts : List Tal} {n : Nat} {k : Str × Str} (h : (sortQ ((mostL ts).map (·.1)))[n]? = some k) : kGet (mostL ts) k = some ((kGet (mostL ts) k).getD 0) := by
  have hm : k ∈ (mostL ts).map (·.1) := (sortQ_ok _).1.mem_iff.mp (List.mem_of_getElem? h)
  cases e : kGet (mostL ts) k with
  | none => exact absurd hm (kGet_none.mp e)
  | some a => rfl
theorem due_len (hs : List Str) (ts : List Tal) : ∀ (ls : List Str) (d : List (Str × Int)), (ls.foldl (fun d l => dPut d l (sumOf hs ts l)) d).length ≤ d.length + ls.length
  | [], d => by simp
  | l :: ls, d => by
    have := due_len hs ts ls (dPut d l (sumOf hs ts l))
    have e : (dPut d l (sumOf hs ts l)).length ≤ d.length + 1 := kPut_len
    rw [List.foldl_cons, List.length_cons]
    omega
theorem strict_self {ts : List Tal} : eqDI (dueL lawHands ts) (dueL lawHands ts) = true := eqDI_self (strict_nodup due_strict)
theorem due_keys_ok {ts : List Tal} (h : TalsOk ts) : ∀ z ∈ (dueL lawHands ts).map (·.1), PyData.strOk z = true := fun z hz => by
  have hm := due_mem.mp hz
  obtain ⟨t, ht, rfl⟩ := List.mem_map.mp hm
  exact (leaf_name (h.1 t ht).2.1).2.2
theorem due_few {ts : List Tal} (h : TalsOk ts) : (dueL lawHands ts).length ≤ 46 := by
  have := due_len lawHands ts (sortT (ts.map (·.2.1))) []
  have e := (sortT_perm (ts.map (·.2.1))).1.length_eq
  rw [List.length_map] at e
  simp only [List.length_nil] at this
  have := h.2
  show (List.foldl _ [] _).length ≤ 46
  omega
/-! == of lists of tallies -/
theorem dpAll_tals {K : PySem.W.Frag} {G : Hp} : ∀ {vs : List V} {ts : List Tal}, All2 (rT3 K rStr rStr rInt) G vs ts → DpAll K G vs (ts.map pdTal)
  | _, _, .nil => .nil
  | _, _, .cons h t => by
    obtain ⟨p, v1, v2, v3, e, hp, h1, h2, h3⟩ := h
    cases e; cases h1; cases h2; cases h3
    exact .cons (.tup hp (.cons (.str _) (.cons (.str _) (.cons (.int _) .nil)))) (dpAll_tals t)
theorem eqv_tals {K : PySem.W.Frag} {ts : List Tal} (h : ∀ t ∈ ts, TalOk t) : Eqv K (rLst (rT3 K rStr rStr rInt)) ts (.list (ts.map pdTal)) := ⟨fun G v ⟨p, vs, e, h, h2⟩ => by
  subst e
  exact .lst (.inl (.inl h)) (dpAll_tals h2), by
  have z : ∀ l : List Tal, (∀ t ∈ l, TalOk t) → PyData.canLayAll0 (l.map pdTal) = true := fun l => by
    induction l with
    | nil => intro _; rfl
    | cons a l ih =>
      intro h
      have ha := h a List.mem_cons_self
      simp [PyData.canLayAll0, pdTal, PyData.canLay0, ih (fun z m => h z (List.mem_cons_of_mem _ m)), (hand_name ha.1).2.2, (leaf_name ha.2.1).2.2]
  have d : ∀ l : List Tal, PyData.depthAll (l.map pdTal) ≤ 4 := fun l => by
    induction l with
    | nil => simp [PyData.depthAll]
    | cons a l ih => simp [PyData.depthAll, pdTal, PyData.depth]; omega
  unfold SeqAt.shaped
  have := d ts
  simp only [PyData.canLay0, z ts h, PyData.depth, Bool.true_and]
  exact decide_eq_true (by omega)⟩
theorem tals_eqv : ∀ {ts : List Tal}, PyData.eqv (.list (ts.map pdTal)) (.list (ts.map pdTal)) = true := fun {ts} => by
  have z : ∀ l : List Tal, PyData.eqvAll (l.map pdTal) (l.map pdTal) = true := fun l => by
    induction l with
    | nil => rfl
    | cons a l ih => simp [PyData.eqvAll, ih, pdTal, PyData.eqv]
  exact z ts
theorem again_ok {ts us : List Tal} (h : TalsOk ts) (hl : ts.length ≤ 40) (p : us.Perm ts) {i : Int} (hi : 0 ≤ i ∧ i < 7) : TalsOk (us ++ cutL ts none (some i)) := by
  rw [cutL_to hi.1]
  refine ⟨fun t ht => ?_, ?_⟩
  · rcases List.mem_append.mp ht with m | m
    · exact h.1 t (p.mem_iff.mp m)
    · exact h.1 t (List.mem_of_mem_take m)
  · rw [List.length_append, p.length_eq, List.length_take]
    omega
theorem again_eq {ts us : List Tal} (p : us.Perm ts) {i : Int} (hi : 0 ≤ i ∧ i < 7) : dueL lawHands (us ++ cutL ts none (some i)) = dueL lawHands ts := by
  rw [cutL_to hi.1]
  exact due_ext fun t => mem_again p _ t
theorem cut_ok {ts : List Tal} (h : TalsOk ts) {i : Int} (hi : 0 ≤ i) : TalsOk (cutL ts none (some i)) := by
  rw [cutL_to hi]
  exact ⟨fun t ht => h.1 t (List.mem_of_mem_take ht), by rw [List.length_take]; have := h.2; omega⟩
theorem rev_ok {ts : List Tal} (h : TalsOk ts) : TalsOk ts.reverse := ⟨fun t ht => h.1 t (List.mem_reverse.mp ht), by rw [List.length_reverse]; exact h.2⟩
theorem rev_eq {ts : List Tal} : dueL lawHands ts.reverse = dueL lawHands ts := due_ext fun t => mem_rev t
end Hf

namespace Hf
open PySem PySem.Spec PyProof.Rows L2 ClX
def top (i : Nat) : Stmt := PySem.Challenge.pw_howfar_k06_hands.main.body.getD i (.Pass ⟨0, 0, 0, 0⟩)
structure Facts (K : PySem.W.Frag) (mg : Str → Option Value) : Prop where
  f_len : mg "len" = none
  f_all : mg "all" = none
  f_any : mg "any" = none
  f_isinstance : mg "isinstance" = none
  f_tuple : mg "tuple" = none
  f_list : mg "list" = none
  f_dict : mg "dict" = none
  f_int : mg "int" = none
  f_str : mg "str" = none
  f_bool : mg "bool" = none
  f_range : mg "range" = none
  f_max : mg "max" = none
  f_sorted : mg "sorted" = none
  g_LONGEST : ∃ t, mg "LONGEST" = some (.int 8 t)
  g_STEPS : ∃ t, mg "STEPS" = some (.int 1000 t)
  g_LETTERS : ∃ t, mg "LETTERS" = some (.str letters t)
section
variable {P : Program} {w : World} {K : PySem.W.Frag} {mg : Str → Option Value} {base : Heap}
abbrev s_is_number : Stmt := top 7
theorem sc_is_number : FnScope ["thing", "least", "most"] ["thing", "least", "most"] (defScope s_is_number) := ⟨rfl, rfl, rfl, by decide +kernel, rfl, by decide +kernel, by decide +kernel⟩
abbrev sp_is_number (K : PySem.W.Frag) : Sp := PSp (fun y : Int × Int × Int => True) (fun y => [⟨rInt, y.1⟩, ⟨rInt, y.2.1⟩, ⟨rInt, y.2.2⟩]) rBool (fun y => isNum y.1 y.2.1 y.2.2)
theorem ok_is_number {f : Addr} {fd : FuncData} (F : FunD K "is_number" "is_number" (defArgs s_is_number) (defBody s_is_number) (defScope s_is_number) [] [] f fd) (T : Facts K mg)  : FnOk P w K mg base (CXL P w) 1 f fd ["thing", "least", "most"] (sp_is_number K) := by
  refine fn_pure F sc_is_number (fun _ => rfl) fun y hp cdv A outer s H E0 G D hr hret hnx => ?_
  obtain ⟨thing, least, most⟩ := y
  try dsimp only at hp hret hnx
  exact bk_ret (x := (true && ((!false) && (decide (least ≤ thing) && decide (thing ≤ most))))) (ev_and (ev_isi (T := "int") (C := "int") (b := true) (ev_v 0) kind_int (by decide +kernel) T.f_isinstance T.f_int (by decide +kernel)) (fun q1 => (ev_and (ev_not (ev_isi (T := "int") (C := "bool") (b := false) (ev_v 0) kind_int (by decide +kernel) T.f_isinstance T.f_bool (by decide +kernel))) (fun q2 => (ev_one (ev_chain op_le op_le (ev_v 1) (ev_v 0) (fun q3 => (ev_v 2)) gv_le (fun _ => gv_le))))))) (hret.eq (by simp [isNum]))
abbrev s_is_name : Stmt := top 8
theorem sc_is_name : FnScope ["name", "sign"] ["name"] (defScope s_is_name) := ⟨rfl, rfl, rfl, by decide +kernel, rfl, by decide +kernel, by decide +kernel⟩
abbrev sp_is_name (K : PySem.W.Frag) : Sp := PSp (fun y : Str => y.length ≤ 1000) (fun y => [⟨rStr, y⟩]) rBool (fun y => isNameB y)
theorem ok_is_name {f : Addr} {fd : FuncData} (F : FunD K "is_name" "is_name" (defArgs s_is_name) (defBody s_is_name) (defScope s_is_name) [] [] f fd) (T : Facts K mg)  : FnOk P w K mg base (CXL P w) 1 f fd ["name"] (sp_is_name K) := by
  refine fn_pure F sc_is_name (fun _ => rfl) fun name hp cdv A outer s H E0 G D hr hret hnx => ?_
  try dsimp only at hp hret hnx
  exact bk_ret (x := (true && ((decide ((1 : Int) ≤ (name.length : Int)) && decide ((name.length : Int) ≤ (8 : Int))) && (((signs name).map (fun q4 : Str => (inS q4 letters))).all id)))) (ev_and (ev_isi (T := "str") (C := "str") (b := true) (ev_v 0) kind_str (by decide +kernel) T.f_isinstance T.f_str (by decide +kernel)) (fun q1 => (ev_and (ev_chain op_le op_le ev_int (ev_lenT (u := name) (ev_v 0) (Evl.sz_of (by omega)) T.f_len) (fun q2 => (ev_gint T.g_LONGEST)) gv_le (fun _ => gv_le)) (fun q3 => (ev_one (ev_all (EvO.bor (eo_lcm (val := fun q4 : Str => (inS q4 letters)) [("sign", 1)] sc_is_name.nd (ei_str (ev_v 0)) (blkOk_by (N := ["name", "sign"]) (sc := defScope s_is_name) (by decide +kernel)) (fun _ => (tg_name 1 sc_is_name.nd)) (fun _ q4 q5 => (ev_inS (u := q4) (v := letters) (signs_one q5) (ev_v 1) (ev_gstr T.g_LETTERS))) (by simp [signs]; exact Nat.le_trans hp (by decide)))) T.f_all)))))) (hret.eq rfl)
abbrev s_is_tally : Stmt := top 10
theorem sc_is_tally : FnScope ["tally"] ["tally"] (defScope s_is_tally) := ⟨rfl, rfl, rfl, by decide +kernel, rfl, by decide +kernel, by decide +kernel⟩
abbrev sp_is_tally (K : PySem.W.Frag) : Sp := PSp (fun y : (Str × Str × Int) => TalOk y) (fun y => [⟨(rT3 K rStr rStr rInt), y⟩]) rBool (fun y => true)
theorem ok_is_tally {f : Addr} {fd : FuncData} (F : FunD K "is_tally" "is_tally" (defArgs s_is_tally) (defBody s_is_tally) (defScope s_is_tally) [] [] f fd) (T : Facts K mg) (h_is_number : Has P w K mg base "is_number" 1 (sp_is_number K)) (h_is_name : Has P w K mg base "is_name" 1 (sp_is_name K)) : FnOk P w K mg base (CXL P w) 2 f fd ["tally"] (sp_is_tally K) := by
  refine fn_pure F sc_is_tally (fun _ => rfl) fun tally hp cdv A outer s H E0 G D hr hret hnx => ?_
  try dsimp only at hp hret hnx
  refine bk_if (p := ((!true) || (!decide ((3 : Int) = (3 : Int))))) (et_bool (ew_or (et_not (et_val (ev_isi (T := "tuple") (C := "tuple") (b := true) (ev_v 0) kind_T3 (by decide +kernel) T.f_isinstance T.f_tuple (by decide +kernel)))) (fun q1 => (ew_or1 (et_neI (ev_lenT3 (ev_v 0) T.f_len) ev_int))))) (fun c_1 => ?_) (fun c_1 => ?_)
  · exact bk_ret (x := false) ev_bool (hret.eq (absurd c_1 (by simp)))
  · refine bk_then ?_
    exact bk_ret (x := ((isNameB tally.1) && ((isNameB tally.2.1) && (isNum tally.2.2 (0 : Int) (1000 : Int))))) (ev_and (ev_call h_is_name hr (by first | decide | omega) tally.1 (hand_name hp.1).2.1 (ea_cons (ev_t3a (ev_v 0)) ea_nil)) (fun q2 => (ev_and (ev_call h_is_name hr (by first | decide | omega) tally.2.1 (leaf_name hp.2.1).2.1 (ea_cons (ev_t3b (ev_v 0)) ea_nil)) (fun q3 => (ev_one (ev_call h_is_number hr (by first | decide | omega) (tally.2.2, (0 : Int), (1000 : Int)) trivial (ea_cons (ev_t3c (ev_v 0)) (ea_cons ev_int (ea_cons (ev_gint T.g_STEPS) ea_nil))))))))) (hret.eq (tal_is hp).symm)
abbrev s_joined : Stmt := top 11
theorem sc_joined : FnScope ["tallies", "tally", "most", "hand", "leaf", "many", "found"] ["tallies"] (defScope s_joined) := ⟨rfl, rfl, rfl, by decide +kernel, rfl, by decide +kernel, by decide +kernel⟩
abbrev sp_joined (K : PySem.W.Frag) : Sp := OSp (fun y : List Tal => TalsOk y) (fun y => [⟨rLst (rT3 K rStr rStr rInt), y⟩]) (fun y => oDic rInt (dueL lawHands y))
theorem ok_joined {f : Addr} {fd : FuncData} (F : FunD K "joined" "joined" (defArgs s_joined) (defBody s_joined) (defScope s_joined) [] [] f fd) (T : Facts K mg) (h_is_tally : Has P w K mg base "is_tally" 2 (sp_is_tally K)) : FnOk P w K mg base (CXL P w) 4 f fd ["tallies"] (sp_joined K) := by
  refine fn_own F sc_joined (fun _ => rfl) fun ts hp cdv A outer s H E0 G D hr hret => ?_
  try dsimp only at hp hret
  refine bk_if (p := ((!true) || (!((ts.map (fun q2 : (Str × Str × Int) => (true))).all id)))) (et_bool (ew_or (et_not (et_val (ev_isi (T := "list") (C := "list") (b := true) (ev_v 0) kind_lst (by decide +kernel) T.f_isinstance T.f_list (by decide +kernel)))) (fun q1 => (ew_or1 (et_not (et_val (ev_all (EvO.bor (eo_lcm (val := fun q2 : (Str × Str × Int) => (true)) [("tally", 1)] sc_joined.nd (ei_lst (ev_v 0)) (blkOk_by (N := ["tallies", "tally", "most", "hand", "leaf", "many", "found"]) (sc := defScope s_joined) (by decide +kernel)) (fun _ => (tg_name 1 sc_joined.nd)) (fun _ q2 q3 => (ev_call h_is_tally hr (by first | decide | omega) q2 (hp.1 _ q3) (ea_cons (ev_v 1) ea_nil))) (by have := hp.2; omega))) T.f_all))))))) (fun c_1 => absurd c_1 (by simp)) (fun _ => ?_)
  refine bk_then ?_
  refine bk_setO 2 sc_joined.nd (eo_dnewT (r := rInt)) ?_
  refine bk_for (fun s : List ((Str × Str) × Int) => [.sh (rLst (rT3 K rStr rStr rInt)) ts, .no, .ow (oDkt rInt s) none, .no, .no, .no, .no]) (fun i s => s = (ts.take i).foldl mostStep []) [] (passes_of rfl) (ei_lst (ev_v 0)) (tg_tup3 (tg_name 3 sc_joined.nd) (tg_name 4 sc_joined.nd) (tg_name 5 sc_joined.nd)) rfl (fun _ _ _ h => h) (fun Fq i s t m e => ?_) (fun s e => ?_)
  · have hl : s.length ≤ 46 := by rw [e]; exact most_few hp
    refine bk_dputT (x := max t.2.2 ((kGet s (t.2.1, t.1)).getD 0)) (k := (t.2.1, t.1)) hr 2 rfl (Ev.eq (ev_max2 (i := t.2.2) (j := (kGet s (t.2.1, t.1)).getD 0) (ea_cons (t := ⟨rInt, t.2.2⟩) (ev_v 5) (ea_cons (t := ⟨rInt, (kGet s (t.2.1, t.1)).getD 0⟩) (ev_dgetT hr (eb_v 2) (ev_tupP (ea_cons (t := ⟨rStr, t.2.1⟩) (ev_v 4) (ea_cons (t := ⟨rStr, t.1⟩) (ev_v 3) ea_nil))) ev_int) ea_nil)) T.f_max) max_if) (ev_tupP (ea_cons (t := ⟨rStr, t.2.1⟩) (ev_v 4) (ea_cons (t := ⟨rStr, t.1⟩) (ev_v 3) ea_nil))) (Evl.sz_lt (by omega)) ?_
    exact bk_end fun G H σ h => ⟨_, foldl_next m e rfl, G, Holds.forget 3 (Holds.forget 4 (Holds.forget 5 h))⟩
  rw [List.take_length] at e
  have e' : s = mostL ts := e
  clear e
  subst e'
  have hmf := mostL_few hp
  refine bk_pin 2 rfl (fun d E1 hE hN => ?_)
  refine bk_setO 6 sc_joined.nd (eo_dnew (r := rInt)) ?_
  refine bk_forQ (r := rInt) (ds := mostL ts) 2 (d := d) (fun (x : Slot) (s : List (Str × Int)) => [.sh (rLst (rT3 K rStr rStr rInt)) ts, .no, x, .no, .no, .no, .ow (oDic rInt s) none]) (fun i s => s = ((sortQ ((mostL ts).map (·.1))).take i).foldl (foundStep (mostL ts)) []) [] (passes_of rfl) rfl (by omega) (tgh_two (tg_name 4 sc_joined.nd) (tg_name 3 sc_joined.nd)) rfl (fun x G H σ h => h) (fun _ _ => rfl) (fun _ _ _ => rfl) (fun Fq od kvs n s k m e rt bk => ?_) (fun s e => ?_) T.f_sorted
  · have hl : s.length ≤ 46 := by
      rw [e]
      have z := found_len (mostL ts) ((sortQ ((mostL ts).map (·.1))).take n) []
      have z2 := (sortQ_ok ((mostL ts).map (·.1))).1.length_eq
      rw [List.length_map] at z2
      rw [List.length_take] at z
      simp only [List.length_nil] at z
      omega
    refine bk_dput (x := (dGet s k.1).getD 0 + (kGet (mostL ts) k).getD 0) (k := k.1) hr 6 rfl (ev_add (ev_dgetD hr (eb_v 6) (ev_v 4) ev_int) (ev_dixFt hr (eb_v 2) (ev_tupP (ea_cons (t := ⟨rStr, k.1⟩) (ev_v 4) (ea_cons (t := ⟨rStr, k.2⟩) (ev_v 3) ea_nil))) (most_some m))) (ev_v 4) (Evl.sz_lt (by omega)) ?_
    exact bk_end fun G H σ h => ⟨_, foldl_next m e rfl, G, Holds.forget 3 (Holds.forget 4 h)⟩
  rw [List.take_length] at e
  have e' : s = dueL lawHands ts := e.trans (joined_is hp)
  subst e'
  exact bk_retv 6 fun p o G' H' l g n h1 h2 => hret p o G' H' (hE G' H' l) g (hN p n) h1 h2
abbrev s__law_cell_at : Stmt := top 13
theorem sc__law_cell_at : FnScope ["_law_script", "_law_k"] ["_law_script", "_law_k"] (defScope s__law_cell_at) := ⟨rfl, rfl, rfl, by decide +kernel, rfl, by decide +kernel, by decide +kernel⟩
abbrev sp__law_cell_at (K : PySem.W.Frag) : Sp := PSp (fun y : (List Int) × Int => 0 ≤ y.2) (fun y => [⟨(rSeq K rInt), y.1⟩, ⟨rInt, y.2⟩]) rInt (fun y => cellAt y.1 y.2)
theorem ok__law_cell_at {f : Addr} {fd : FuncData} (F : FnD K "_law_cell_at" s__law_cell_at [] f fd) (T : Facts K mg) : FnOk P w K mg base (CXL P w) 1 f fd ["_law_script", "_law_k"] (sp__law_cell_at K) := by
  refine fn_pure F sc__law_cell_at (fun _ => rfl) fun y hp cdv A outer s H E0 G D hr hret hnx => ?_
  obtain ⟨script, k⟩ := y
  try dsimp only at hp hret hnx
  refine bk_if (p := decide (k < (script.length : Int))) (et_lt (ev_v 1) (ev_lenS (ev_v 0) T.f_len)) (fun c_1 => ?_) (fun c_1 => ?_)
  · exact bk_ret (x := (script.getD (k).toNat 0)) (ev_atS (r := rInt) (as := script) (i := k) (d := 0) (by have := of_decide_eq_true c_1; omega) (ev_v 0) (ev_v 1)) (hret.eq (by simp only [cellAt, c_1, if_true]))
  · refine bk_then ?_
    refine bk_if (p := (PyData.eqv (pdInts script) (pdInts ([] : (List Int))))) (et_eqD hr eqv_seqInts eqv_ints (ev_v 0) (EvO.ev (eo_nil (r := rInt)))) (fun c_2 => ?_) (fun c_2 => ?_)
    · exact bk_ret (x := (k * (48271 : Int))) (ev_mulR (by decide) (ev_v 1) ev_int) (hret.eq (by simp only [cellAt, c_1, c_2, if_true, if_false, Bool.false_eq_true]))
    · refine bk_then ?_
      exact bk_ret (x := ((((script.getD ((k % (script.length : Int))).toNat 0) + k) * (48271 : Int)) % (2147483647 : Int))) (ev_mod (i := (((script.getD ((k % (script.length : Int))).toNat 0) + k) * (48271 : Int))) (j := (2147483647 : Int)) (by decide) (ev_mulR (by decide) (ev_add (ev_atS (r := rInt) (as := script) (i := (k % (script.length : Int))) (d := 0) ⟨Int.emod_nonneg _ (by have := cell_ne c_2; omega), Int.emod_lt_of_pos _ (cell_ne c_2)⟩ (ev_v 0) (ev_mod (i := k) (j := (script.length : Int)) (cell_ne c_2) (ev_v 1) (ev_lenS (ev_v 0) T.f_len))) (ev_v 1)) ev_int) ev_int) (hret.eq (by simp only [cellAt, c_1, c_2, if_true, if_false, Bool.false_eq_true]))
abbrev s__law_numbers : Stmt := top 14
theorem sc__law_numbers : FnScope ["_law_cell", "_law_bounds", "_law_rest", "_law_found", "_law_bound"] ["_law_cell", "_law_bounds"] (defScope s__law_numbers) := ⟨rfl, rfl, rfl, by decide +kernel, rfl, by decide +kernel, by decide +kernel⟩
abbrev sp__law_numbers (K : PySem.W.Frag) : Sp := OSp (fun y : Int × (List Int) => (∀ b ∈ y.2, 0 < b ∧ b < 1073741824) ∧ y.2.length ≤ 1000) (fun y => [⟨rInt, y.1⟩, ⟨(rLst rInt), y.2⟩]) (fun y => oLst rInt (numbersL y.1 y.2))
theorem ok__law_numbers {f : Addr} {fd : FuncData} (F : FunD K "_law_numbers" "_law_numbers" (defArgs s__law_numbers) (defBody s__law_numbers) (defScope s__law_numbers) [] [] f fd) (T : Facts K mg)  : FnOk P w K mg base (CXL P w) 1 f fd ["_law_cell", "_law_bounds"] (sp__law_numbers K) := by
  refine fn_own F sc__law_numbers (fun _ => rfl) fun y hp cdv A outer s H E0 G D hr hret => ?_
  obtain ⟨cell, bounds⟩ := y
  try dsimp only at hp hret
  refine bk_set 2 sc__law_numbers.nd (ev_v 0) ?_
  refine bk_if (p := decide (cell < (1000000000000000000 : Int))) (et_lt (ev_v 0) (Ev.eq (ev_pow (i := (10 : Int)) (j := (18 : Int)) ⟨by decide, by decide, by decide⟩ ev_int ev_int) (by decide : ((10 : Int) ^ (18 : Int).toNat) = (1000000000000000000 : Int)))) (fun c_1 => ?_) (fun c_1 => ?_)
  · refine bk_set 2 sc__law_numbers.nd (ev_div (by decide) (ev_pow (i := (((cell % (2147483647 : Int)) * (48271 : Int)) + (12345 : Int))) (j := (5 : Int)) ⟨by decide, by decide, by omega⟩ (ev_add (ev_mulR (by decide) (ev_mod (i := cell) (j := (2147483647 : Int)) (by decide) (ev_v 0) ev_int) ev_int) ev_int) ev_int) ev_int) ?_
    refine bk_then ?_
    refine bk_setO 3 sc__law_numbers.nd (eo_nil (r := rInt)) ?_
    refine bk_for (fun sq1 : Int × (List Int) => [.sh rInt cell, .sh (rLst rInt) bounds, .sh rInt sq1.1, .ow (oLst rInt (sq1.2)) none, .no]) (fun i sq1 => sq1 = ((bounds).take i).foldl numStep ((((((cell % (2147483647 : Int)) * (48271 : Int)) + (12345 : Int)) ^ ((5 : Int)).toNat) / (1013 : Int)), ([] : (List Int)))) ((((((cell % (2147483647 : Int)) * (48271 : Int)) + (12345 : Int)) ^ ((5 : Int)).toNat) / (1013 : Int)), ([] : (List Int))) (passes_of rfl) (ei_lst (ev_v 1)) (tg_name 4 sc__law_numbers.nd) rfl (fun _ _ _ h => h) (fun F iq1 sq1 q1 mq1 eq1 => ?_) (fun sq1 eq1 => ?_)
    · have mm := List.mem_of_getElem? mq1
      have hln := num_len hp.2 mq1 eq1
      refine bk_append 3 rfl (ev_mod (i := sq1.1) (j := q1) (hp.1 _ mm).1 (ev_v 2) (ev_v 4)) (Nat.lt_of_succ_le (Evl.sz_of hln)) ?_
      refine bk_set 2 sc__law_numbers.nd (ev_div (i := sq1.1) (j := q1) (hp.1 _ mm) (ev_v 2) (ev_v 4)) ?_
      exact bk_end fun G H σ h => ⟨((sq1.1 / q1), (sq1.2 ++ [(sq1.1 % q1)])), foldl_next mq1 eq1 rfl, G, (Holds.forget 4 h)⟩
    · rw [List.take_length] at eq1
      subst eq1
      exact bk_retv 3 (hret.eqO (as' := (bounds.foldl numStep ((((((cell % (2147483647 : Int)) * (48271 : Int)) + (12345 : Int)) ^ ((5 : Int)).toNat) / (1013 : Int)), ([] : (List Int)))).2) (by unfold numbersL restOf; rw [if_pos c_1]))
  · refine bk_then ?_
    refine bk_setO 3 sc__law_numbers.nd (eo_nil (r := rInt)) ?_
    refine bk_for (fun sq2 : Int × (List Int) => [.sh rInt cell, .sh (rLst rInt) bounds, .sh rInt sq2.1, .ow (oLst rInt (sq2.2)) none, .no]) (fun i sq2 => sq2 = ((bounds).take i).foldl numStep (cell, ([] : (List Int)))) (cell, ([] : (List Int))) (passes_of rfl) (ei_lst (ev_v 1)) (tg_name 4 sc__law_numbers.nd) rfl (fun _ _ _ h => h) (fun F iq2 sq2 q2 mq2 eq2 => ?_) (fun sq2 eq2 => ?_)
    · have mm := List.mem_of_getElem? mq2
      have hln := num_len hp.2 mq2 eq2
      refine bk_append 3 rfl (ev_mod (i := sq2.1) (j := q2) (hp.1 _ mm).1 (ev_v 2) (ev_v 4)) (Nat.lt_of_succ_le (Evl.sz_of hln)) ?_
      refine bk_set 2 sc__law_numbers.nd (ev_div (i := sq2.1) (j := q2) (hp.1 _ mm) (ev_v 2) (ev_v 4)) ?_
      exact bk_end fun G H σ h => ⟨((sq2.1 / q2), (sq2.2 ++ [(sq2.1 % q2)])), foldl_next mq2 eq2 rfl, G, (Holds.forget 4 h)⟩
    · rw [List.take_length] at eq2
      subst eq2
      exact bk_retv 3 (hret.eqO (as' := (bounds.foldl numStep (cell, ([] : (List Int)))).2) (by unfold numbersL restOf; rw [if_neg (by rw [c_1]; simp)]))
abbrev s__law_tallies : Stmt := top 15
theorem sc__law_tallies : FnScope ["_law_script", "_law_hands", "_law_leaves", "_law_found", "_law_k", "_law_digits", "_law_many"] ["_law_script"] (defScope s__law_tallies) := ⟨rfl, rfl, rfl, by decide +kernel, rfl, by decide +kernel, by decide +kernel⟩
abbrev sp__law_tallies (K : PySem.W.Frag) : Sp := OSp (fun y : (List Int) => True) (fun y => [⟨(rSeq K rInt), y⟩]) (fun y => oLst (rT3 K rStr rStr rInt) (talsL y))
theorem ok__law_tallies {f : Addr} {fd : FuncData} (F : FunD K "_law_tallies" "_law_tallies" (defArgs s__law_tallies) (defBody s__law_tallies) (defScope s__law_tallies) [] [] f fd) (T : Facts K mg) (h__law_cell_at : Has P w K mg base "_law_cell_at" 1 (sp__law_cell_at K)) (h__law_numbers : Has P w K mg base "_law_numbers" 1 (sp__law_numbers K)) : FnOk P w K mg base (CXL P w) 2 f fd ["_law_script"] (sp__law_tallies K) := by
  refine fn_own F sc__law_tallies (fun _ => rfl) fun script hp cdv A outer s H E0 G D hr hret => ?_
  try dsimp only at hp hret
  refine bk_set 1 sc__law_tallies.nd (EvO.ev (eo_lst (r := rStr) (as := [("did" : Str), ("a" : Str), ("zz" : Str), ("leaf" : Str)]) (ea_cons ev_str (ea_cons ev_str (ea_cons ev_str (ea_cons ev_str ea_nil)))) (by simp))) ?_
  refine bk_set 2 sc__law_tallies.nd (EvO.ev (eo_lst (r := rStr) (as := [("row" : Str), ("b" : Str), ("did" : Str), ("found" : Str)]) (ea_cons ev_str (ea_cons ev_str (ea_cons ev_str (ea_cons ev_str ea_nil)))) (by simp))) ?_
  refine bk_setO 3 sc__law_tallies.nd (eo_nil (r := (rT3 K rStr rStr rInt))) ?_
  refine bk_for (fun sq1 : (List (Str × Str × Int)) => [.sh (rSeq K rInt) script, .sh (rLst rStr) [("did" : Str), ("a" : Str), ("zz" : Str), ("leaf" : Str)], .sh (rLst rStr) [("row" : Str), ("b" : Str), ("did" : Str), ("found" : Str)], .ow (oLst (rT3 K rStr rStr rInt) (sq1)) none, .no, .no, .no]) (fun i sq1 => sq1 = (((rangeL 0 (((cellAt script (0 : Int)) % (41 : Int))).toNat)).take i).foldl (talStep script) (([] : (List (Str × Str × Int))))) (([] : (List (Str × Str × Int)))) (passes_of rfl) (ei_range1 (n := ((cellAt script (0 : Int)) % (41 : Int))) (ev_mod (i := (cellAt script (0 : Int))) (j := (41 : Int)) (by decide) (ev_call h__law_cell_at hr (by first | decide | omega) (script, (0 : Int)) (by (try dsimp only); exact (by omega)) (ea_cons (ev_v 0) (ea_cons ev_int ea_nil))) ev_int) (by omega) T.f_range) (tg_name 4 sc__law_tallies.nd) rfl (fun _ _ _ h => h) (fun F iq1 sq1 q1 mq1 eq1 => ?_) (fun sq1 eq1 => ?_)
  · have mm := List.mem_of_getElem? mq1
    have hst := tals_st eq1 (by omega)
    refine bk_setg 5 sc__law_tallies.nd (EvO.ev (eo_call h__law_numbers hr (by first | decide | omega) ((cellAt script ((1 : Int) + (q1 % (40 : Int)))), [(4 : Int), (4 : Int), (12 : Int), (8 : Int)]) ⟨by (try dsimp only); simp, by (try dsimp only); simp⟩ (ea_cons (ev_call h__law_cell_at hr (by first | decide | omega) (script, ((1 : Int) + (q1 % (40 : Int)))) (by (try dsimp only); exact (by have := range_k mm; omega)) (ea_cons (ev_v 0) (ea_cons (ev_add ev_int (ev_mod (i := q1) (j := (40 : Int)) (by decide) (ev_v 4) ev_int)) ea_nil))) (ea_cons (EvO.ev (eo_lst (r := rInt) (as := [(4 : Int), (4 : Int), (12 : Int), (8 : Int)]) (ea_cons ev_int (ea_cons ev_int (ea_cons ev_int (ea_cons ev_int ea_nil)))) (by simp))) ea_nil)))) (fun v__law_digits h__law_digits => ?_)
    try dsimp only at h__law_digits
    refine bk_set 6 sc__law_tallies.nd (ev_ifE (et_lt (ev_at (r := rInt) (as := v__law_digits) (i := (3 : Int)) (d := 0) (by rw [h__law_digits]; exact dgt_ix) (ev_v 5) ev_int) ev_int) (fun q2 => (ev_at (r := rInt) (as := v__law_digits) (i := (2 : Int)) (d := 0) (by rw [h__law_digits]; exact dgt_ix) (ev_v 5) ev_int)) (fun q2 => (ev_at (r := rInt) (as := [(0 : Int), (1000 : Int)]) (i := ((v__law_digits.getD ((3 : Int)).toNat 0) - (6 : Int))) (d := 0) (by subst h__law_digits; have z := dgt_ok (cellAt script (1 + q1 % 40)); have q := of_decide_eq_false q2; unfold dgt at z; simp only [List.length_cons, List.length_nil]; omega) (EvO.ev (eo_lst (r := rInt) (as := [(0 : Int), (1000 : Int)]) (ea_cons ev_int (ea_cons ev_int ea_nil)) (by simp))) (ev_sub (ev_at (r := rInt) (as := v__law_digits) (i := (3 : Int)) (d := 0) (by rw [h__law_digits]; exact dgt_ix) (ev_v 5) ev_int) ev_int)))) ?_
    refine bk_append 3 rfl (ev_tup3 (ea_cons (ev_at (r := rStr) (as := [("did" : Str), ("a" : Str), ("zz" : Str), ("leaf" : Str)]) (i := (v__law_digits.getD ((0 : Int)).toNat 0)) (d := Str.empty) (by subst h__law_digits; have z := dgt_ok (cellAt script (1 + q1 % 40)); unfold dgt at z; simp only [List.length_cons, List.length_nil]; omega) (ev_v 1) (ev_at (r := rInt) (as := v__law_digits) (i := (0 : Int)) (d := 0) (by rw [h__law_digits]; exact dgt_ix) (ev_v 5) ev_int)) (ea_cons (ev_at (r := rStr) (as := [("row" : Str), ("b" : Str), ("did" : Str), ("found" : Str)]) (i := (v__law_digits.getD ((1 : Int)).toNat 0)) (d := Str.empty) (by subst h__law_digits; have z := dgt_ok (cellAt script (1 + q1 % 40)); unfold dgt at z; simp only [List.length_cons, List.length_nil]; omega) (ev_v 2) (ev_at (r := rInt) (as := v__law_digits) (i := (1 : Int)) (d := 0) (by rw [h__law_digits]; exact dgt_ix) (ev_v 5) ev_int)) (ea_cons (ev_v 6) ea_nil)))) (Nat.lt_of_succ_le (Evl.sz_of (Nat.le_trans hst (by decide)))) ?_
    exact bk_end fun G H σ h => ⟨((sq1 ++ [(([("did" : Str), ("a" : Str), ("zz" : Str), ("leaf" : Str)].getD ((v__law_digits.getD ((0 : Int)).toNat 0)).toNat Str.empty), ([("row" : Str), ("b" : Str), ("did" : Str), ("found" : Str)].getD ((v__law_digits.getD ((1 : Int)).toNat 0)).toNat Str.empty), (if decide ((v__law_digits.getD ((3 : Int)).toNat 0) < (6 : Int)) = true then (v__law_digits.getD ((2 : Int)).toNat 0) else ([(0 : Int), (1000 : Int)].getD (((v__law_digits.getD ((3 : Int)).toNat 0) - (6 : Int))).toNat 0)))])), foldl_next mq1 eq1 (by subst h__law_digits; rfl), G, (Holds.forget 6 (Holds.forget 5 (Holds.forget 4 h)))⟩
  · rw [List.take_length] at eq1
    subst eq1
    exact bk_retv 3 (hret.eqO (as' := ((rangeL 0 (((cellAt script (0 : Int)) % (41 : Int))).toNat).foldl (talStep script) (([] : (List (Str × Str × Int)))))) rfl)
abbrev s__law_due : Stmt := top 16
theorem sc__law_due : FnScope ["_law_tallies_here", "_law_tally", "_law_found", "_law_leaf", "_law_some", "_law_hand"] ["_law_tallies_here"] (defScope s__law_due) := ⟨rfl, rfl, rfl, by decide +kernel, rfl, by decide +kernel, by decide +kernel⟩
abbrev sp__law_due (K : PySem.W.Frag) : Sp := OSp (fun y : List Tal => TalsOk y) (fun y => [⟨rLst (rT3 K rStr rStr rInt), y⟩]) (fun y => oDic rInt (dueL lawHands y))
theorem ok__law_due {f : Addr} {fd : FuncData} (F : FunD K "_law_due" "_law_due" (defArgs s__law_due) (defBody s__law_due) (defScope s__law_due) [] [] f fd) (T : Facts K mg)  : FnOk P w K mg base (CXL P w) 2 f fd ["_law_tallies_here"] (sp__law_due K) := by
  refine fn_own F sc__law_due (fun _ => rfl) fun ts hp cdv A outer s H E0 G D hr hret => ?_
  try dsimp only at hp hret
  have hlen := hp.2
  refine bk_setO 2 sc__law_due.nd (eo_dnew (r := rInt)) ?_
  refine bk_for (fun s : List (Str × Int) => [.sh (rLst (rT3 K rStr rStr rInt)) ts, .no, .ow (oDic rInt s) none, .no, .no, .no]) (fun i s => s = ((sortT (ts.map (·.2.1))).take i).foldl (fun d l => dPut d l (sumOf lawHands ts l)) []) [] (passes_of rfl) (ei_lst (EvO.ev (eo_sortedL (us := ts.map (·.2.1)) (EvO.bor (eo_lcm (val := fun t : Tal => t.2.1) [("_law_tally", 1)] sc__law_due.nd (ei_lst (ev_v 0)) (blkOk_by (N := ["_law_tallies_here", "_law_tally", "_law_found", "_law_leaf", "_law_some", "_law_hand"]) (sc := defScope s__law_due) (by decide +kernel)) (fun _ => tg_name 1 sc__law_due.nd) (fun _ t m => ev_t3b (ev_v 1)) (by omega))) (by rw [List.length_map]; omega) T.f_sorted))) (tg_name 3 sc__law_due.nd) rfl (fun _ _ _ h => h) (fun Fq i s l m e => ?_) (fun s e => ?_)
  · have hl : s.length ≤ 46 := by
      rw [e]
      have z := due_len lawHands ts ((sortT (ts.map (·.2.1))).take i) []
      have z2 := (sortT_perm (ts.map (·.2.1))).1.length_eq
      rw [List.length_map] at z2
      rw [List.length_take] at z
      simp only [List.length_nil] at z
      omega
    have ml : l ∈ ts.map (·.2.1) := (sortT_perm _).1.mem_iff.mp (List.mem_of_getElem? m)
    obtain ⟨tl, htl, el⟩ := List.mem_map.mp ml
    have okl : PyData.strOk l = true := by rw [← el]; exact (leaf_name (hp.1 tl htl).2.1).2.2
    refine bk_set 4 sc__law_due.nd (x := (0 : Int)) ev_int ?_
    refine bk_for (fun z : Int => [.sh (rLst (rT3 K rStr rStr rInt)) ts, .no, .ow (oDic rInt s) none, .sh rStr l, .sh rInt z, .no]) (fun i z => z = (lawHands.take i).foldl (fun z h => z + topOf ts h l) 0) 0 (passes_of rfl) (ei_lst (EvO.ev (eo_lst (r := rStr) (as := lawHands) (ea_cons (t := ⟨rStr, "did"⟩) ev_str (ea_cons (t := ⟨rStr, "a"⟩) ev_str (ea_cons (t := ⟨rStr, "zz"⟩) ev_str (ea_cons (t := ⟨rStr, "leaf"⟩) ev_str ea_nil)))) (by decide)))) (tg_name 5 sc__law_due.nd) rfl (fun _ _ _ h => h) (fun Fq2 i2 z h m2 e2 => ?_) (fun z e2 => ?_)
    · have okh : PyData.strOk h = true := (hand_name (List.mem_of_getElem? m2)).2.2
      refine bk_set 4 sc__law_due.nd (x := z + topOf ts h l) (ev_add (ev_v 4) (ev_maxL (ns := [0] ++ ((ts.filter fun t => decide ((t.1, t.2.1) = (h, l))).map (·.2.2))) (by simp) (EvO.bor (eo_cat (r := rInt) (as := [(0 : Int)]) (bs := ((ts.filter fun t => decide ((t.1, t.2.1) = (h, l))).map (·.2.2))) (EvO.bor (eo_lst (r := rInt) (as := [(0 : Int)]) (ea_cons (t := ⟨rInt, 0⟩) ev_int ea_nil) (by decide)))
        (EvO.bor (eo_lc (keep := fun t : Tal => decide ((t.1, t.2.1) = (h, l))) (val := fun t : Tal => t.2.2) [("_law_tally", 1)] sc__law_due.nd (ei_lst (ev_v 0)) (blkOk_by (N := ["_law_tallies_here", "_law_tally", "_law_found", "_law_leaf", "_law_some", "_law_hand"]) (sc := defScope s__law_due) (by decide +kernel)) (fun _ => tg_name 1 sc__law_due.nd)
          (fun _ t mt => ets_one (EvT.eq (et_eqD hr (eqv_pp (a := (t.1, t.2.1)) (hand_name (hp.1 t mt).1).2.2 (leaf_name (hp.1 t mt).2.1).2.2) (eqv_pp (a := (h, l)) okh okl) (ev_cutT3 (ev_v 1)) (ev_tup2 (ea_cons (t := ⟨rStr, h⟩) (ev_v 5) (ea_cons (t := ⟨rStr, l⟩) (ev_v 3) ea_nil)))) pdPP_eqv)) (fun _ t mt _ => ev_t3c (ev_v 1)) (by omega)))
        (Evl.sz_of (by have := List.length_filter_le (fun t : Tal => decide ((t.1, t.2.1) = (h, l))) ts; simp only [List.length_cons, List.length_nil, List.length_map]; omega)))) T.f_max)) ?_
      exact bk_end fun G H σ h => ⟨_, foldl_next m2 e2 rfl, G, Holds.forget 5 h⟩
    · rw [List.take_length] at e2
      have e3 : z = sumOf lawHands ts l := e2
      refine bk_dput (x := z) (k := l) hr 2 rfl (ev_v 4) (ev_v 3) (Evl.sz_lt (by omega)) ?_
      exact bk_end fun G H σ h => ⟨_, foldl_next m e (by rw [e3]), G, Holds.forget 3 (Holds.forget 4 h)⟩
  rw [List.take_length] at e
  have e' : s = dueL lawHands ts := e
  subst e'
  exact bk_retv 2 hret
abbrev s__law_right : Stmt := top 17
theorem sc__law_right : FnScope ["_law_tallies_here", "_law_handed", "_law_got", "_law_one"] ["_law_tallies_here"] (defScope s__law_right) := ⟨rfl, rfl, rfl, by decide +kernel, rfl, by decide +kernel, by decide +kernel⟩
abbrev sp__law_right (K : PySem.W.Frag) : Sp := PSp (fun y : List Tal => TalsOk y) (fun y => [⟨rLst (rT3 K rStr rStr rInt), y⟩]) rBool (fun _ => true)
theorem ok__law_right {f : Addr} {fd : FuncData} (F : FunD K "_law_right" "_law_right" (defArgs s__law_right) (defBody s__law_right) (defScope s__law_right) [] [] f fd) (T : Facts K mg) (h_joined : Has P w K mg base "joined" 4 (sp_joined K)) (h__law_due : Has P w K mg base "_law_due" 2 (sp__law_due K)) : FnOk P w K mg base (CXL P w) 5 f fd ["_law_tallies_here"] (sp__law_right K) := by
  refine fn_pure F sc__law_right (fun _ => rfl) fun ts hp cdv A outer s H E0 G D hr hret hnx => ?_
  try dsimp only at hp hret hnx
  have hlen := hp.2
  have hfew := due_few hp
  refine bk_set 1 sc__law_right.nd (x := ts) (EvO.ev (eo_listOf (Ev.bor (ev_v 0)) T.f_list)) ?_
  refine bk_setO 2 sc__law_right.nd (eo_call h_joined hr (by first | decide | omega) ts hp (ea_cons (t := ⟨rLst (rT3 K rStr rStr rInt), ts⟩) (ev_v 1) ea_nil)) ?_
  refine bk_if (p := (!true || (!true || (!true || !true)))) (et_bool (ew_or (EvT.eq (et_neD hr (eqv_tals hp.1) (eqv_tals hp.1) (ev_v 1) (ev_v 0)) (by rw [tals_eqv])) fun _ => ew_or (et_not (et_val (ev_lookS 2 (r := rDic rInt) (x := dueL lawHands ts) rfl flat_dic frz_dic thin_bool (ev_isi (T := "dict") (C := "dict") (b := true) (ev_v 2) kind_dic (by decide +kernel) T.f_isinstance T.f_dict (by decide +kernel))))) fun _ =>
    ew_or (EvT.eq (et_neDI hr (eb_v 2) (EvO.bor (eo_call h__law_due hr (by first | decide | omega) ts hp (ea_cons (t := ⟨rLst (rT3 K rStr rStr rInt), ts⟩) (ev_v 0) ea_nil)))) (by rw [strict_self])) fun _ => ew_or1 (EvT.eq (et_neD hr (eqv_strs (due_keys_ok hp)) (eqv_strs (due_keys_ok hp)) (EvO.ev (eo_listD (eb_v 2) T.f_list)) (Ev.eq (EvO.ev (eo_sortedD (eb_v 2) (by omega) T.f_sorted)) due_sorted)) (by rw [pdStrs_eqv]; simp)))) (fun c => absurd c (by simp)) (fun _ => ?_)
  refine bk_then ?_
  refine bk_dclear 2 rfl ?_
  exact bk_ret (x := (true && true)) (ev_and (Ev.eq (ev_eqDI hr (EvO.bor (eo_call h_joined hr (by first | decide | omega) ts hp (ea_cons (t := ⟨rLst (rT3 K rStr rStr rInt), ts⟩) (ev_v 1) ea_nil))) (EvO.bor (eo_call h__law_due hr (by first | decide | omega) ts hp (ea_cons (t := ⟨rLst (rT3 K rStr rStr rInt), ts⟩) (ev_v 0) ea_nil)))) strict_self) fun _ => ev_one (Ev.eq (ev_not (ev_any (ns := ((dueL lawHands ts).map (·.2)).map fun _ => false) (EvO.bor (eo_lcm (val := fun _ : Int => false) [("_law_one", 3)] sc__law_right.nd (ei_values (eo_call h_joined hr (by first | decide | omega) ts hp (ea_cons (t := ⟨rLst (rT3 K rStr rStr rInt), ts⟩) (ev_v 1) ea_nil))) (blkOk_by (N := ["_law_tallies_here", "_law_handed", "_law_got", "_law_one"]) (sc := defScope s__law_right) (by decide +kernel)) (fun _ => tg_name 3 sc__law_right.nd)
    (fun _ t mt => ev_isi (T := "int") (C := "bool") (b := false) (ev_v 3) kind_int (by decide +kernel) T.f_isinstance T.f_bool (by decide +kernel)) (by rw [List.length_map]; omega))) T.f_any)) (by simp))) (hret.eq rfl)
end
end Hf


namespace Hf
open PySem PySem.Spec PyProof.Rows L2 ClX LamX NdefX
section
variable {P : Program} {w : World} {K : PySem.W.Frag} {mg : Str → Option Value} {base : Heap}
abbrev s_law : Stmt := top 18
theorem sc_law : FnScope ["_law_script", "_law_tallies_here", "_law_cell", "_law_other", "#t"] ["_law_script"] (defScope s_law) := ⟨rfl, rfl, rfl, by decide +kernel, rfl, by decide +kernel, by decide +kernel⟩
/-- the law, its table of code objects at A -/
def LSp (K : PySem.W.Frag) (A : Addr) : Sp := fun vs H Q _ => ∃ (script : List Int) (G : Hp), script.length ≤ 63 ∧ Ex G H ∧ Args G vs [⟨rSeq K rInt, script⟩] ∧ G A = none ∧ H A = some (.tbl #[]) ∧ ∀ H', Q (.bl true) H'
abbrev sp_law (K : PySem.W.Frag) : Sp := LSp K (He.cT K ("law", none)).2
theorem ok_law {fd : FuncData} (F : FunD K "law" "law" (defArgs s_law) (defBody s_law) (defScope s_law) [] [] (He.fAd K ("law", none)) fd) (T : Facts K mg) (B : LamX.TabB base mg (He.cT K ("law", none)).1 (He.cT K ("law", none)).2) (h__law_tallies : Has P w K mg base "_law_tallies" 2 (sp__law_tallies K)) (h__law_right : Has P w K mg base "_law_right" 5 (sp__law_right K)) (h__law_cell_at : Has P w K mg base "_law_cell_at" 1 (sp__law_cell_at K)) (h_joined : Has P w K mg base "joined" 4 (sp_joined K)) : FnOk P w K mg base (CXL P w) 9 (He.fAd K ("law", none)) fd ["_law_script"] (sp_law K) := by
  refine fn_code F sc_law (fun vs H Q E ⟨script, G, _, _, a, _⟩ => by rw [args_length a]; rfl) fun A outer s H vs Q E hr ⟨script, G, hp, ex, av, gP, hP, hret⟩ => ⟨_, WB.pss, ?_⟩
  have h0 := holds_start (N := ["_law_script", "_law_tallies_here", "_law_cell", "_law_other", "#t"]) ex av (by show 1 ≤ 5; decide)
  refine wb_ghost (v := some (.ref (He.cT K ("law", none)).2)) (n := 4) (gn := "#t") rfl (show ¬ Vis (defScope s_law) "#t" from by unfold Vis; decide +kernel) ?_
  have h1 := h0.ghost (c := oTab0) 4 (fun i s q => by
    match i, q with
    | 0, q => cases q; rfl
    | 1, q => cases q; rfl
    | 2, q => cases q; rfl
    | 3, q => cases q; rfl
    | 4, q => cases q; rfl
    | i + 5, q => simp [slots0] at q) gP hP rfl
  refine (?_ : Bk _ { G := G, H := H, M := fun a => a = (He.cT K ("law", none)).2 } [.sh (rSeq K rInt) script, .no, .no, .no, .ow oTab0 (some (He.cT K ("law", none)).2)] _ _) G H _ h1
  have hret1 : RetOk { G := G, H := H, M := fun a => a = (He.cT K ("law", none)).2 } { nx := fun _ H' => Q .non H', rt := Q } rBool true := fun v G' H' l rv => by
    have ev : v = .bl true := rv
    subst ev
    exact hret H'
  have hok := tals_ok script
  have h40 := tals_len script
  refine bk_set 1 sc_law.nd (x := talsL script) (EvO.ev (eo_call h__law_tallies hr (by first | decide | omega) script trivial (ea_cons (t := ⟨rSeq K rInt, script⟩) (ev_v 0) ea_nil))) ?_
  generalize talsL script = ts at *
  have hts : TalsOk ts := ⟨hok, by omega⟩
  refine bk_if (p := !true) (et_not (et_val (ev_call h__law_right hr (by first | decide | omega) ts hts (ea_cons (t := ⟨rLst (rT3 K rStr rStr rInt), ts⟩) (ev_v 1) ea_nil)))) (fun c => absurd c (by simp)) (fun _ => ?_)
  refine bk_then ?_
  refine bk_set 2 sc_law.nd (x := cellAt script 41) (ev_call h__law_cell_at hr (by first | decide | omega) (script, 41) (by (try dsimp only); omega) (ea_cons (t := ⟨rSeq K rInt, script⟩) (ev_v 0) (ea_cons (t := ⟨rInt, 41⟩) ev_int ea_nil))) ?_
  generalize cellAt script 41 = cell at *
  refine bk_sortLam (r := (rT3 K rStr rStr rInt)) (ts := ts) (KEY := fun σ t n => ∃ c : Int, σ[2]? = some (some (.int c)) ∧ n = keyOf6 c t ∧ t.1.length ≤ 1000) 3 4 (keyOf6 cell) sc_law.nd (pe_sortLam (k := 5) (y := "_law_tally") rfl WE.pe (hr.mono (by omega)) B rfl rfl T.f_sorted rfl (fun y hy e => by
      have hy2 : y = (("_law_tally" : Str), NameKind.local) ∨ y = (("_law_cell" : Str), NameKind.free) ∨ y = (("len" : Str), NameKind.globalImplicit) := by simpa using hy
      rcases hy2 with rfl | rfl | rfl
      · cases e
      · exact .inl (show (defScope s_law).names.lookup ("_law_cell" : Str) = some .cell from by decide +kernel)
      · cases e) rfl rfl rfl (by decide +kernel) (by decide +kernel) (fun _ _ _ _ _ _ => rfl) (fun pins σ H2 G2 s2 f c' u x t n h B' La h₁ tk I ex2 ru rt hk kp hns => ?_)) rfl (ev_v 1) (by omega) (fun G2 H2 σ hh t ht => ?_) (fun us pm => ?_)
  · obtain ⟨c, hc, en, hl⟩ := hk
    subst en
    exact key_body I ex2 ru rt hc hl kp hns rfl (by decide +kernel) (by decide +kernel) (by rfl) T.f_len (fun y hy e => by
      have hy2 : y = (("_law_tally" : Str), NameKind.local) ∨ y = (("_law_cell" : Str), NameKind.free) ∨ y = (("len" : Str), NameKind.globalImplicit) := by simpa using hy
      rcases hy2 with rfl | rfl | rfl
      · cases e
      · exact .inl (show (defScope s_law).names.lookup ("_law_cell" : Str) = some .cell from by decide +kernel)
      · cases e) rfl (by rfl) (by rfl)
  · obtain ⟨v, e1, e2⟩ := hh.sh (i := 2) rfl
    have ev : v = .int cell := e2
    subst ev
    exact ⟨cell, e1, rfl, (hand_name (hts.1 t ht).1).2.1⟩
  have h7 : 0 ≤ cell % 7 ∧ cell % 7 < 7 := by omega
  have hag := again_ok hts h40 pm h7
  refine bk_if (p := (!true || !true)) (et_bool (ew_or (et_not (et_val (ev_call h__law_right hr (by first | decide | omega) (us ++ cutL ts none (some (cell % 7))) hag (ea_cons (t := ⟨rLst (rT3 K rStr rStr rInt), (us ++ cutL ts none (some (cell % 7)))⟩) (EvO.ev (eo_cat (r := (rT3 K rStr rStr rInt)) (as := us) (bs := cutL ts none (some (cell % 7))) (Ev.bor (ev_v 3)) (EvO.bor (eo_to (Ev.bor (ev_v 1)) (ev_mod (by decide) (ev_v 2) ev_int))) (Evl.sz_of (by have := hag.2; rw [List.length_append] at this; omega)))) ea_nil)))) fun _ => ew_or1 (EvT.eq (et_neDI hr (EvO.bor (eo_call h_joined hr (by first | decide | omega) (us ++ cutL ts none (some (cell % 7))) hag (ea_cons (t := ⟨rLst (rT3 K rStr rStr rInt), (us ++ cutL ts none (some (cell % 7)))⟩) (EvO.ev (eo_cat (r := (rT3 K rStr rStr rInt)) (as := us) (bs := cutL ts none (some (cell % 7))) (Ev.bor (ev_v 3)) (EvO.bor (eo_to (Ev.bor (ev_v 1)) (ev_mod (by decide) (ev_v 2) ev_int))) (Evl.sz_of (by have := hag.2; rw [List.length_append] at this; omega)))) ea_nil))) (EvO.bor (eo_call h_joined hr (by first | decide | omega) ts hts (ea_cons (t := ⟨rLst (rT3 K rStr rStr rInt), ts⟩) (ev_v 1) ea_nil)))) (by rw [again_eq pm h7, strict_self])))) (fun c => absurd c (by simp)) (fun _ => ?_)
  refine bk_then ?_
  exact bk_ret (x := (true && true)) (ev_and (Ev.eq (ev_eqDI hr (EvO.bor (eo_call h_joined hr (by first | decide | omega) ts.reverse (rev_ok hts) (ea_cons (t := ⟨rLst (rT3 K rStr rStr rInt), ts.reverse⟩) (EvO.ev (eo_rev (Ev.bor (ev_v 1)))) ea_nil))) (EvO.bor (eo_call h_joined hr (by first | decide | omega) ts hts (ea_cons (t := ⟨rLst (rT3 K rStr rStr rInt), ts⟩) (ev_v 1) ea_nil)))) (by rw [rev_eq, strict_self])) fun _ => ev_one (ev_call h__law_right hr (by first | decide | omega) (cutL ts none (some (cell % 5))) (cut_ok hts (by omega)) (ea_cons (t := ⟨rLst (rT3 K rStr rStr rInt), (cutL ts none (some (cell % 5)))⟩) (EvO.ev (eo_to (Ev.bor (ev_v 1)) (ev_mod (by decide) (ev_v 2) ev_int))) ea_nil))) (hret1.eq rfl)
end
end Hf


set_option maxHeartbeats 0
namespace Hd
open PySem PySem.Spec PyProof.Rows L2 PySem.W PySem.Calls Hf
def d_is_number : He.DefD := ⟨("is_number", none), "is_number", "is_number", defArgs s_is_number, defBody s_is_number, defScope s_is_number, [], []⟩
def d_is_name : He.DefD := ⟨("is_name", none), "is_name", "is_name", defArgs s_is_name, defBody s_is_name, defScope s_is_name, [], []⟩
def d_is_tally : He.DefD := ⟨("is_tally", none), "is_tally", "is_tally", defArgs s_is_tally, defBody s_is_tally, defScope s_is_tally, [], []⟩
def d_joined : He.DefD := ⟨("joined", none), "joined", "joined", defArgs s_joined, defBody s_joined, defScope s_joined, [], []⟩
def d__law_cell_at : He.DefD := ⟨("_law_cell_at", none), "_law_cell_at", "_law_cell_at", defArgs s__law_cell_at, defBody s__law_cell_at, defScope s__law_cell_at, [], []⟩
def d__law_numbers : He.DefD := ⟨("_law_numbers", none), "_law_numbers", "_law_numbers", defArgs s__law_numbers, defBody s__law_numbers, defScope s__law_numbers, [], []⟩
def d__law_tallies : He.DefD := ⟨("_law_tallies", none), "_law_tallies", "_law_tallies", defArgs s__law_tallies, defBody s__law_tallies, defScope s__law_tallies, [], []⟩
def d__law_due : He.DefD := ⟨("_law_due", none), "_law_due", "_law_due", defArgs s__law_due, defBody s__law_due, defScope s__law_due, [], []⟩
def d__law_right : He.DefD := ⟨("_law_right", none), "_law_right", "_law_right", defArgs s__law_right, defBody s__law_right, defScope s__law_right, [], []⟩
def d_law : He.DefD := ⟨("law", none), "law", "law", defArgs s_law, defBody s_law, defScope s_law, [], []⟩
def fn : List He.DefD := [d_is_number, d_is_name, d_is_tally, d_joined, d__law_cell_at, d__law_numbers, d__law_tallies, d__law_due, d__law_right, d_law]
def fa : List He.Fa := [.glo "is_number", .glo "is_name", .glo "is_tally", .glo "joined", .glo "_law_cell_at", .glo "_law_numbers", .glo "_law_tallies", .glo "_law_due", .glo "_law_right", .glo "law", .free "len", .free "all", .free "any", .free "isinstance", .free "tuple", .free "list", .free "dict", .free "int", .free "str", .free "bool", .free "range", .free "max", .free "sorted", .int "LONGEST" 8, .int "STEPS" 1000, .str "LETTERS" letters]
abbrev R : PySem.W.OpenRow := PySem.W.OpenLaw.row PySem.Challenge.rw_howfar_k06_hands
def ts : List He.Tab := []
def tf : List He.Defn := [("law", none)]
def ex (K : PySem.W.Frag) : Bool := true
abbrev hk : PySem.W.Hook := He.hookX 6 fa fn ts tf ex
def ob (s : PySem.W.SharedT) : He.AlX := He.obsX 6 fa fn ts tf ex (HandSHeadRun.getT s)
theorem ob_eq (s : PySem.W.SharedT) : ob s = hk.obs s.abs := He.obsX_eq (HandSHeadRun.getT_eq s)
def names0 : List PySem.Str := ["FarError", "BadTallies", "LETTERS", "LONGEST", "STEPS", "is_number", "is_name", "is_tally", "joined", "_law_cell_at", "_law_numbers", "_law_tallies", "_law_due", "_law_right"]
def names : List PySem.Str := names0
theorem run (w : World) : HandSHeadRun.RunEq R (PySem.W.view R.prog [18]) hk ob 20000 names w := by
  intro os
  kernel_rfl
theorem facts {P : Program} {w : World} {K : PySem.W.Frag} {h : Heap} {mg : Str → Option Value} {f : Addr} (X : K.In h) (G : h.Ns mainGlobals mg) (hfa : mg ("law" : Str) = some (.ref f)) (c : He.SaysX fa fn ts tf ex w h K) :
    ∃ fd : FuncData, (∀ (s : Shared) (v : Value), BindsTo s fd ⟨[v], []⟩ [("_law_script", v)]) ∧ ∀ base : Heap, K.In base → base.Ns mainGlobals mg → LamX.TabB base mg (He.cT K ("law", none)).1 (He.cT K ("law", none)).2 → FnOk P w K mg base CX0 9 f fd ["_law_script"] (sp_law K) := by
  obtain ⟨fd_is_number, F_is_number⟩ := c.t.d.def_ 0 (d := d_is_number) rfl
  obtain ⟨fd_is_name, F_is_name⟩ := c.t.d.def_ 1 (d := d_is_name) rfl
  obtain ⟨fd_is_tally, F_is_tally⟩ := c.t.d.def_ 2 (d := d_is_tally) rfl
  obtain ⟨fd_joined, F_joined⟩ := c.t.d.def_ 3 (d := d_joined) rfl
  obtain ⟨fd__law_cell_at, F__law_cell_at⟩ := c.t.d.def_ 4 (d := d__law_cell_at) rfl
  obtain ⟨fd__law_numbers, F__law_numbers⟩ := c.t.d.def_ 5 (d := d__law_numbers) rfl
  obtain ⟨fd__law_tallies, F__law_tallies⟩ := c.t.d.def_ 6 (d := d__law_tallies) rfl
  obtain ⟨fd__law_due, F__law_due⟩ := c.t.d.def_ 7 (d := d__law_due) rfl
  obtain ⟨fd__law_right, F__law_right⟩ := c.t.d.def_ 8 (d := d__law_right) rfl
  obtain ⟨fd_law, F_law⟩ := c.t.d.def_ 9 (d := d_law) rfl
  have a0 := c.t.d.fact 0 (f := .glo "is_number") rfl
  have a1 := c.t.d.fact 1 (f := .glo "is_name") rfl
  have a2 := c.t.d.fact 2 (f := .glo "is_tally") rfl
  have a3 := c.t.d.fact 3 (f := .glo "joined") rfl
  have a4 := c.t.d.fact 4 (f := .glo "_law_cell_at") rfl
  have a5 := c.t.d.fact 5 (f := .glo "_law_numbers") rfl
  have a6 := c.t.d.fact 6 (f := .glo "_law_tallies") rfl
  have a7 := c.t.d.fact 7 (f := .glo "_law_due") rfl
  have a8 := c.t.d.fact 8 (f := .glo "_law_right") rfl
  have a9 := c.t.d.fact 9 (f := .glo "law") rfl
  have a10 := c.t.d.fact 10 (f := .free "len") rfl
  have a11 := c.t.d.fact 11 (f := .free "all") rfl
  have a12 := c.t.d.fact 12 (f := .free "any") rfl
  have a13 := c.t.d.fact 13 (f := .free "isinstance") rfl
  have a14 := c.t.d.fact 14 (f := .free "tuple") rfl
  have a15 := c.t.d.fact 15 (f := .free "list") rfl
  have a16 := c.t.d.fact 16 (f := .free "dict") rfl
  have a17 := c.t.d.fact 17 (f := .free "int") rfl
  have a18 := c.t.d.fact 18 (f := .free "str") rfl
  have a19 := c.t.d.fact 19 (f := .free "bool") rfl
  have a20 := c.t.d.fact 20 (f := .free "range") rfl
  have a21 := c.t.d.fact 21 (f := .free "max") rfl
  have a22 := c.t.d.fact 22 (f := .free "sorted") rfl
  have a23 := c.t.d.fact 23 (f := .int "LONGEST" 8) rfl
  have a24 := c.t.d.fact 24 (f := .int "STEPS" 1000) rfl
  have a25 := c.t.d.fact 25 (f := .str "LETTERS" letters) rfl
  have T : Facts K mg := { f_len := He.free_ok X G a10, f_all := He.free_ok X G a11, f_any := He.free_ok X G a12, f_isinstance := He.free_ok X G a13, f_tuple := He.free_ok X G a14, f_list := He.free_ok X G a15, f_dict := He.free_ok X G a16, f_int := He.free_ok X G a17, f_str := He.free_ok X G a18, f_bool := He.free_ok X G a19, f_range := He.free_ok X G a20, f_max := He.free_ok X G a21, f_sorted := He.free_ok X G a22, g_LONGEST := He.int_ok X G a23, g_STEPS := He.int_ok X G a24, g_LETTERS := He.str_ok X G a25 }
  have e := hfa.symm.trans (He.glo_ok X G a9)
  cases e
  have b := FunD.bindsA (ps := ["_law_script"]) F_law fun _ _ _ _ _ _ us hl => match us, hl with | [_], _ => rfl
  refine ⟨fd_law, fun s v => b s [v] rfl, fun base _ _ TB => ?_⟩
  have o_is_number := ok_is_number (P := P) (w := w) (base := base) F_is_number T
  have h_is_number : Has P w K mg base "is_number" 1 (sp_is_number K) := Has.mk0 (He.glo_ok X G a0) F_is_number.kp (FunD.bindsN F_is_number fun _ _ _ _ _ _ us hl => match us, hl with | [_, _, _], _ => rfl) o_is_number
  have o_is_name := ok_is_name (P := P) (w := w) (base := base) F_is_name T
  have h_is_name : Has P w K mg base "is_name" 1 (sp_is_name K) := Has.mk0 (He.glo_ok X G a1) F_is_name.kp (FunD.bindsN F_is_name fun _ _ _ _ _ _ us hl => match us, hl with | [_], _ => rfl) o_is_name
  have o_is_tally := ok_is_tally (P := P) (w := w) (base := base) F_is_tally T h_is_number h_is_name
  have h_is_tally : Has P w K mg base "is_tally" 2 (sp_is_tally K) := Has.mk0 (He.glo_ok X G a2) F_is_tally.kp (FunD.bindsN F_is_tally fun _ _ _ _ _ _ us hl => match us, hl with | [_], _ => rfl) o_is_tally
  have o_joined := ok_joined (P := P) (w := w) (base := base) F_joined T h_is_tally
  have h_joined : Has P w K mg base "joined" 4 (sp_joined K) := Has.mk0 (He.glo_ok X G a3) F_joined.kp (FunD.bindsN F_joined fun _ _ _ _ _ _ us hl => match us, hl with | [_], _ => rfl) o_joined
  have o__law_cell_at := ok__law_cell_at (P := P) (w := w) (base := base) F__law_cell_at T
  have h__law_cell_at : Has P w K mg base "_law_cell_at" 1 (sp__law_cell_at K) := Has.mk0 (He.glo_ok X G a4) F__law_cell_at.kp (FunD.bindsN F__law_cell_at fun _ _ _ _ _ _ us hl => match us, hl with | [_, _], _ => rfl) o__law_cell_at
  have o__law_numbers := ok__law_numbers (P := P) (w := w) (base := base) F__law_numbers T
  have h__law_numbers : Has P w K mg base "_law_numbers" 1 (sp__law_numbers K) := Has.mk0 (He.glo_ok X G a5) F__law_numbers.kp (FunD.bindsN F__law_numbers fun _ _ _ _ _ _ us hl => match us, hl with | [_, _], _ => rfl) o__law_numbers
  have o__law_tallies := ok__law_tallies (P := P) (w := w) (base := base) F__law_tallies T h__law_cell_at h__law_numbers
  have h__law_tallies : Has P w K mg base "_law_tallies" 2 (sp__law_tallies K) := Has.mk0 (He.glo_ok X G a6) F__law_tallies.kp (FunD.bindsN F__law_tallies fun _ _ _ _ _ _ us hl => match us, hl with | [_], _ => rfl) o__law_tallies
  have o__law_due := ok__law_due (P := P) (w := w) (base := base) F__law_due T
  have h__law_due : Has P w K mg base "_law_due" 2 (sp__law_due K) := Has.mk0 (He.glo_ok X G a7) F__law_due.kp (FunD.bindsN F__law_due fun _ _ _ _ _ _ us hl => match us, hl with | [_], _ => rfl) o__law_due
  have o__law_right := ok__law_right (P := P) (w := w) (base := base) F__law_right T h_joined h__law_due
  have h__law_right : Has P w K mg base "_law_right" 5 (sp__law_right K) := Has.mk0 (He.glo_ok X G a8) F__law_right.kp (FunD.bindsN F__law_right fun _ _ _ _ _ _ us hl => match us, hl with | [_], _ => rfl) o__law_right
  have o_law := ok_law (P := P) (w := w) (base := base) F_law T TB h__law_tallies h__law_right h__law_cell_at h_joined
  exact fn_quiet o_law fun vs H Q E E' z => z
end Hd
open PySem PySem.W PySem.Calls PyProof.Rows
set_option maxRecDepth 100000 in
set_option maxHeartbeats 0 in
theorem PySem.Challenge.cw_howfar_k06_hands_holds : PySem.Challenge.rw_howfar_k06_hands.Holds := by
  w_on; o_law
  refine HandSHeadRun.head_any (r := OpenLaw.row PySem.Challenge.rw_howfar_k06_hands) (q := view (OpenLaw.row PySem.Challenge.rw_howfar_k06_hands).prog [18]) (H := Hd.hk) (ob := Hd.ob) (M := 20000) (loose := Hd.names) (d := HandSHeadRun.topDef (OpenLaw.row PySem.Challenge.rw_howfar_k06_hands).prog 18) (kwd := []) Hd.ob_eq
    (by kernel_rfl) (fun s => by kernel_rfl) Hd.run (by kernel_rfl) (by kernel_rfl) (by kernel_rfl) (by rfl) (by first | assumption | decide +kernel) (by decide +kernel) ⟨rfl, rfl, rfl, rfl, rfl, by decide +kernel⟩ ?hw ?hc
  case hw => w_witness2
  case hc =>
    refine LamX.walk_ofTsE (l := PySem.Challenge.rw_howfar_k06_hands) (n := 63) (k := 9) (x := "_law_script") (CX := fun _ => L2.CX0) rfl (by decide) (by kernel_rfl) ⟨rfl, by decide, by decide⟩ ?F (fun _ _ _ _ _ z => z)
    intro w mg fa h Y G hmg0
    obtain ⟨K, KX, c⟩ := Y
    have hmg : mg ("law" : PySem.Str) = some (.ref fa) := by
      have e : (HandSHeadRun.topDef (OpenLaw.row PySem.Challenge.rw_howfar_k06_hands).prog 18).name = ("law" : PySem.Str) := by kernel_rfl
      rw [← e]
      exact hmg0
    obtain ⟨fd, hb, hF⟩ := Hd.facts (P := (PySem.Challenge.rw_howfar_k06_hands).prog) (w := w) KX G hmg c
    have one : ∀ p ∈ [He.cT K ("law", none)], p = He.cT K ("law", none) := fun p hp => by simpa using hp
    refine ⟨K, KX, fd, [He.cT K ("law", none)], Hf.sp_law K, fun p hp => ?_, fun p hp => ?_, fun p hp => ?_, hb, fun H a ns hl _ hT hS => ?_, fun base hK hN hTB => hF base hK hN (hTB _ (by simp))⟩
    · rw [one p hp]; exact c.empty _ (by simp [Hd.tf])
    · rw [one p hp]; exact c.out _ (by simp [Hd.tf])
    · rw [one p hp]; exact PySem.W.codeHd_of_K KX (c.hd _ (by simp [Hd.tf]))
    · have hP := hT _ (List.mem_singleton.mpr rfl)
      refine ⟨ns, fun b => if b = (He.cT K ("law", none)).2 then none else H b, hl, fun b o z => by
        change (if b = (He.cT K ("law", none)).2 then none else H b) = some o at z
        split at z
        · cases z
        · exact z, ⟨⟨a, _, rfl, ?_, Hf.all2_ofInt ns⟩, trivial⟩, if_pos rfl, hP, fun _ => rfl⟩
      have ne : ∀ o, H a = some o → (∀ ps, o ≠ .tbl ps) → a ≠ (He.cT K ("law", none)).2 := fun o z n w => by
        rw [w, hP] at z
        exact n _ (Option.some.inj z).symm
      rcases hS with (hS | ⟨ob, hS⟩) | hS
      · exact .inl (.inl ((if_neg (ne _ hS (fun _ z => by cases z))).trans hS))
      · exact .inl (.inr ⟨ob, (if_neg (ne _ hS (fun _ z => by cases z))).trans hS⟩)
      · exact .inr hS


