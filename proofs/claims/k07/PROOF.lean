import PyProof.Rows.All
import Wide.All
import OpenK.AllK
import Wide.FinOn
import HandS.ForMost
import HandS.ForExc
import HandS.IsInst
import HandS.Evl
import HandS.Wide
import HandS.Defaults
import HandS.Text
import HandS.SetFor
import HandS.SortInts
import HandS.TupSets
import HandS.WideBits
import HandS.Strs
import PySem.Challenge.RW_howfar_k07_whole_few
import KE.KStateDown
import Lean
import HandS.Head0
import HandS.Head1
import HandS.Head2
import HandS.HeadEnd
import HandS.HeadHook1
import HandS.HeadHook2
import HandS.HeadHook3
import HandS.HeadHook4
set_option Elab.async false
set_option linter.all false
set_option maxRecDepth 100000
/-! Hf: typed data over the abstract heap: what a value stands for, in a part of the heap that never changes; wp rules for expressions and statements over typed slots. -/
namespace Hf
open PySem PySem.Spec PyProof.Rows L2

abbrev Ex := Evl.Ex

/-- what a value stands for, by the frozen part of the heap -/
structure Rp (α : Type) where
  rel : Hp → V → α → Prop
  mono : ∀ {G G' : Hp} {v : V} {a : α}, Ex G G' → rel G v a → rel G' v a

def rInt : Rp Int := ⟨fun _ v i => v = .int i, fun _ h => h⟩
def rBool : Rp Bool := ⟨fun _ v i => v = .bl i, fun _ h => h⟩
def rStr : Rp Str := ⟨fun _ v i => v = .str i, fun _ h => h⟩
def rNon : Rp Unit := ⟨fun _ v _ => v = .non, fun _ h => h⟩
/-- any value, told as it is -/
def rV : Rp V := ⟨fun _ v w => v = w, fun _ h => h⟩
def rOpt {α : Type} (r : Rp α) : Rp (Option α) := ⟨fun G v o => match o with
  | none => v = .non
  | some a => r.rel G v a, fun {G G' v a} e h => by
    cases a with
    | none => exact h
    | some a => exact r.mono e h⟩
/-- items one by one -/
inductive All2 {α : Type} (r : Rp α) (G : Hp) : List V → List α → Prop
  | nil : All2 r G [] []
  | cons {v : V} {vs : List V} {a : α} {as : List α} : r.rel G v a → All2 r G vs as → All2 r G (v :: vs) (a :: as)
section
variable {α : Type} {r : Rp α} {G G' : Hp}
theorem All2.mono (e : Ex G G') : ∀ {vs : List V} {as : List α}, All2 r G vs as → All2 r G' vs as
  | _, _, .nil => .nil
  | _, _, .cons h t => .cons (r.mono e h) (All2.mono e t)
theorem All2.length : ∀ {vs : List V} {as : List α}, All2 r G vs as → vs.length = as.length
  | _, _, .nil => rfl
  | _, _, .cons _ t => congrArg (· + 1) (All2.length t)
theorem All2.get : ∀ {vs : List V} {as : List α} {i : Nat} {a : α}, All2 r G vs as → as[i]? = some a → ∃ v, vs[i]? = some v ∧ r.rel G v a
  | _, _, i, a, .nil, e => by cases e
  | _, _, 0, a, .cons h _, e => ⟨_, rfl, by cases e; exact h⟩
  | _, _, i + 1, a, .cons _ t, e => All2.get (i := i) t e
theorem All2.getV : ∀ {vs : List V} {as : List α} {i : Nat} {v : V}, All2 r G vs as → vs[i]? = some v → ∃ a, as[i]? = some a ∧ r.rel G v a
  | _, _, i, a, .nil, e => by cases e
  | _, _, 0, a, .cons h _, e => ⟨_, rfl, by cases e; exact h⟩
  | _, _, i + 1, a, .cons _ t, e => All2.getV (i := i) t e
theorem All2.append : ∀ {vs ws : List V} {as bs : List α}, All2 r G vs as → All2 r G ws bs → All2 r G (vs ++ ws) (as ++ bs)
  | _, _, _, _, .nil, h => h
  | _, _, _, _, .cons h t, k => .cons h (All2.append t k)
theorem All2.one {v : V} {a : α} (h : r.rel G v a) : All2 r G [v] [a] := .cons h .nil
theorem All2.drop : ∀ {vs : List V} {as : List α} (n : Nat), All2 r G vs as → All2 r G (vs.drop n) (as.drop n)
  | _, _, 0, h => h
  | _, _, _ + 1, .nil => .nil
  | _, _, n + 1, .cons _ t => All2.drop n t
theorem All2.take : ∀ {vs : List V} {as : List α} (n : Nat), All2 r G vs as → All2 r G (vs.take n) (as.take n)
  | _, _, 0, _ => .nil
  | _, _, _ + 1, .nil => .nil
  | _, _, n + 1, .cons h t => .cons h (All2.take n t)
theorem All2.set {v : V} {a : α} (h : r.rel G v a) : ∀ {vs : List V} {as : List α} (n : Nat), All2 r G vs as → All2 r G (vs.set n v) (as.set n a)
  | _, _, _, .nil => .nil
  | _, _, 0, .cons _ t => .cons h t
  | _, _, n + 1, .cons k t => .cons k (All2.set h n t)
theorem All2.reverse : ∀ {vs : List V} {as : List α}, All2 r G vs as → All2 r G vs.reverse as.reverse
  | _, _, .nil => .nil
  | _, _, .cons h t => by
    rw [List.reverse_cons, List.reverse_cons]
    exact (All2.reverse t).append (.one h)
theorem all2_int : ∀ {vs : List V} {as : List Int}, All2 rInt G vs as → vs = as.map V.int
  | _, _, .nil => rfl
  | _, _, .cons h t => by rw [h, all2_int t]; rfl
theorem all2_bool : ∀ {vs : List V} {as : List Bool}, All2 rBool G vs as → vs = as.map V.bl
  | _, _, .nil => rfl
  | _, _, .cons h t => by rw [h, all2_bool t]; rfl
theorem all2_str : ∀ {vs : List V} {as : List Str}, All2 rStr G vs as → vs = as.map V.str
  | _, _, .nil => rfl
  | _, _, .cons h t => by rw [h, all2_str t]; rfl
theorem all2_ofInt : ∀ (as : List Int), All2 rInt G (as.map V.int) as
  | [] => .nil
  | _ :: r => .cons rfl (all2_ofInt r)
theorem all2_ofStr : ∀ (as : List Str), All2 rStr G (as.map V.str) as
  | [] => .nil
  | _ :: r => .cons rfl (all2_ofStr r)
end
/-- a list of the frozen part -/
def rLst {α : Type} (r : Rp α) : Rp (List α) := ⟨fun G v as => ∃ p vs, v = .ref p ∧ G p = some (.lst vs) ∧ All2 r G vs as, fun {G G' v a} e ⟨p, vs, h1, h2, h3⟩ => ⟨p, vs, h1, e _ _ h2, h3.mono e⟩⟩
/-- a list that may be the script or of the written part: read only -/
def rSeq (K : PySem.W.Frag) {α : Type} (r : Rp α) : Rp (List α) := ⟨fun G v as => ∃ p vs, v = .ref p ∧ SqL K G p vs ∧ All2 r G vs as, fun {G G' v a} e ⟨p, vs, h1, h2, h3⟩ => ⟨p, vs, h1, Evl.ex_l e h2, h3.mono e⟩⟩
/-- tuples -/
def rT2 (K : PySem.W.Frag) {α β : Type} (r : Rp α) (s : Rp β) : Rp (α × β) := ⟨fun G v a => ∃ p x y, v = .ref p ∧ SqT K G p [x, y] ∧ r.rel G x a.1 ∧ s.rel G y a.2, fun {G G' v a} e ⟨p, x, y, h1, h2, h3, h4⟩ => ⟨p, x, y, h1, Evl.ex_t e h2, r.mono e h3, s.mono e h4⟩⟩
def rT3 (K : PySem.W.Frag) {α β γ : Type} (r : Rp α) (s : Rp β) (t : Rp γ) : Rp (α × β × γ) := ⟨fun G v a => ∃ p x y z, v = .ref p ∧ SqT K G p [x, y, z] ∧ r.rel G x a.1 ∧ s.rel G y a.2.1 ∧ t.rel G z a.2.2, fun {G G' v a} e ⟨p, x, y, z, h1, h2, h3, h4, h5⟩ => ⟨p, x, y, z, h1, Evl.ex_t e h2, r.mono e h3, s.mono e h4, t.mono e h5⟩⟩

/-! ### steps of the two heaps -/
/-- from (G, H) to (G', H'): what is frozen stays, all that was tracked stays; what is frozen anew is new -/
structure Le (G H G' H' : Hp) : Prop where
  g : Ex G G'
  h : Ex H H'
  gh : Ex G' H'
  new : ∀ a o, G' a = some o → G a = none → H a = none
theorem Le.refl {G H : Hp} (e : Ex G H) : Le G H G H := ⟨Evl.Ex.refl _, Evl.Ex.refl _, e, fun a o h1 h2 => by rw [h1] at h2; cases h2⟩
theorem Le.trans {G H G1 H1 G2 H2 : Hp} (a : Le G H G1 H1) (b : Le G1 H1 G2 H2) : Le G H G2 H2 :=
  ⟨a.g.trans b.g, a.h.trans b.h, b.gh, fun x o h1 h2 => by
    cases q : G1 x with
    | some u => exact a.new x u q h2
    | none => exact Evl.fresh_back a.h (b.new x o h1 q)⟩
/-- a new frozen object -/
theorem Le.add {G H G1 H1 : Hp} (a : Le G H G1 H1) {p : Addr} {o : HO} (n : H1 p = none) : Le G H (upd G1 p o) (upd H1 p o) :=
  have n1 : G1 p = none := Evl.fresh_back a.gh n
  ⟨a.g.trans (Evl.Ex.new n1), a.h.trans (Evl.Ex.new n), fun x u h => by
    by_cases e : x = p
    · subst e; rw [upd_same] at h ⊢; exact h
    · rw [upd_ne e] at h ⊢; exact a.gh x u h, fun x u h1 h2 => by
    by_cases e : x = p
    · subst e; exact Evl.fresh_back a.h n
    · rw [upd_ne e] at h1; exact a.new x u h1 h2⟩
/-- a new object that may change -/
theorem Le.addO {G H G1 H1 : Hp} (a : Le G H G1 H1) {p : Addr} {o : HO} (n : H1 p = none) : Le G H G1 (upd H1 p o) :=
  ⟨a.g, a.h.trans (Evl.Ex.new n), a.gh.trans (Evl.Ex.new n), a.new⟩
/-- an object that may change is frozen -/
theorem Le.frz {G H G1 H1 : Hp} (a : Le G H G1 H1) {p : Addr} {o : HO} (hp : H1 p = some o) (n : H p = none) (g1 : G1 p = none) : Le G H (upd G1 p o) H1 :=
  ⟨a.g.trans (Evl.Ex.new g1), a.h, fun x u h => by
    by_cases e : x = p
    · subst e; rw [upd_same] at h; cases h; exact hp
    · rw [upd_ne e] at h; exact a.gh x u h, fun x u h1 h2 => by
    by_cases e : x = p
    · subst e; exact n
    · rw [upd_ne e] at h1; exact a.new x u h1 h2⟩

/-! ### slots -/
/-- what an object that may change holds, by the frozen part -/
structure Oc where
  rel : Hp → HO → Prop
  mono : ∀ {G G' : Hp} {o : HO}, Ex G G' → rel G o → rel G' o
def oLst {α : Type} (r : Rp α) (as : List α) : Oc := ⟨fun G o => ∃ vs, o = .lst vs ∧ All2 r G vs as, fun e ⟨vs, h1, h2⟩ => ⟨vs, h1, h2.mono e⟩⟩
inductive Slot : Type 1 where
  | no
  | sh {α : Type} (r : Rp α) (a : α)
  | ow (c : Oc)
/-- the entry: frozen part, heap, what may be changed of it; F: a frozen part that still stands -/
structure Ent where
  G : Hp
  H : Hp
  M : Addr → Prop := fun _ => False
  F : Hp := fun _ => none
structure LeE (G0 H0 : Hp) (M : Addr → Prop) (G H : Hp) : Prop where
  g : Ex G0 G
  h : ∀ a o, H0 a = some o → (¬ M a ∧ H a = some o) ∨ (M a ∧ ∃ u, H a = some u)
  gh : Ex G H
  new : ∀ a o, G a = some o → G0 a = none → H0 a = none
  m : ∀ a, M a → G0 a = none ∧ ∃ o, H0 a = some o
theorem LeE.step {G0 H0 : Hp} {M : Addr → Prop} {G H G' H' : Hp} (a : LeE G0 H0 M G H) (b : Le G H G' H') : LeE G0 H0 M G' H' := by
  refine ⟨a.g.trans b.g, fun x o e => ?_, b.gh, fun x o h1 h2 => ?_, a.m⟩
  · rcases a.h x o e with ⟨n, h⟩ | ⟨n, u, h⟩
    · exact .inl ⟨n, b.h _ _ h⟩
    · exact .inr ⟨n, u, b.h _ _ h⟩
  · cases q : G x with
    | some u => exact a.new x u q h2
    | none =>
      have z := b.new x o h1 q
      cases w : H0 x with
      | none => rfl
      | some u =>
        rcases a.h x u w with ⟨_, h⟩ | ⟨_, u, h⟩ <;> (rw [z] at h; cases h)
/-- nothing of the entry may change: a plain step -/
theorem LeE.le {G0 H0 : Hp} {M : Addr → Prop} {G H : Hp} (a : LeE G0 H0 M G H) (n : ∀ x, ¬ M x) : Le G0 H0 G H :=
  ⟨a.g, fun x o e => by
    rcases a.h x o e with ⟨_, h⟩ | ⟨m, _⟩
    · exact h
    · exact absurd m (n x), a.gh, a.new⟩
theorem LeE.fresh {G0 H0 : Hp} {M : Addr → Prop} {G H : Hp} (a : LeE G0 H0 M G H) {p : Addr} (n : H p = none) : H0 p = none := by
  cases w : H0 p with
  | none => rfl
  | some u =>
    rcases a.h p u w with ⟨_, h⟩ | ⟨_, u, h⟩ <;> (rw [n] at h; cases h)
theorem LeE.start {G H : Hp} (e : Ex G H) : LeE G H (fun _ => False) G H := ⟨.refl _, fun a o h => .inl ⟨fun q => q, h⟩, e, fun a o h1 h2 => (by rw [h1] at h2; cases h2), fun a q => False.elim q⟩
def Slot.ok (E : Ent) (G H : Hp) (x : Option (Option V)) : Slot → Prop
  | .no => True
  | .sh r a => ∃ v, x = some (some v) ∧ r.rel G v a
  | .ow c => ∃ p o, x = some (some (.ref p)) ∧ G p = none ∧ (E.M p ∨ E.H p = none) ∧ H p = some o ∧ c.rel G o
def Slot.isOw : Slot → Bool
  | .ow _ => true
  | _ => false
structure Holds (E : Ent) (G H : Hp) (σ : L2.St) (Γ : List Slot) : Prop where
  le : LeE E.G E.H E.M G H
  fl : Ex E.F G
  len : σ.length = Γ.length
  ok : ∀ (i : Nat) (s : Slot), Γ[i]? = some s → s.ok E G H σ[i]?
  sep : ∀ (i j : Nat) (s t : Slot), Γ[i]? = some s → Γ[j]? = some t → s.isOw = true → t.isOw = true → σ[i]? = σ[j]? → i = j
section
variable {E : Ent} {G H G' H' : Hp} {σ : L2.St} {Γ : List Slot}
theorem Holds.step (h : Holds E G H σ Γ) (b : Le G H G' H') : Holds E G' H' σ Γ := by
  refine ⟨h.le.step b, h.fl.trans b.g, h.len, fun i s e => ?_, h.sep⟩
  · have k := h.ok i s e
    cases s with
    | no => trivial
    | sh r a =>
      obtain ⟨v, h1, h2⟩ := k
      exact ⟨v, h1, r.mono b.g h2⟩
    | ow c =>
      obtain ⟨p, o, h1, h2, h3, h4, h5⟩ := k
      refine ⟨p, o, h1, ?_, h3, b.h _ _ h4, c.mono b.g h5⟩
      cases q : G' p with
      | none => rfl
      | some u =>
        have z := b.new p u q h2
        rw [z] at h4
        cases h4
theorem Holds.sh {α : Type} {r : Rp α} {a : α} {i : Nat} (h : Holds E G H σ Γ) (e : Γ[i]? = some (.sh r a)) : ∃ v, σ[i]? = some (some v) ∧ r.rel G v a := h.ok i _ e
theorem Holds.ow {c : Oc} {i : Nat} (h : Holds E G H σ Γ) (e : Γ[i]? = some (.ow c)) : ∃ p o, σ[i]? = some (some (.ref p)) ∧ G p = none ∧ (E.M p ∨ E.H p = none) ∧ H p = some o ∧ c.rel G o := h.ok i _ e
theorem get_set.{u} {α : Type u} {l : List α} {i j : Nat} {x y : α} (h : (l.set i x)[j]? = some y) : (i = j ∧ y = x) ∨ (i ≠ j ∧ l[j]? = some y) := by
  rw [List.getElem?_set] at h
  split at h
  · rename_i e
    split at h
    · exact .inl ⟨e, by cases h; rfl⟩
    · cases h
  · rename_i e
    exact .inr ⟨e, h⟩
theorem Holds.set_no {x : Option V} {i : Nat} (h : Holds E G H σ Γ) : Holds E G H (σ.set i x) (Γ.set i .no) :=
  ⟨h.le, h.fl, by rw [List.length_set, List.length_set]; exact h.len, fun j s e => by
    rcases get_set e with ⟨rfl, rfl⟩ | ⟨n, e⟩
    · trivial
    · rw [List.getElem?_set_ne n]
      exact h.ok j s e, fun j k s t e1 e2 o1 o2 q => by
    rcases get_set e1 with ⟨rfl, rfl⟩ | ⟨n1, e1⟩
    · cases o1
    · rcases get_set e2 with ⟨rfl, rfl⟩ | ⟨n2, e2⟩
      · cases o2
      · rw [List.getElem?_set_ne n1, List.getElem?_set_ne n2] at q
        exact h.sep j k s t e1 e2 o1 o2 q⟩
theorem Holds.set_sh {α : Type} {r : Rp α} {a : α} {v : V} {i : Nat} (h : Holds E G H σ Γ) (hv : r.rel G v a) : Holds E G H (σ.set i (some v)) (Γ.set i (.sh r a)) :=
  ⟨h.le, h.fl, by rw [List.length_set, List.length_set]; exact h.len, fun j s e => by
    rcases get_set e with ⟨rfl, rfl⟩ | ⟨n, e⟩
    · refine ⟨v, ?_, hv⟩
      have lt : i < σ.length := by
        rw [h.len]
        have z := (List.getElem?_eq_some_iff.mp e).1
        rw [List.length_set] at z
        exact z
      rw [List.getElem?_set_self lt]
    · rw [List.getElem?_set_ne n]
      exact h.ok j s e, fun j k s t e1 e2 o1 o2 q => by
    rcases get_set e1 with ⟨rfl, rfl⟩ | ⟨n1, e1⟩
    · cases o1
    · rcases get_set e2 with ⟨rfl, rfl⟩ | ⟨n2, e2⟩
      · cases o2
      · rw [List.getElem?_set_ne n1, List.getElem?_set_ne n2] at q
        exact h.sep j k s t e1 e2 o1 o2 q⟩
/-- a new object that may change, in a slot -/
theorem Holds.set_ow {c : Oc} {p : Addr} {o : HO} {i : Nat} (h : Holds E G H σ Γ) (b : Le G H G' H') (n : H p = none) (g : G' p = none) (hp : H' p = some o) (hc : c.rel G' o) : Holds E G' H' (σ.set i (some (.ref p))) (Γ.set i (.ow c)) := by
  have h1 := h.step b
  have other : ∀ (j : Nat) (s : Slot), Γ[j]? = some s → s.isOw = true → σ[j]? ≠ some (some (V.ref p)) := fun j s e w q => by
    cases s with
    | no => cases w
    | sh r a => cases w
    | ow c2 =>
      obtain ⟨p2, o2, k1, _, _, k4, _⟩ := h.ow e
      rw [k1] at q
      cases q
      rw [n] at k4
      cases k4
  have lt : ∀ s : Slot, (Γ.set i (.ow c))[i]? = some s → i < σ.length := fun s e => by
    rw [h.len]
    have z := (List.getElem?_eq_some_iff.mp e).1
    rw [List.length_set] at z
    exact z
  refine ⟨h1.le, h1.fl, by rw [List.length_set, List.length_set]; exact h.len, fun j s e => ?_, fun j k s t e1 e2 o1 o2 q => ?_⟩
  · rcases get_set e with ⟨rfl, rfl⟩ | ⟨nj, e'⟩
    · exact ⟨p, o, by rw [List.getElem?_set_self (lt _ e)], g, .inr (h.le.fresh n), hp, hc⟩
    · rw [List.getElem?_set_ne nj]
      exact h1.ok j s e'
  · rcases get_set e1 with ⟨rfl, rfl⟩ | ⟨n1, e1'⟩
    · rcases get_set e2 with ⟨rfl, rfl⟩ | ⟨n2, e2'⟩
      · rfl
      · rw [List.getElem?_set_self (lt _ e1), List.getElem?_set_ne n2] at q
        exact absurd q.symm (other k t e2' o2)
    · rcases get_set e2 with ⟨rfl, rfl⟩ | ⟨n2, e2'⟩
      · rw [List.getElem?_set_self (lt _ e2), List.getElem?_set_ne n1] at q
        exact absurd q (other j s e1' o1)
      · rw [List.getElem?_set_ne n1, List.getElem?_set_ne n2] at q
        exact h.sep j k s t e1' e2' o1 o2 q
/-- the object in a slot is changed -/
theorem Holds.mut {c c' : Oc} {p : Addr} {o' : HO} {i : Nat} (h : Holds E G H σ Γ) (e : Γ[i]? = some (.ow c)) (hp : σ[i]? = some (some (.ref p))) (hc : c'.rel G o') : Holds E G (upd H p o') σ (Γ.set i (.ow c')) := by
  obtain ⟨p1, o1, k1, k2, k3, k4, k5⟩ := h.ow e
  have ep : p1 = p := by
    rw [hp] at k1
    cases k1
    rfl
  subst ep
  refine ⟨⟨h.le.g, fun a u q => ?_, fun a u q => ?_, h.le.new, h.le.m⟩, h.fl, by rw [List.length_set]; exact h.len, fun j s q => ?_, fun j k s t e1 e2 w1 w2 q => ?_⟩
  · by_cases z : a = p1
    · subst z
      rcases k3 with m | m
      · exact .inr ⟨m, _, upd_same⟩
      · rw [m] at q
        cases q
    · rw [upd_ne z]
      exact h.le.h a u q
  · have z : a ≠ p1 := fun z => by
      subst z
      rw [k2] at q
      cases q
    rw [upd_ne z]
    exact h.le.gh a u q
  · rcases get_set q with ⟨rfl, rfl⟩ | ⟨n, q⟩
    · exact ⟨p1, o', hp, k2, k3, upd_same, hc⟩
    · have w := h.ok j s q
      cases s with
      | no => trivial
      | sh r a => exact w
      | ow c2 =>
        obtain ⟨p2, o2, w1, w2, w3, w4, w5⟩ := w
        have np : p2 ≠ p1 := fun z => by
          subst z
          exact n (h.sep i j _ _ e q rfl rfl (by rw [hp, w1]))
        exact ⟨p2, o2, w1, w2, w3, by rw [upd_ne np]; exact w4, w5⟩
  · have back : ∀ (j : Nat) (s : Slot), (Γ.set i (.ow c'))[j]? = some s → s.isOw = true → ∃ s', Γ[j]? = some s' ∧ s'.isOw = true := fun j s q w => by
      rcases get_set q with ⟨rfl, rfl⟩ | ⟨n, q⟩
      · exact ⟨_, e, rfl⟩
      · exact ⟨_, q, w⟩
    obtain ⟨s', q1, q2⟩ := back j s e1 w1
    obtain ⟨t', q3, q4⟩ := back k t e2 w2
    exact h.sep j k s' t' q1 q3 q2 q4 q
/-- another floor -/
theorem Holds.floor (h : Holds E G H σ Γ) {F : Hp} (e : Ex F G) : Holds { E with F := F } G H σ Γ := by
  refine ⟨h.le, e, h.len, fun i s q => ?_, h.sep⟩
  have k := h.ok i s q
  cases s with
  | no => trivial
  | sh r a => exact k
  | ow c => exact k
theorem Holds.unfloor {F : Hp} (h : Holds { E with F := F } G H σ Γ) (e : Ex E.F G) : Holds E G H σ Γ := by
  refine ⟨h.le, e, h.len, fun i s q => ?_, h.sep⟩
  have k := h.ok i s q
  cases s with
  | no => trivial
  | sh r a => exact k
  | ow c => exact k
/-- less is known of a slot -/
theorem Holds.weak {Γ' : List Slot} (h : Holds E G H σ Γ) (l : Γ'.length = Γ.length) (w : ∀ (i : Nat) (s : Slot), Γ'[i]? = some s → s = .no ∨ Γ[i]? = some s) : Holds E G H σ Γ' :=
  ⟨h.le, h.fl, by rw [l]; exact h.len, fun i s e => by
    rcases w i s e with rfl | q
    · trivial
    · exact h.ok i s q, fun i j s t e1 e2 w1 w2 q => by
    rcases w i s e1 with rfl | q1
    · cases w1
    · rcases w j t e2 with rfl | q2
      · cases w2
      · exact h.sep i j s t q1 q2 w1 w2 q⟩
end

/-! ### weakest preconditions -/
section
variable (X : Cx)
structure WE (e : Expr) (σ : L2.St) (H : Hp) (Q : VK) : Prop where
  run : ∀ (pins : List (Addr × Obj)) (s : Shared), Inv X pins σ H s → wpAny (model X.prog X.w) X.A (eval e X.env) (EP X pins σ Q) X.xe s
structure WT (e : Expr) (σ : L2.St) (H : Hp) (Q : Bool → Hp → Prop) : Prop where
  run : ∀ (pins : List (Addr × Obj)) (s : Shared), Inv X pins σ H s → wpAny (model X.prog X.w) X.A (isTrue e X.env (eval e X.env)) (TP X pins σ Q) X.xe s
structure WW (e : Expr) (σ : L2.St) (H : Hp) (Q : Bool → Hp → Prop) : Prop where
  run : ∀ (whole : Sem Value) (pins : List (Addr × Obj)) (s : Shared), Inv X pins σ H s → wpAny (model X.prog X.w) X.A (isTrue e X.env whole) (TP X pins σ Q) X.xe s
structure WA (es : List Expr) (σ : L2.St) (H : Hp) (Q : List V → Hp → Prop) : Prop where
  run : ∀ (pos : Pos) (pins : List (Addr × Obj)) (s : Shared), Inv X pins σ H s → wpAny (model X.prog X.w) X.A (spliced (backTo pos (starEach es X.env))) (AP X pins σ Q) X.xe s
structure WS (st : Stmt) (σ : L2.St) (H : Hp) (D : Ends) : Prop where
  run : ∀ (pins : List (Addr × Obj)) (s : Shared), Inv X pins σ H s → wpAny (model X.prog X.w) X.A (exec st X.env) (SP X pins D) X.xe s
structure WB (st : List Stmt) (σ : L2.St) (H : Hp) (D : Ends) : Prop where
  run : ∀ (pins : List (Addr × Obj)) (s : Shared), Inv X pins σ H s → wpAny (model X.prog X.w) X.A (execs st X.env) (SP X pins D) X.xe s
end
section
variable {X : Cx} {e : Expr} {es : List Expr} {st : Stmt} {sts : List Stmt} {σ : L2.St} {H : Hp}
theorem WE.pe : PE X e (WE X e) := ⟨fun pins s σ H Q I h => h.run pins s I⟩
theorem WT.pt : PT X e (WT X e) := ⟨fun pins s σ H Q I h => h.run pins s I⟩
theorem WW.pw : PW X e (WW X e) := ⟨fun w pins s σ H Q I h => h.run w pins s I⟩
theorem WA.pa : PA X es (WA X es) := ⟨fun pos pins s σ H Q I h => h.run pos pins s I⟩
theorem WS.ps : PS X st (fun D σ H => WS X st σ H D) := ⟨fun pins s σ H D I h => h.run pins s I⟩
theorem WB.pss : PSs X sts (fun D σ H => WB X sts σ H D) := ⟨fun pins s σ H D I h => h.run pins s I⟩
theorem WE.of {t : TE} {Q : VK} (p : PE X e t) (h : t σ H Q) : WE X e σ H Q := ⟨fun pins s I => p.run pins s σ H Q I h⟩
theorem WT.of {t : TT} {Q : Bool → Hp → Prop} (p : PT X e t) (h : t σ H Q) : WT X e σ H Q := ⟨fun pins s I => p.run pins s σ H Q I h⟩
theorem WW.of {t : TT} {Q : Bool → Hp → Prop} (p : PW X e t) (h : t σ H Q) : WW X e σ H Q := ⟨fun w pins s I => p.run w pins s σ H Q I h⟩
theorem WA.of {t : TA} {Q : List V → Hp → Prop} (p : PA X es t) (h : t σ H Q) : WA X es σ H Q := ⟨fun pos pins s I => p.run pos pins s σ H Q I h⟩
theorem WS.of {t : TS} {D : Ends} (p : PS X st t) (h : t D σ H) : WS X st σ H D := ⟨fun pins s I => p.run pins s σ H D I h⟩
theorem WB.of {t : TS} {D : Ends} (p : PSs X sts t) (h : t D σ H) : WB X sts σ H D := ⟨fun pins s I => p.run pins s σ H D I h⟩
theorem WE.mono {Q Q' : VK} (h : WE X e σ H Q) (k : ∀ v H', Q v H' → Q' v H') : WE X e σ H Q' := ⟨fun pins s I => thn (h.run pins s I) fun _ _ ⟨v, H', I', r, q⟩ => ⟨v, H', I', r, k v H' q⟩⟩
theorem WT.mono {Q Q' : Bool → Hp → Prop} (h : WT X e σ H Q) (k : ∀ v H', Q v H' → Q' v H') : WT X e σ H Q' := ⟨fun pins s I => thn (h.run pins s I) fun _ _ ⟨H', I', q⟩ => ⟨H', I', k _ H' q⟩⟩
end

/-! ### what an expression is worth -/
section
variable (X : Cx) (Γ : List Slot)
/-- worth a, told by r; nothing else changes -/
def Ev (e : Expr) {α : Type} (r : Rp α) (a : α) : Prop := ∀ (E : Ent) (G H : Hp) (σ : L2.St), Holds E G H σ Γ → ∀ Q : VK, (∀ v G' H', Le G H G' H' → r.rel G' v a → Q v H') → WE X e σ H Q
/-- a new object that may change -/
def EvO (e : Expr) (c : Oc) : Prop := ∀ (E : Ent) (G H : Hp) (σ : L2.St), Holds E G H σ Γ → ∀ Q : VK, (∀ p o G' H', H p = none → Le G H G' H' → G' p = none → H' p = some o → c.rel G' o → Q (.ref p) H') → WE X e σ H Q
/-- an object that may change, to be looked at -/
def EvB (e : Expr) (c : Oc) : Prop := ∀ (E : Ent) (G H : Hp) (σ : L2.St), Holds E G H σ Γ → ∀ Q : VK, (∀ p o G' H', Le G H G' H' → H' p = some o → c.rel G' o → Q (.ref p) H') → WE X e σ H Q
def EvT (e : Expr) (b : Bool) : Prop := ∀ (E : Ent) (G H : Hp) (σ : L2.St), Holds E G H σ Γ → ∀ Q : Bool → Hp → Prop, (∀ G' H', Le G H G' H' → Q b H') → WT X e σ H Q
def EvW (e : Expr) (b : Bool) : Prop := ∀ (E : Ent) (G H : Hp) (σ : L2.St), Holds E G H σ Γ → ∀ Q : Bool → Hp → Prop, (∀ G' H', Le G H G' H' → Q b H') → WW X e σ H Q
end
/-- a typed value -/
structure Ty : Type 1 where
  {α : Type}
  r : Rp α
  a : α
def Args (G : Hp) : List V → List Ty → Prop
  | [], [] => True
  | v :: vs, t :: ts => t.r.rel G v t.a ∧ Args G vs ts
  | _, _ => False
theorem Args.mono {G G' : Hp} (e : Ex G G') : ∀ {vs : List V} {ts : List Ty}, Args G vs ts → Args G' vs ts
  | [], [], h => h
  | _ :: _, t :: _, h => ⟨t.r.mono e h.1, Args.mono e h.2⟩
def EvA (X : Cx) (Γ : List Slot) (es : List Expr) (ts : List Ty) : Prop := ∀ (E : Ent) (G H : Hp) (σ : L2.St), Holds E G H σ Γ → ∀ Q : List V → Hp → Prop, (∀ vs G' H', Le G H G' H' → Args G' vs ts → Q vs H') → WA X es σ H Q
section
variable {X : Cx} {Γ : List Slot} {e a b c : Expr} {es : List Expr} {pos : Pos} {α β γ : Type} {r : Rp α} {x : α}
theorem Ev.eq {y : α} (h : Ev X Γ e r x) (q : x = y) : Ev X Γ e r y := q ▸ h
theorem EvT.eq {y z : Bool} (h : EvT X Γ e y) (q : y = z) : EvT X Γ e z := q ▸ h
theorem ea_nil : EvA X Γ [] [] := fun E G H σ h Q q => WA.of pa_nil (q [] G H (.refl h.le.gh) trivial)
theorem ea_cons {t : Ty} {ts : List Ty} (ha : Ev X Γ e t.r t.a) (hr : EvA X Γ es ts) (hs : starEach (e :: es) X.env = (false, eval e X.env) :: starEach es X.env := by rfl) : EvA X Γ (e :: es) (t :: ts) := fun E G H σ h Q q =>
  WA.of (pa_cons WE.pe WA.pa hs) (ha E G H σ h _ fun v G1 H1 l1 r1 => hr E G1 H1 σ (h.step l1) _ fun vs G2 H2 l2 r2 => q _ G2 H2 (l1.trans l2) ⟨t.r.mono l2.g r1, r2⟩)
theorem EvO.bor {c : Oc} (h : EvO X Γ e c) : EvB X Γ e c := fun E G H σ hh Q q => h E G H σ hh Q fun p o G' H' _ l _ h2 h3 => q p o G' H' l h2 h3
/-- a new list is frozen -/
theorem EvO.ev {as : List α} (h : EvO X Γ e (oLst r as)) : Ev X Γ e (rLst r) as := fun E G H σ hh Q q => h E G H σ hh Q fun p o G' H' n l g h2 ⟨vs, e1, h3⟩ => by
  subst e1
  exact q _ (upd G' p (.lst vs)) H' (l.frz h2 n g) ⟨p, vs, rfl, upd_same, h3.mono (Evl.Ex.new g)⟩
/-- a frozen list, looked at -/
theorem Ev.bor {as : List α} (h : Ev X Γ e (rLst r) as) : EvB X Γ e (oLst r as) := fun E G H σ hh Q q => h E G H σ hh Q fun v G' H' l ⟨p, vs, e1, h2, h3⟩ => by
  subst e1
  exact q p _ G' H' l (l.gh _ _ h2) ⟨vs, rfl, h3⟩
theorem ev_v (i : Nat) {y : Str} (hg : Γ[i]? = some (.sh r x) := by rfl) (hN : X.N[i]? = some y := by rfl) (hv : Vis X.env.scope y := by first | exact Or.inl rfl | exact Or.inr (Or.inl rfl) | exact Or.inr (Or.inr rfl)) (hd : (y == ("__debug__" : Str)) = false := by decide)
    (hcd : (y == ("__classdict__" : Str)) = false := by decide) : Ev X Γ (.Name y pos) r x := fun E G H σ h Q q => by
  obtain ⟨v, h1, h2⟩ := h.sh hg
  exact WE.of (pe_var hN hv hd hcd) ⟨v, h1, q v G H (.refl h.le.gh) h2⟩
theorem eb_v (i : Nat) {y : Str} {c : Oc} (hg : Γ[i]? = some (.ow c) := by rfl) (hN : X.N[i]? = some y := by rfl) (hv : Vis X.env.scope y := by first | exact Or.inl rfl | exact Or.inr (Or.inl rfl) | exact Or.inr (Or.inr rfl)) (hd : (y == ("__debug__" : Str)) = false := by decide)
    (hcd : (y == ("__classdict__" : Str)) = false := by decide) : EvB X Γ (.Name y pos) c := fun E G H σ h Q q => by
  obtain ⟨p, o, h1, h2, h3, h4, h5⟩ := h.ow hg
  exact WE.of (pe_var hN hv hd hcd) ⟨_, h1, q p o G H (.refl h.le.gh) h4 h5⟩
theorem ev_int {i : Int} {j : Nat} : Ev X Γ (.Constant (.int i) j pos) rInt i := fun E G H σ h Q q => WE.of pe_int (q _ G H (.refl h.le.gh) rfl)
theorem ev_bool {i : Bool} {j : Nat} : Ev X Γ (.Constant (.bool i) j pos) rBool i := fun E G H σ h Q q => WE.of pe_bl (q _ G H (.refl h.le.gh) rfl)
theorem ev_str {i : Str} {j : Nat} : Ev X Γ (.Constant (.str i) j pos) rStr i := fun E G H σ h Q q => WE.of pe_str (q _ G H (.refl h.le.gh) rfl)
theorem ev_none {j : Nat} : Ev X Γ (.Constant .none j pos) (rOpt r) none := fun E G H σ h Q q => WE.of pe_non (q _ G H (.refl h.le.gh) rfl)
theorem ev_unit {j : Nat} : Ev X Γ (.Constant .none j pos) rNon () := fun E G H σ h Q q => WE.of pe_non (q _ G H (.refl h.le.gh) rfl)
theorem ev_some (h : Ev X Γ e r x) : Ev X Γ e (rOpt r) (some x) := fun E G H σ hh Q q => h E G H σ hh Q fun v G' H' l k => q v G' H' l k
end
end Hf

namespace Hf
open PySem PySem.Spec PyProof.Rows L2

/-! ### operators -/
section
variable {X : Cx} {Γ : List Slot} {e f g : Expr} {es : List Expr} {pos : Pos} {α β γ δ : Type} {r : Rp α} {x : α} {s : Rp β} {y : β} {t : Rp γ} {z : γ} {i j : Int} {p q : Bool} {u v : Str}
/-- what an operator by values gives -/
def Gives (ρ : R2) (r : Rp α) (x : α) (s : Rp β) (y : β) (t : Rp γ) (z : γ) : Prop := ∀ (G H : Hp) (a b : V), Ex G H → r.rel G a x → s.rel G b y → ∀ Q : VK, (∀ c G' H', Le G H G' H' → t.rel G' c z → Q c H') → ρ a b H Q
theorem ev_bin {op : Operator} {ρ : R2} (ho : OpR X (binaryOp op) ρ) (ha : Ev X Γ e r x) (hb : Ev X Γ f s y) (hs : Gives ρ r x s y t z) : Ev X Γ (.BinOp e op f pos) t z := fun E G H σ h Q k =>
  WE.of (pe_op ho WE.pe WE.pe) (ha E G H σ h _ fun a G1 H1 l1 r1 => hb E G1 H1 σ (h.step l1) _ fun b G2 H2 l2 r2 => hs G2 H2 a b l2.gh (r.mono l2.g r1) r2 Q fun c G3 H3 l3 r3 => k c G3 H3 ((l1.trans l2).trans l3) r3)
theorem ev_cmpR {op : CmpOp} {ρ : R2} (ho : OpR X (compareOp op) ρ) (ha : Ev X Γ e r x) (hb : Ev X Γ f s y) (hs : Gives ρ r x s y t z) (hm : behindInMarks op f = false := by first | exact nobehind _ (by decide) (by decide) | rfl) : Ev X Γ (.Compare e [op] [f] pos) t z := fun E G H σ h Q k =>
  WE.of (pe_cmpR ho WE.pe WE.pe hm) (ha E G H σ h _ fun a G1 H1 l1 r1 => hb E G1 H1 σ (h.step l1) _ fun b G2 H2 l2 r2 => hs G2 H2 a b l2.gh (r.mono l2.g r1) r2 Q fun c G3 H3 l3 r3 => k c G3 H3 ((l1.trans l2).trans l3) r3)
theorem et_cmpR {op : CmpOp} {ρ : R2} (ho : OpR X (compareOp op) ρ) (ha : Ev X Γ e r x) (hb : Ev X Γ f s y) (hs : Gives ρ r x s y rBool p) (hm : behindInMarks op f = false := by first | exact nobehind _ (by decide) (by decide) | rfl) : EvT X Γ (.Compare e [op] [f] pos) p := fun E G H σ h Q k =>
  WT.of (pt_cmpR ho WE.pe WE.pe hm) (ha E G H σ h _ fun a G1 H1 l1 r1 => hb E G1 H1 σ (h.step l1) _ fun b G2 H2 l2 r2 => hs G2 H2 a b l2.gh (r.mono l2.g r1) r2 _ fun c G3 H3 l3 r3 => ⟨p, r3, k G3 H3 ((l1.trans l2).trans l3)⟩)
theorem gv_I0 {F : Int → Int → V} {k : Rp γ} (h : ∀ G, k.rel G (F i j) z) : Gives (rI0 F) rInt i rInt j k z := fun G H a b e h1 h2 Q q => ⟨i, j, h1, h2, q _ G H (.refl e) (h G)⟩
theorem gv_I {C : Int → Int → Prop} {F : Int → Int → V} {k : Rp γ} (c : C i j) (h : ∀ G, k.rel G (F i j) z) : Gives (rI C F) rInt i rInt j k z := fun G H a b e h1 h2 Q q => ⟨i, j, h1, h2, c, q _ G H (.refl e) (h G)⟩
theorem ev_add (ha : Ev X Γ e rInt i) (hb : Ev X Γ f rInt j) : Ev X Γ (.BinOp e .Add f pos) rInt (i + j) := ev_bin op_add ha hb (gv_I0 fun _ => rfl)
theorem ev_sub (ha : Ev X Γ e rInt i) (hb : Ev X Γ f rInt j) : Ev X Γ (.BinOp e .Sub f pos) rInt (i - j) := ev_bin op_sub ha hb (gv_I0 fun _ => rfl)
/-- a product: the left | the right one is small -/
theorem ev_mulL (hc : -(2 ^ 64) < i ∧ i < 2 ^ 64) (ha : Ev X Γ e rInt i) (hb : Ev X Γ f rInt j) : Ev X Γ (.BinOp e .Mult f pos) rInt (i * j) := ev_bin op_mul ha hb (gv_I (.inl hc) fun _ => rfl)
theorem ev_mulR (hc : -(2 ^ 64) < j ∧ j < 2 ^ 64) (ha : Ev X Γ e rInt i) (hb : Ev X Γ f rInt j) : Ev X Γ (.BinOp e .Mult f pos) rInt (i * j) := ev_bin op_mul ha hb (gv_I (.inr hc) fun _ => rfl)
theorem ev_mulW (hc : CMulW i j) (ha : Ev X Γ e rInt i) (hb : Ev X Γ f rInt j) : Ev X Γ (.BinOp e .Mult f pos) rInt (i * j) := ev_bin op_mulW ha hb (gv_I hc fun _ => rfl)
theorem ev_div (hc : 0 < j ∧ j < 1073741824) (ha : Ev X Γ e rInt i) (hb : Ev X Γ f rInt j) : Ev X Γ (.BinOp e .FloorDiv f pos) rInt (i / j) := ev_bin op_fdiv ha hb (gv_I hc fun _ => rfl)
theorem ev_divW (hc : CDivW i j) (ha : Ev X Γ e rInt i) (hb : Ev X Γ f rInt j) : Ev X Γ (.BinOp e .FloorDiv f pos) rInt (i / j) := ev_bin op_fdivW ha hb (gv_I hc fun _ => rfl)
theorem ev_mod (hc : 0 < j) (ha : Ev X Γ e rInt i) (hb : Ev X Γ f rInt j) : Ev X Γ (.BinOp e .Mod f pos) rInt (i % j) := ev_bin op_mod ha hb (gv_I hc fun _ => rfl)
theorem ev_pow (hc : CPow i j) (ha : Ev X Γ e rInt i) (hb : Ev X Γ f rInt j) : Ev X Γ (.BinOp e .Pow f pos) rInt (i ^ j.toNat) := ev_bin op_pow ha hb (gv_I hc fun _ => rfl)
theorem ev_neg (ha : Ev X Γ e rInt i) : Ev X Γ (.UnaryOp .USub e pos) rInt (-i) := fun E G H σ h Q k =>
  WE.of (pe_un un_neg WE.pe) (ha E G H σ h _ fun a G1 H1 l1 r1 => ⟨i, r1, k _ G1 H1 l1 rfl⟩)
theorem ev_cat (hl : u.length + v.length ≤ sizeLine) (ha : Ev X Γ e rStr u) (hb : Ev X Γ f rStr v) : Ev X Γ (.BinOp e .Add f pos) rStr (u ++ v) := ev_bin op_add_str ha hb fun G H a b e h1 h2 Q q => ⟨u, v, h1, h2, hl, q _ G H (.refl e) rfl⟩
/-- comparisons of ints -/
theorem ev_lt (ha : Ev X Γ e rInt i) (hb : Ev X Γ f rInt j) : Ev X Γ (.Compare e [.Lt] [f] pos) rBool (decide (i < j)) := ev_cmpR op_lt ha hb (gv_I0 fun _ => rfl)
theorem ev_le (ha : Ev X Γ e rInt i) (hb : Ev X Γ f rInt j) : Ev X Γ (.Compare e [.LtE] [f] pos) rBool (decide (i ≤ j)) := ev_cmpR op_le ha hb (gv_I0 fun _ => rfl)
theorem ev_gt (ha : Ev X Γ e rInt i) (hb : Ev X Γ f rInt j) : Ev X Γ (.Compare e [.Gt] [f] pos) rBool (decide (j < i)) := ev_cmpR op_gt ha hb (gv_I0 fun _ => rfl)
theorem ev_ge (ha : Ev X Γ e rInt i) (hb : Ev X Γ f rInt j) : Ev X Γ (.Compare e [.GtE] [f] pos) rBool (decide (j ≤ i)) := ev_cmpR op_ge ha hb (gv_I0 fun _ => rfl)
theorem et_lt (ha : Ev X Γ e rInt i) (hb : Ev X Γ f rInt j) : EvT X Γ (.Compare e [.Lt] [f] pos) (decide (i < j)) := et_cmpR op_lt ha hb (gv_I0 fun _ => rfl)
theorem et_le (ha : Ev X Γ e rInt i) (hb : Ev X Γ f rInt j) : EvT X Γ (.Compare e [.LtE] [f] pos) (decide (i ≤ j)) := et_cmpR op_le ha hb (gv_I0 fun _ => rfl)
theorem et_gt (ha : Ev X Γ e rInt i) (hb : Ev X Γ f rInt j) : EvT X Γ (.Compare e [.Gt] [f] pos) (decide (j < i)) := et_cmpR op_gt ha hb (gv_I0 fun _ => rfl)
theorem et_ge (ha : Ev X Γ e rInt i) (hb : Ev X Γ f rInt j) : EvT X Γ (.Compare e [.GtE] [f] pos) (decide (j ≤ i)) := et_cmpR op_ge ha hb (gv_I0 fun _ => rfl)
/-- == of flat things -/
theorem gv_eqI : Gives rEq rInt i rInt j rBool (decide (i = j)) := fun G H a b e h1 h2 Q q => by
  cases h1; cases h2
  refine ⟨rfl, q _ G H (.refl e) ?_⟩
  show V.bl _ = V.bl _
  congr 1
  exact decide_eq_decide.mpr (by constructor <;> (intro h; first | (cases h; rfl) | (rw [h])))
theorem gv_neI : Gives rNe rInt i rInt j rBool (!decide (i = j)) := fun G H a b e h1 h2 Q q => by
  cases h1; cases h2
  refine ⟨rfl, q _ G H (.refl e) ?_⟩
  show V.bl _ = V.bl _
  congr 2
  exact decide_eq_decide.mpr (by constructor <;> (intro h; first | (cases h; rfl) | (rw [h])))
theorem gv_eqS : Gives rEq rStr u rStr v rBool (decide (u = v)) := fun G H a b e h1 h2 Q q => by
  cases h1; cases h2
  refine ⟨rfl, q _ G H (.refl e) ?_⟩
  show V.bl _ = V.bl _
  congr 1
  exact decide_eq_decide.mpr (by constructor <;> (intro h; first | (cases h; rfl) | (rw [h])))
theorem gv_neS : Gives rNe rStr u rStr v rBool (!decide (u = v)) := fun G H a b e h1 h2 Q q => by
  cases h1; cases h2
  refine ⟨rfl, q _ G H (.refl e) ?_⟩
  show V.bl _ = V.bl _
  congr 2
  exact decide_eq_decide.mpr (by constructor <;> (intro h; first | (cases h; rfl) | (rw [h])))
theorem gv_eqB : Gives rEq rBool p rBool q rBool (p == q) := fun G H a b e h1 h2 Q k => by
  cases h1; cases h2
  refine ⟨rfl, k _ G H (.refl e) ?_⟩
  cases p <;> cases q <;> rfl
theorem gv_neB : Gives rNe rBool p rBool q rBool (p != q) := fun G H a b e h1 h2 Q k => by
  cases h1; cases h2
  refine ⟨rfl, k _ G H (.refl e) ?_⟩
  cases p <;> cases q <;> rfl
theorem ev_eqI (ha : Ev X Γ e rInt i) (hb : Ev X Γ f rInt j) : Ev X Γ (.Compare e [.Eq] [f] pos) rBool (decide (i = j)) := ev_cmpR op_eq ha hb gv_eqI
theorem ev_neI (ha : Ev X Γ e rInt i) (hb : Ev X Γ f rInt j) : Ev X Γ (.Compare e [.NotEq] [f] pos) rBool (!decide (i = j)) := ev_cmpR op_ne ha hb gv_neI
theorem et_eqI (ha : Ev X Γ e rInt i) (hb : Ev X Γ f rInt j) : EvT X Γ (.Compare e [.Eq] [f] pos) (decide (i = j)) := et_cmpR op_eq ha hb gv_eqI
theorem et_neI (ha : Ev X Γ e rInt i) (hb : Ev X Γ f rInt j) : EvT X Γ (.Compare e [.NotEq] [f] pos) (!decide (i = j)) := et_cmpR op_ne ha hb gv_neI
theorem ev_eqS (ha : Ev X Γ e rStr u) (hb : Ev X Γ f rStr v) : Ev X Γ (.Compare e [.Eq] [f] pos) rBool (decide (u = v)) := ev_cmpR op_eq ha hb gv_eqS
theorem ev_neS (ha : Ev X Γ e rStr u) (hb : Ev X Γ f rStr v) : Ev X Γ (.Compare e [.NotEq] [f] pos) rBool (!decide (u = v)) := ev_cmpR op_ne ha hb gv_neS
theorem et_eqS (ha : Ev X Γ e rStr u) (hb : Ev X Γ f rStr v) : EvT X Γ (.Compare e [.Eq] [f] pos) (decide (u = v)) := et_cmpR op_eq ha hb gv_eqS
theorem et_neS (ha : Ev X Γ e rStr u) (hb : Ev X Γ f rStr v) : EvT X Γ (.Compare e [.NotEq] [f] pos) (!decide (u = v)) := et_cmpR op_ne ha hb gv_neS
theorem ev_eqB (ha : Ev X Γ e rBool p) (hb : Ev X Γ f rBool q) : Ev X Γ (.Compare e [.Eq] [f] pos) rBool (p == q) := ev_cmpR op_eq ha hb gv_eqB
theorem ev_neB (ha : Ev X Γ e rBool p) (hb : Ev X Γ f rBool q) : Ev X Γ (.Compare e [.NotEq] [f] pos) rBool (p != q) := ev_cmpR op_ne ha hb gv_neB
theorem et_eqB (ha : Ev X Γ e rBool p) (hb : Ev X Γ f rBool q) : EvT X Γ (.Compare e [.Eq] [f] pos) (p == q) := et_cmpR op_eq ha hb gv_eqB
theorem et_neB (ha : Ev X Γ e rBool p) (hb : Ev X Γ f rBool q) : EvT X Γ (.Compare e [.NotEq] [f] pos) (p != q) := et_cmpR op_ne ha hb gv_neB
/-- two comparisons in a chain -/
theorem ev_chain {op op' : CmpOp} {ρ ρ' : R2} (ho : OpR X (compareOp op) ρ) (ho' : OpR X (compareOp op') ρ') (ha : Ev X Γ e r x) (hb : Ev X Γ f s y) (hc : p = true → Ev X Γ g t z) (h1 : Gives ρ r x s y rBool p) (h2 : p = true → Gives ρ' s y t z rBool q)
    (hm : lastMarks [op, op'] [f, g] = false := by with_unfolding_all rfl) : Ev X Γ (.Compare e [op, op'] [f, g] pos) rBool (p && q) := fun E G H σ h Q k =>
  WE.of (pe_chain ho ho' WE.pe WE.pe WE.pe hm) (ha E G H σ h _ fun a G1 H1 l1 r1 => hb E G1 H1 σ (h.step l1) _ fun b G2 H2 l2 r2 => h1 G2 H2 a b l2.gh (r.mono l2.g r1) r2 _ fun c G3 H3 l3 r3 => ⟨p, r3, by
    have l := (l1.trans l2).trans l3
    cases p with
    | false =>
      rw [if_neg Bool.false_ne_true]
      exact k _ G3 H3 l rfl
    | true =>
      rw [if_pos rfl]
      exact hc rfl E G3 H3 σ (h.step l) _ fun d G4 H4 l4 r4 => h2 rfl G4 H4 b d l4.gh (s.mono (l3.trans l4).g r2) r4 Q fun c G5 H5 l5 r5 => k c G5 H5 ((l.trans l4).trans l5) r5⟩)
theorem et_chain {op op' : CmpOp} {ρ ρ' : R2} (ho : OpR X (compareOp op) ρ) (ho' : OpR X (compareOp op') ρ') (ha : Ev X Γ e r x) (hb : Ev X Γ f s y) (hc : p = true → Ev X Γ g t z) (h1 : Gives ρ r x s y rBool p) (h2 : p = true → Gives ρ' s y t z rBool q)
    (hm : lastMarks [op, op'] [f, g] = false := by with_unfolding_all rfl) : EvT X Γ (.Compare e [op, op'] [f, g] pos) (p && q) := fun E G H σ h Q k =>
  WT.of (pt_chain ho ho' WE.pe WE.pe WE.pe hm) (ha E G H σ h _ fun a G1 H1 l1 r1 => hb E G1 H1 σ (h.step l1) _ fun b G2 H2 l2 r2 => h1 G2 H2 a b l2.gh (r.mono l2.g r1) r2 _ fun c G3 H3 l3 r3 => ⟨p, r3, by
    have l := (l1.trans l2).trans l3
    cases p with
    | false =>
      rw [if_neg Bool.false_ne_true]
      exact ⟨false, rfl, k G3 H3 l⟩
    | true =>
      rw [if_pos rfl]
      exact hc rfl E G3 H3 σ (h.step l) _ fun d G4 H4 l4 r4 => h2 rfl G4 H4 b d l4.gh (s.mono (l3.trans l4).g r2) r4 _ fun c G5 H5 l5 r5 => ⟨q, r5, k G5 H5 ((l.trans l4).trans l5)⟩⟩)
theorem gv_lt : Gives (rI0 fun i j => .bl (decide (i < j))) rInt i rInt j rBool (decide (i < j)) := gv_I0 fun _ => rfl
theorem gv_le : Gives (rI0 fun i j => .bl (decide (i ≤ j))) rInt i rInt j rBool (decide (i ≤ j)) := gv_I0 fun _ => rfl
theorem gv_gt : Gives (rI0 fun i j => .bl (decide (j < i))) rInt i rInt j rBool (decide (j < i)) := gv_I0 fun _ => rfl
theorem gv_ge : Gives (rI0 fun i j => .bl (decide (j ≤ i))) rInt i rInt j rBool (decide (j ≤ i)) := gv_I0 fun _ => rfl

/-! ### tests, and, or, not -/
theorem et_val (h : Ev X Γ e rBool p) (he : ∀ whole, isTrue e X.env whole = (do let v ← whole; standAt e.pos; holding [v] (truthy v)) := by intro _; rfl) : EvT X Γ e p := fun E G H σ hh Q k =>
  WT.of (pt_val WE.pe he) (h E G H σ hh _ fun a G1 H1 l1 r1 => ⟨p, r1, k G1 H1 l1⟩)
theorem et_not (h : EvT X Γ e p) : EvT X Γ (.UnaryOp .Not e pos) (!p) := fun E G H σ hh Q k => WT.of (pt_not WT.pt) (h E G H σ hh _ fun G1 H1 l1 => k G1 H1 l1)
theorem ev_not (h : Ev X Γ e rBool p) : Ev X Γ (.UnaryOp .Not e pos) rBool (!p) := fun E G H σ hh Q k => WE.of (pe_not WE.pe) (h E G H σ hh _ fun a G1 H1 l1 r1 => ⟨p, r1, k _ G1 H1 l1 rfl⟩)
theorem et_bool (h : EvW X Γ e p) : EvT X Γ e p := fun E G H σ hh Q k => WT.of WW.pw.pt (h E G H σ hh Q k)
theorem ew_and1 (h : EvT X Γ e p) : EvW X Γ (.BoolOp .And [e] pos) p := fun E G H σ hh Q k => WW.of (pw_and1 WT.pt) (h E G H σ hh Q k)
theorem ew_or1 (h : EvT X Γ e p) : EvW X Γ (.BoolOp .Or [e] pos) p := fun E G H σ hh Q k => WW.of (pw_or1 WT.pt) (h E G H σ hh Q k)
theorem ew_and (h : EvT X Γ e p) (h2 : p = true → EvW X Γ (.BoolOp .And (f :: es) pos) q) : EvW X Γ (.BoolOp .And (e :: f :: es) pos) (p && q) := fun E G H σ hh Q k => WW.of (pw_and WT.pt WW.pw) (h E G H σ hh _ fun G1 H1 l1 => by
  cases p with
  | false =>
    rw [if_neg Bool.false_ne_true]
    exact k G1 H1 l1
  | true =>
    rw [if_pos rfl]
    exact h2 rfl E G1 H1 σ (hh.step l1) Q fun G2 H2 l2 => k G2 H2 (l1.trans l2))
theorem ew_or (h : EvT X Γ e p) (h2 : p = false → EvW X Γ (.BoolOp .Or (f :: es) pos) q) : EvW X Γ (.BoolOp .Or (e :: f :: es) pos) (p || q) := fun E G H σ hh Q k => WW.of (pw_or WT.pt WW.pw) (h E G H σ hh _ fun G1 H1 l1 => by
  cases p with
  | true =>
    rw [if_pos rfl]
    exact k G1 H1 l1
  | false =>
    rw [if_neg Bool.false_ne_true]
    exact h2 rfl E G1 H1 σ (hh.step l1) Q fun G2 H2 l2 => k G2 H2 (l1.trans l2))
theorem ev_one {op : BoolOp} (h : Ev X Γ e r x) : Ev X Γ (.BoolOp op [e] pos) r x := fun E G H σ hh Q k => WE.of (pe_one WE.pe) (h E G H σ hh Q k)
theorem ev_and (h : Ev X Γ e rBool p) (h2 : p = true → Ev X Γ (.BoolOp .And (f :: es) pos) rBool q) : Ev X Γ (.BoolOp .And (e :: f :: es) pos) rBool (p && q) := fun E G H σ hh Q k => WE.of (pe_and WE.pe WE.pe) (h E G H σ hh _ fun a G1 H1 l1 r1 => ⟨p, r1, by
  cases p with
  | false =>
    rw [if_neg Bool.false_ne_true]
    exact k _ G1 H1 l1 rfl
  | true =>
    rw [if_pos rfl]
    exact h2 rfl E G1 H1 σ (hh.step l1) Q fun a G2 H2 l2 r2 => k a G2 H2 (l1.trans l2) r2⟩)
theorem ev_or (h : Ev X Γ e rBool p) (h2 : p = false → Ev X Γ (.BoolOp .Or (f :: es) pos) rBool q) : Ev X Γ (.BoolOp .Or (e :: f :: es) pos) rBool (p || q) := fun E G H σ hh Q k => WE.of (pe_or WE.pe WE.pe) (h E G H σ hh _ fun a G1 H1 l1 r1 => ⟨p, r1, by
  cases p with
  | true =>
    rw [if_pos rfl]
    exact k _ G1 H1 l1 rfl
  | false =>
    rw [if_neg Bool.false_ne_true]
    exact h2 rfl E G1 H1 σ (hh.step l1) Q fun a G2 H2 l2 r2 => k a G2 H2 (l1.trans l2) r2⟩)
theorem ev_ifE {x' : α} (h : EvT X Γ e p) (h1 : p = true → Ev X Γ f r x) (h2 : p = false → Ev X Γ g r x') : Ev X Γ (.IfExp e f g pos) r (if p = true then x else x') := fun E G H σ hh Q k => WE.of (pe_ifExp WT.pt WE.pe WE.pe) (h E G H σ hh _ fun G1 H1 l1 => by
  cases p with
  | true =>
    rw [if_pos rfl] at k ⊢
    exact h1 rfl E G1 H1 σ (hh.step l1) Q fun a G2 H2 l2 r2 => k a G2 H2 (l1.trans l2) r2
  | false =>
    rw [if_neg Bool.false_ne_true] at k ⊢
    exact h2 rfl E G1 H1 σ (hh.step l1) Q fun a G2 H2 l2 r2 => k a G2 H2 (l1.trans l2) r2)
/-- an arm that is taken for sure -/
theorem ev_ifT (h : EvT X Γ e true) (h1 : Ev X Γ f r x) : Ev X Γ (.IfExp e f g pos) r x := (ev_ifE (x' := x) (g := g) h (fun _ => h1) (fun q => by cases q)).eq (if_pos rfl)
theorem ev_ifF (h : EvT X Γ e false) (h1 : Ev X Γ g r x) : Ev X Γ (.IfExp e f g pos) r x := (ev_ifE (x := x) (f := f) h (fun q => by cases q) (fun _ => h1)).eq (if_neg Bool.false_ne_true)
end
end Hf

namespace Hf
open PySem PySem.Spec PyProof.Rows L2

/-! ### blocks of statements -/
/-- from any state that these slots tell, the block leads where D wants -/
def Bk (X : Cx) (E : Ent) (Γ : List Slot) (sts : List Stmt) (D : Ends) : Prop := ∀ (G H : Hp) (σ : L2.St), Holds E G H σ Γ → WB X sts σ H D
/-- some state that these slots tell -/
def At (E : Ent) (Γ : List Slot) (σ : L2.St) (H : Hp) : Prop := ∃ G, Holds E G H σ Γ
/-- what comes behind a block -/
abbrev thenD (X : Cx) (rest : List Stmt) (D : Ends) : Ends := { D with nx := fun σ H => WB X rest σ H D }
/-- an answer is told -/
def RetOk (E : Ent) (D : Ends) {α : Type} (r : Rp α) (a : α) : Prop := ∀ v G H, LeE E.G E.H E.M G H → r.rel G v a → D.rt v H
/-- an answer that is a new object -/
def RetO (E : Ent) (D : Ends) (c : Oc) : Prop := ∀ p o G H, LeE E.G E.H E.M G H → G p = none → E.H p = none → H p = some o → c.rel G o → D.rt (.ref p) H
section
variable {X : Cx} {E : Ent} {Γ Γ' : List Slot} {D : Ends} {e f g : Expr} {es : List Expr} {st : Stmt} {rest body : List Stmt} {pos : Pos} {α β γ : Type} {r : Rp α} {x : α} {s : Rp β} {y : β} {t : Rp γ} {z : γ}
theorem RetOk.eq {x' : α} (h : RetOk E D r x) (q : x = x') : RetOk E D r x' := q ▸ h
theorem bk_end (h : ∀ G H σ, Holds E G H σ Γ → D.nx σ H) : Bk X E Γ [] D := fun G H σ hh => WB.of pss_nil (h G H σ hh)
/-- the end of an inner block: on with what follows -/
theorem bk_then (h : Bk X E Γ rest D) : Bk X E Γ [] (thenD X rest D) := bk_end h
theorem bk_at (h : ∀ σ H, At E Γ σ H → D.nx σ H) : Bk X E Γ [] D := bk_end fun G H σ hh => h σ H ⟨G, hh⟩
theorem bk_of {t : TS} (p : PS X st t) (h : ∀ G H σ, Holds E G H σ Γ → t (thenD X rest D) σ H) : Bk X E Γ (st :: rest) D := fun G H σ hh => WB.of (pss_cons p WB.pss) (h G H σ hh)
theorem bk_weak (h : Bk X E Γ' rest D) (l : Γ'.length = Γ.length) (w : ∀ (i : Nat) (s : Slot), Γ'[i]? = some s → s = .no ∨ Γ[i]? = some s) : Bk X E Γ rest D := fun G H σ hh => h G H σ (hh.weak l w)
/-- x = e -/
theorem bk_set (i : Nat) {a : Str} {p : Pos} (nd : X.N.Nodup) (he : Ev X Γ e r x) (k : Bk X E (Γ.set i (.sh r x)) rest D) (hi : X.N[i]? = some a := by rfl) (hx : Loc X.env.scope a := by first | exact Or.inl rfl | exact Or.inr rfl)
    (hs : swapsWith e (some (.Name a p)) pos.line X.env = pure false := by rfl) (hf : X.fn a = true ∨ X.env.scope.names.lookup a = some .local := by first | exact .inl rfl | exact .inr rfl) : Bk X E Γ (.Assign [.Name a p] e pos :: rest) D :=
  bk_of (ps_set nd hi hx WE.pe hs hf) fun G H σ hh => he E G H σ hh _ fun v G1 H1 l1 r1 => k G1 H1 _ ((hh.step l1).set_sh r1)
/-- x = e, e a new object that will change -/
theorem bk_setO (i : Nat) {a : Str} {p : Pos} {c : Oc} (nd : X.N.Nodup) (he : EvO X Γ e c) (k : Bk X E (Γ.set i (.ow c)) rest D) (hi : X.N[i]? = some a := by rfl) (hx : Loc X.env.scope a := by first | exact Or.inl rfl | exact Or.inr rfl)
    (hs : swapsWith e (some (.Name a p)) pos.line X.env = pure false := by rfl) (hf : X.fn a = true ∨ X.env.scope.names.lookup a = some .local := by first | exact .inl rfl | exact .inr rfl) : Bk X E Γ (.Assign [.Name a p] e pos :: rest) D :=
  bk_of (ps_set nd hi hx WE.pe hs hf) fun G H σ hh => he E G H σ hh _ fun q o G1 H1 n l1 g1 h1 c1 => k G1 H1 _ (hh.set_ow l1 n g1 h1 c1)
theorem bk_ret (he : Ev X Γ e r x) (k : RetOk E D r x) : Bk X E Γ (.Return (some e) pos :: rest) D :=
  bk_of (ps_ret WE.pe) fun G H σ hh => he E G H σ hh _ fun v G1 H1 l1 r1 => k v G1 H1 (hh.step l1).le r1
theorem bk_retO {c : Oc} (he : EvO X Γ e c) (k : RetO E D c) : Bk X E Γ (.Return (some e) pos :: rest) D :=
  bk_of (ps_ret WE.pe) fun G H σ hh => he E G H σ hh _ fun q o G1 H1 n l1 g1 h1 c1 => k q o G1 H1 (hh.step l1).le g1 (hh.le.fresh n) h1 c1
/-- a list of one's own is handed back -/
theorem bk_retv (i : Nat) {a : Str} {c : Oc} {p : Pos} (k : RetO E D c) (hm : ∀ q, ¬ E.M q) (hg : Γ[i]? = some (.ow c) := by rfl) (hN : X.N[i]? = some a := by rfl) (hv : Vis X.env.scope a := by first | exact Or.inl rfl | exact Or.inr (Or.inl rfl) | exact Or.inr (Or.inr rfl))
    (hd : (a == ("__debug__" : Str)) = false := by decide) (hcd : (a == ("__classdict__" : Str)) = false := by decide) : Bk X E Γ (.Return (some (.Name a p)) pos :: rest) D :=
  bk_of (ps_ret (pe_var hN hv hd hcd)) fun G H σ hh => by
    obtain ⟨q, o, h1, h2, h3, h4, h5⟩ := hh.ow hg
    exact ⟨_, h1, k q o G H hh.le h2 (h3.elim (fun m => absurd m (hm q)) id) h4 h5⟩
theorem bk_if {c : Expr} {A B : List Stmt} {p : Bool} (hc : EvT X Γ c p) (ha : p = true → Bk X E Γ A (thenD X rest D)) (hb : p = false → Bk X E Γ B (thenD X rest D)) : Bk X E Γ (.If c A B pos :: rest) D :=
  bk_of (ps_if WT.pt WB.pss WB.pss) fun G H σ hh => hc E G H σ hh _ fun G1 H1 l1 => by
    cases p with
    | true =>
      rw [if_pos rfl]
      exact ha rfl G1 H1 σ (hh.step l1)
    | false =>
      rw [if_neg Bool.false_ne_true]
      exact hb rfl G1 H1 σ (hh.step l1)
theorem bk_expr (he : Ev X Γ e r x) (k : Bk X E Γ rest D) (hs : swapsWith e none pos.line X.env = pure false := by rfl) : Bk X E Γ (.Expr e pos :: rest) D :=
  bk_of (ps_expr WE.pe hs) fun G H σ hh => he E G H σ hh _ fun v G1 H1 l1 r1 => k G1 H1 _ (hh.step l1)
/-- x, y = a, b -/
theorem bk_par (i j : Nat) {a b : Str} {e1 e2 : Expr} {px py pt : Pos} {kt k2 : Nat} {pt2 : Pos} (nd : X.N.Nodup) (h1 : Ev X Γ e1 r x) (h2 : Ev X Γ e2 s y) (k : Bk X E ((Γ.set i (.sh r x)).set j (.sh s y)) rest D) (hc : X.calm = true := by rfl) (hi : X.N[i]? = some a := by rfl) (hj : X.N[j]? = some b := by rfl) (hij : i ≠ j := by decide)
    (hx : X.env.scope.names.lookup a = some .local := by rfl) (hy : X.env.scope.names.lookup b = some .local := by rfl) (hs1 : starEach (e1 :: [e2]) X.env = (false, eval e1 X.env) :: starEach [e2] X.env := by rfl) (hs2 : starEach (e2 :: []) X.env = (false, eval e2 X.env) :: starEach [] X.env := by rfl)
    (hw : swappedStores [.Tuple [.Name a px, .Name b py] kt pt] (.Tuple [e1, e2] k2 pt2) X.env = pure (some [a, b]) := by rfl)
    (hs : swapsWithSole [.Tuple [.Name a px, .Name b py] kt pt] (.Tuple [e1, e2] k2 pt2) pos.line X.env = pure false := by rfl) : Bk X E Γ (.Assign [.Tuple [.Name a px, .Name b py] kt pt] (.Tuple [e1, e2] k2 pt2) pos :: rest) D :=
  bk_of (ps_par hc nd hi hj hij hx hy (pa_cons WE.pe (pa_cons WE.pe pa_nil hs2) hs1) hw hs) fun G H σ hh => h1 E G H σ hh _ fun v G1 H1 l1 r1 => h2 E G1 H1 σ (hh.step l1) _ fun w G2 H2 l2 r2 =>
    ⟨v, w, rfl, k G2 H2 _ ((((hh.step l1).step l2).set_sh (r.mono l2.g r1)).set_sh r2)⟩

/-! ### where a value is stored -/
/-- alike but at these places -/
def SameBut (vs : List Nat) (σ σ' : L2.St) : Prop := σ'.length = σ.length ∧ ∀ i, i ∉ vs → σ'[i]? = σ[i]?
theorem SameBut.set {i : Nat} {x : Option V} {σ : L2.St} : SameBut [i] σ (σ.set i x) := ⟨by rw [List.length_set], fun j hj => by
  rw [List.getElem?_set_ne]
  intro e
  exact hj (by simp [e])⟩
theorem SameBut.trans {vs ws : List Nat} {σ σ' σ'' : L2.St} (a : SameBut vs σ σ') (b : SameBut ws σ' σ'') : SameBut (vs ++ ws) σ σ'' := ⟨b.1.trans a.1, fun i hi => by
  rw [List.mem_append, not_or] at hi
  rw [b.2 i hi.2, a.2 i hi.1]⟩
/-- a store by a rule -/
structure WG (X : Cx) (tg : Expr) (v : V) (σ : L2.St) (H : Hp) (Q : L2.St → Hp → Prop) : Prop where
  run : ∀ (pins : List (Addr × Obj)) (s : Shared) (u : Value), Inv X pins σ H s → RelV v u → wpAny (model X.prog X.w) X.A (assign tg X.env u) (fun _ s' => ∃ σ' H', Inv X pins σ' H' s' ∧ Q σ' H') X.xe s
theorem WG.pg {X : Cx} {tg : Expr} : PG X tg (WG X tg) := ⟨fun pins s σ H v u Q I r h => h.run pins s u I r⟩
theorem WG.of {X : Cx} {tg : Expr} {t : TG} {v : V} {σ : L2.St} {H : Hp} {Q : L2.St → Hp → Prop} (p : PG X tg t) (h : t v σ H Q) : WG X tg v σ H Q := ⟨fun pins s u I r => p.run pins s σ H v u Q I r h⟩
def TgOk (X : Cx) (tg : Expr) (r : Rp α) (U : α → List Slot → List Slot) (vs : List Nat) : Prop := ∀ (E : Ent) (G H : Hp) (σ : L2.St) (Γ : List Slot) (v : V) (a : α), Holds E G H σ Γ → r.rel G v a → ∀ Q : L2.St → Hp → Prop, (∀ σ', SameBut vs σ σ' → Holds E G H σ' (U a Γ) → Q σ' H) → WG X tg v σ H Q
theorem tg_name (i : Nat) {a : Str} (nd : X.N.Nodup) (hi : X.N[i]? = some a := by rfl) (hx : Loc X.env.scope a := by first | exact Or.inl rfl | exact Or.inr rfl) (hf : X.fn a = true ∨ X.env.scope.names.lookup a = some .local := by first | exact .inl rfl | exact .inr rfl) :
    TgOk X (.Name a pos) r (fun a Γ => Γ.set i (.sh r a)) [i] := fun E G H σ Γ v a hh hv Q q => WG.of (pg_name nd hi hx hf) (q _ .set (hh.set_sh hv))
theorem tg_tup2 {t1 t2 : Expr} {n : Nat} {U : α → List Slot → List Slot} {W : β → List Slot → List Slot} {vs ws : List Nat} (h1 : TgOk X t1 r U vs) (h2 : TgOk X t2 s W ws) (hc : X.calm = true := by rfl) (hs1 : (assignEach (t1 :: [t2]) X.env).map (·.2) = assign t1 X.env :: (assignEach [t2] X.env).map (·.2) := by rfl)
    (hs2 : (assignEach (t2 :: []) X.env).map (·.2) = assign t2 X.env :: (assignEach [] X.env).map (·.2) := by rfl) (hn : (assignEach [t1, t2] X.env).length = 2 := by rfl) (hst : (assignEach [t1, t2] X.env).findIdx? (·.1) = none := by rfl) :
    TgOk X (.Tuple [t1, t2] n pos) (rT2 X.K r s) (fun a Γ => W a.2 (U a.1 Γ)) (vs ++ ws) := fun E G H σ Γ v a hh hv Q q => by
  obtain ⟨p, v1, v2, e, hp, q1, q2⟩ := hv
  subst e
  refine WG.of (pg_tup hc (pgs_cons (t := WG X t1) WG.pg (pgs_cons (t := WG X t2) WG.pg pgs_nil hs2) hs1) hn hst) ⟨p, [v1, v2], rfl, Evl.ex_t hh.le.gh hp, rfl, v1, [v2], rfl, ?_⟩
  exact h1 E G H σ Γ v1 a.1 hh q1 _ fun σ1 b1 hh1 => ⟨v2, [], rfl, h2 E G H σ1 _ v2 a.2 hh1 q2 _ fun σ2 b2 hh2 => ⟨rfl, q σ2 (b1.trans b2) hh2⟩⟩

/-! ### what is walked -/
/-- the items that an iterator gives, one behind another, whatever else is done meanwhile -/
def ItOk (J : It) (G0 : Hp) (r : Rp α) (xs : List α) : Prop := ∀ (i : Nat) (G H : Hp), Ex G0 G → Ex G H →
  (∀ a, xs[i]? = some a → J.go i H ∧ ∀ x H', J.yld i H x H' → ∃ G', Le G H G' H' ∧ r.rel G' x a) ∧ (xs.length ≤ i → J.stop i H)
def EvI (X : Cx) (Γ : List Slot) (tg iter : Expr) (r : Rp α) (xs : List α) : Prop := ∃ wi : TI, PI X tg iter wi ∧ ∀ (E : Ent) (G H : Hp) (σ : L2.St), Holds E G H σ Γ → ∀ R : It → Hp → Prop, (∀ J G' H', Le G H G' H' → ItOk J G' r xs → R J H') → wi σ H R
theorem ei_seq {tg : Expr} {xs : List α} (h : Ev X Γ e (rSeq X.K r) xs) : EvI X Γ tg e r xs := ⟨_, pi_list WE.pe, fun E G H σ hh R q => h E G H σ hh _ fun v G1 H1 l1 ⟨p, vs, e1, hp, ha⟩ =>
  ⟨p, e1, ⟨vs, Evl.ex_l l1.gh hp⟩, q _ G1 H1 l1 fun i G2 H2 g1 g2 => ⟨fun a ea => by
    obtain ⟨v, ev, rv⟩ := ha.get ea
    have hp2 := Evl.ex_l (g1.trans g2) hp
    exact ⟨⟨vs, v, hp2, ev⟩, fun x H' y => by
      obtain ⟨e3, y2⟩ := y
      have e4 := y2 vs hp2
      rw [ev] at e4
      cases e4
      rw [e3]
      exact ⟨G2, .refl g2, r.mono g1 rv⟩⟩, fun le => ⟨vs, Evl.ex_l (g1.trans g2) hp, by rw [ha.length]; exact le⟩⟩⟩⟩
theorem Ev.seq {xs : List α} (h : Ev X Γ e (rLst r) xs) : Ev X Γ e (rSeq X.K r) xs := fun E G H σ hh Q q => h E G H σ hh Q fun v G1 H1 l1 ⟨p, vs, e1, hp, ha⟩ => q v G1 H1 l1 ⟨p, vs, e1, .inl (.inl hp), ha⟩
theorem ei_lst {tg : Expr} {xs : List α} (h : Ev X Γ e (rLst r) xs) : EvI X Γ tg e r xs := ei_seq h.seq
/-- range(n) -/
def rangeL (lo : Int) (n : Nat) : List Int := (List.range n).map fun i : Nat => lo + (i : Int)
theorem ei_range1 {tg : Expr} {p : Pos} {n : Int} (h : Ev X Γ e rInt n) (hn : -(2 ^ 62) ≤ n ∧ n < 2 ^ 62) (hm : X.mg "range" = none) (hg : Gl X "range" := by rfl) (hs : starEach [e] X.env = [(false, eval e X.env)] := by rfl) (hs2 : starEach (e :: []) X.env = (false, eval e X.env) :: starEach [] X.env := by rfl) :
    EvI X Γ tg (.Call (.Name "range" p) [e] [] pos) rInt (rangeL 0 n.toNat) := ⟨_, pi_range1 hg hm (pa_cons WE.pe pa_nil hs2) hs, fun E G H σ hh R q => h E G H σ hh _ fun v G1 H1 l1 r1 => by
  refine ⟨n, by rw [show v = _ from r1], hn.1, hn.2, q _ G1 H1 l1 fun i G2 H2 g1 g2 => ⟨fun a ea => ?_, fun le => ?_⟩⟩
  · have lt : i < n.toNat := by
      have z := (List.getElem?_eq_some_iff.mp ea).1
      simpa [rangeL] using z
    refine ⟨lt, fun x H' y => ?_⟩
    obtain ⟨e1, e2⟩ := y
    subst e1
    refine ⟨G2, .refl g2, ?_⟩
    have : a = 0 + (i : Int) := by
      rw [rangeL, List.getElem?_map, List.getElem?_range lt] at ea
      exact (Option.some.inj ea).symm
    rw [e2, this]
    rfl
  · have z : (rangeL 0 n.toNat).length = n.toNat := by simp [rangeL]
    rw [z] at le
    exact le⟩

/-! ### for -/
/-- for: I tells what holds of the data that the turns change, mk the slots -/
theorem bk_for {S : Type} {tg : Expr} {U : α → List Slot → List Slot} {vs : List Nat} {xs : List α} (mk : S → List Slot) (I : Nat → S → Prop) (s0 : S) (hp : PassesOwn (model X.prog X.w) X.A X.env X.xe) (hi : EvI X Γ tg e r xs) (ht : TgOk X tg r U vs)
    (h0 : I 0 s0) (hΓ : ∀ G H σ, Holds E G H σ Γ → Holds E G H σ (mk s0))
    (step : ∀ F i s a, xs[i]? = some a → I i s → Bk X { E with F := F } (U a (mk s)) body { D with nx := fun σ H => ∃ s', I (i + 1) s' ∧ At { E with F := F } (mk s') σ H, ct := fun σ H => ∃ s', I (i + 1) s' ∧ At { E with F := F } (mk s') σ H, bk := fun σ H => WB X rest σ H D })
    (done : ∀ s, I xs.length s → Bk X E (mk s) rest D) (hc : X.calm = true := by rfl) (hs : ∀ x, foldedSetIterable e X.env x = pure x := by intro _; rfl) : Bk X E Γ (.For tg e body [] pos :: rest) D := by
  obtain ⟨wi, pi, hwi⟩ := hi
  refine bk_of (ps_for hp hc pi (WG.pg (tg := tg)) WB.pss hs) fun G H σ hh => hwi E G H σ hh _ fun J G1 H1 l1 it => ?_
  refine ⟨fun i m σ H => m = xs.length - i ∧ i ≤ xs.length ∧ ∃ s G, I i s ∧ Holds { E with F := G1 } G H σ (mk s), ⟨xs.length, by simp, Nat.zero_le _, s0, G1, h0, (hΓ _ _ _ (hh.step l1)).floor (.refl _)⟩, ?_⟩
  rintro i m σ H ⟨rfl, hi, s, G2, hs, hh2⟩
  obtain ⟨go, stop⟩ := it i G2 H hh2.fl hh2.le.gh
  by_cases lt : i < xs.length
  · obtain ⟨g, y⟩ := go xs[i] (by simp [lt])
    refine .inr ⟨g, fun σ' H' => ∃ s', I (i + 1) s' ∧ At { E with F := G1 } (mk s') σ' H', fun σ' H' ⟨s', i', G', h'⟩ => ⟨xs.length - (i + 1), by omega, rfl, lt, s', G', i', h'⟩, fun x H' yy => ?_⟩
    obtain ⟨G3, l3, rx⟩ := y x H' yy
    refine ht { E with F := G1 } G3 H' σ (mk s) x _ (hh2.step l3) rx _ fun σ3 _ hh3 => ?_
    exact step G1 i s xs[i] (by simp [lt]) hs G3 H' σ3 hh3
  · have e : i = xs.length := by omega
    subst e
    exact .inl ⟨stop (Nat.le_refl _), done s hs G2 H σ (hh2.unfloor ((hh.step l1).fl.trans hh2.fl))⟩
/-- the end of a turn -/
theorem bk_next {S : Type} {mk : S → List Slot} {I : Nat → S → Prop} {i : Nat} (s' : S) (hI : I (i + 1) s') (l : (mk s').length = Γ.length) (w : ∀ (i : Nat) (s : Slot), (mk s')[i]? = some s → s = .no ∨ Γ[i]? = some s) {bk ct : L2.St → Hp → Prop} {rt : VK} :
    Bk X E Γ [] { nx := fun σ H => ∃ s', I (i + 1) s' ∧ At E (mk s') σ H, rt := rt, bk := bk, ct := ct } := bk_end fun G H σ hh => ⟨s', hI, G, hh.weak l w⟩
end
end Hf

namespace Hf
open PySem PySem.Spec PyProof.Rows L2

/-! ### what a def promises, by data -/
/-- a def that only reads: ι the data, Pre what is asked of it, args the arguments, the answer told by r -/
def PSp {ι : Type} (Pre : ι → Prop) (args : ι → List Ty) {α : Type} (r : Rp α) (res : ι → α) : Sp := fun vs H Q _ => ∃ (x : ι) (G : Hp), Pre x ∧ Ex G H ∧ Args G vs (args x) ∧ ∀ v G' H', Le G H G' H' → r.rel G' v (res x) → Q v H'
/-- the same, the answer a new object that may change -/
def OSp {ι : Type} (Pre : ι → Prop) (args : ι → List Ty) (c : ι → Oc) : Sp := fun vs H Q _ => ∃ (x : ι) (G : Hp), Pre x ∧ Ex G H ∧ Args G vs (args x) ∧ ∀ p o G' H', H p = none → Le G H G' H' → G' p = none → H' p = some o → (c x).rel G' o → Q (.ref p) H'
theorem args_length {G : Hp} : ∀ {vs : List V} {ts : List Ty}, Args G vs ts → vs.length = ts.length
  | [], [], _ => rfl
  | _ :: _, _ :: _, h => congrArg (· + 1) (args_length h.2)
/-- slots at the entry -/
def slots0 (ts : List Ty) (n : Nat) : List Slot := ts.map (fun t => Slot.sh t.r t.a) ++ List.replicate n .no
theorem args_get {G : Hp} : ∀ {vs : List V} {ts : List Ty} {i : Nat} {t : Ty}, Args G vs ts → ts[i]? = some t → ∃ v, vs[i]? = some v ∧ t.r.rel G v t.a
  | [], [], i, t, _, e => by cases e
  | _ :: _, _ :: _, 0, t, h, e => ⟨_, rfl, by cases e; exact h.1⟩
  | _ :: _, _ :: _, i + 1, t, h, e => args_get (i := i) h.2 e
theorem holds_start {G H : Hp} {N : List Str} {vs : List V} {ts : List Ty} (e : Ex G H) (a : Args G vs ts) (hn : ts.length ≤ N.length) : Holds { G := G, H := H } G H (L2.start N vs) (slots0 ts (N.length - ts.length)) := by
  have hl := args_length a
  refine ⟨.start e, (fun a o q => by cases q), ?_, fun i s q => ?_, fun i j s t q1 q2 w1 w2 => ?_⟩
  · unfold L2.start slots0
    simp only [List.length_append, List.length_map, List.length_replicate]
    omega
  · unfold slots0 at q
    by_cases lt : i < ts.length
    · rw [List.getElem?_append_left (by simpa using lt), List.getElem?_map] at q
      cases w : ts[i]? with
      | none =>
        rw [w] at q
        cases q
      | some t =>
        rw [w] at q
        cases q
        obtain ⟨v, h1, h2⟩ := args_get a w
        refine ⟨v, ?_, h2⟩
        unfold L2.start
        rw [List.getElem?_append_left (by rw [List.length_map, hl]; exact lt), List.getElem?_map, h1]
        rfl
    · rw [List.getElem?_append_right (by simpa using lt)] at q
      have z := List.mem_of_getElem? q
      rw [List.mem_replicate] at z
      rw [z.2]
      trivial
  · have none : ∀ (i : Nat) (s : Slot), (slots0 ts (N.length - ts.length))[i]? = some s → s.isOw = true → False := fun i s q w => by
      have z := List.mem_of_getElem? q
      unfold slots0 at z
      rcases List.mem_append.mp z with z | z
      · obtain ⟨t, _, e⟩ := List.mem_map.mp z
        rw [← e] at w
        cases w
      · rw [List.mem_replicate] at z
        rw [z.2] at w
        cases w
    exact (none i s q1 w1).elim

section
variable {P : Program} {w : World} {K : PySem.W.Frag} {mg : Str → Option Value} {base : Heap} {x qual : Str} {params : Arguments} {body : List Stmt} {scope : Scope} {dvs : List V} {kws : List (Str × V)} {f : Addr} {fd : FuncData}
abbrev CXL (P : Program) (w : World) : CXT := L2.CX P w
/-- a def that only reads keeps its promise -/
theorem fn_pure {N ps : List Str} {k : Nat} {ι : Type} {Pre : ι → Prop} {args : ι → List Ty} {α : Type} {r : Rp α} {res : ι → α} (F : FunD K x qual params body scope dvs kws f fd) (S : FnScope N ps scope) (hl : ∀ y, (args y).length = ps.length)
    (hb : ∀ (y : ι), Pre y → ∀ (cdv : Value) (A : Around) (outer : List Env) (s : Shared) (H : Hp) (E0 : XK) (G : Hp) (D : Ends), Room k (A.deeper (envOfC qual scope s.heap.objs.size f cdv)) → RetOk { G := G, H := H } D r (res y) → (∀ σ G' H', LeE G H (fun _ => False) G' H' → r.rel G' .non (res y) → D.nx σ H') →
      Bk (cxOf (CXL P w) P w K mg base N qual scope f cdv A outer s H E0) { G := G, H := H } (slots0 (args y) (N.length - ps.length)) body D) :
    FnOk P w K mg base (CXL P w) (k + 1) f fd ps (PSp Pre args r res) := by
  refine F.ok S (fun vs H Q E ⟨y, G, _, _, a, _⟩ => by rw [args_length a, hl]) fun cdv A outer s H vs Q E hr ⟨y, G, hp, e, a, hq⟩ => ⟨_, WB.pss, ?_⟩
  have h := holds_start (N := N) e a (by rw [hl]; have z := congrArg List.length S.pre; rw [List.length_take] at z; omega)
  rw [hl] at h
  exact hb y hp cdv A outer s H E G _ hr (fun v G' H' l rv => hq v G' H' (l.le fun _ z => z) rv) (fun σ G' H' l rv => hq _ G' H' (l.le fun _ z => z) rv) G H _ h
theorem fn_own {N ps : List Str} {k : Nat} {ι : Type} {Pre : ι → Prop} {args : ι → List Ty} {c : ι → Oc} (F : FunD K x qual params body scope dvs kws f fd) (S : FnScope N ps scope) (hl : ∀ y, (args y).length = ps.length)
    (hb : ∀ (y : ι), Pre y → ∀ (cdv : Value) (A : Around) (outer : List Env) (s : Shared) (H : Hp) (E0 : XK) (G : Hp) (D : Ends), Room k (A.deeper (envOfC qual scope s.heap.objs.size f cdv)) → RetO { G := G, H := H } D (c y) →
      Bk (cxOf (CXL P w) P w K mg base N qual scope f cdv A outer s H E0) { G := G, H := H } (slots0 (args y) (N.length - ps.length)) body D) :
    FnOk P w K mg base (CXL P w) (k + 1) f fd ps (OSp Pre args c) := by
  refine F.ok S (fun vs H Q E ⟨y, G, _, _, a, _⟩ => by rw [args_length a, hl]) fun cdv A outer s H vs Q E hr ⟨y, G, hp, e, a, hq⟩ => ⟨_, WB.pss, ?_⟩
  have h := holds_start (N := N) e a (by rw [hl]; have z := congrArg List.length S.pre; rw [List.length_take] at z; omega)
  rw [hl] at h
  exact hb y hp cdv A outer s H E G _ hr (fun p o G' H' l g n h1 h2 => hq p o G' H' n (l.le fun _ z => z) g h1 h2) G H _ h
end

/-! ### a def of the module, as callers see it -/
structure Has (P : Program) (w : World) (K : PySem.W.Frag) (mg : Str → Option Value) (base : Heap) (x : Str) (k : Nat) (sp : Sp) : Prop where
  ex : ∃ (f : Addr) (fd : FuncData) (ps : List Str) (spF : Sp) (dvs : List V) (ds : List Value), mg x = some (.ref f) ∧ PySem.W.keepIn K (.ref f) = true ∧ Binds K fd ps ds ∧ Vals dvs ds ∧ FnOk P w K mg base (CXL P w) k f fd ps spF ∧ ∀ vs H Q, sp vs H Q E0 → spF (vs ++ dvs) H Q E0
/-- all parameters written -/
theorem Has.mk0 {P : Program} {w : World} {K : PySem.W.Frag} {mg : Str → Option Value} {base : Heap} {x : Str} {k : Nat} {sp : Sp} {f : Addr} {fd : FuncData} {ps : List Str} (hm : mg x = some (.ref f)) (hk : PySem.W.keepIn K (.ref f) = true) (hb : Binds K fd ps []) (F : FnOk P w K mg base (CXL P w) k f fd ps sp) : Has P w K mg base x k sp :=
  ⟨f, fd, ps, sp, [], [], hm, hk, hb, .nil, F, fun vs H Q h => by rw [List.append_nil]; exact h⟩
section
variable {X : Cx} {Γ : List Slot} {e a : Expr} {es : List Expr} {pos p : Pos} {α ι : Type} {r : Rp α} {k j : Nat} {f : Str} {Pre : ι → Prop} {args : ι → List Ty} {res : ι → α} {c : ι → Oc}
theorem we_call {sp : Sp} {σ : L2.St} {H : Hp} {Q : VK} (h : Has X.prog X.w X.K X.mg X.base f k sp) (hr : Room j X.A) (hk : k ≤ j) (ha : WA X (e :: es) σ H fun vs H1 => sp vs H1 Q E0) (hg : Gl X f := by rfl) (hdb : (f == ("__debug__" : Str)) = false := by decide)
    (he : starEach (e :: es) X.env = (false, eval e X.env) :: starEach es X.env := by rfl) (hpl : (backTo pos (starEach es X.env)).any (·.1) = false := by rfl) : WE X (.Call (.Name f p) (e :: es) [] pos) σ H Q := by
  obtain ⟨f0, fd, ps, spF, dvs, ds, hm, hkp, hb, hd, F, hi⟩ := h.ex
  refine WE.of (pe_call F (hr.mono hk) hg hm hkp hb hd passL WA.pa hdb he hpl) ?_
  exact ⟨fun pos pins s I => thn (ha.run pos pins s I) fun us s1 ⟨vs, H1, I1, r1, q⟩ => ⟨vs, H1, I1, r1, hi vs H1 Q q⟩⟩
theorem we_call0 {sp : Sp} {σ : L2.St} {H : Hp} {Q : VK} (h : Has X.prog X.w X.K X.mg X.base f k sp) (hr : Room j X.A) (hk : k ≤ j) (ha : sp [] H Q E0) (hg : Gl X f := by rfl) (hdb : (f == ("__debug__" : Str)) = false := by decide) : WE X (.Call (.Name f p) [] [] pos) σ H Q := by
  obtain ⟨f0, fd, ps, spF, dvs, ds, hm, hkp, hb, hd, F, hi⟩ := h.ex
  exact WE.of (pe_call0 F (hr.mono hk) hg hm hkp hb hd passL hdb) (hi [] H Q ha)
/-- f(e, ..), a def that only reads -/
theorem ev_call {z : α} (h : Has X.prog X.w X.K X.mg X.base f k (PSp Pre args r res)) (hr : Room j X.A) (hk : k ≤ j) (y : ι) (hp : Pre y) (ha : EvA X Γ (e :: es) (args y)) (hz : res y = z := by rfl) (hg : Gl X f := by rfl) (hdb : (f == ("__debug__" : Str)) = false := by decide)
    (he : starEach (e :: es) X.env = (false, eval e X.env) :: starEach es X.env := by rfl) (hpl : (backTo pos (starEach es X.env)).any (·.1) = false := by rfl) : Ev X Γ (.Call (.Name f p) (e :: es) [] pos) r z := fun E G H σ hh Q q =>
  we_call h hr hk (ha E G H σ hh _ fun vs G1 H1 l1 a1 => ⟨y, G1, hp, l1.gh, a1, fun v G2 H2 l2 r2 => q v G2 H2 (l1.trans l2) (hz ▸ r2)⟩) hg hdb he hpl
theorem ev_call0 {z : α} (h : Has X.prog X.w X.K X.mg X.base f k (PSp Pre args r res)) (hr : Room j X.A) (hk : k ≤ j) (y : ι) (hp : Pre y) (ha : args y = []) (hz : res y = z := by rfl) (hg : Gl X f := by rfl) (hdb : (f == ("__debug__" : Str)) = false := by decide) : Ev X Γ (.Call (.Name f p) [] [] pos) r z := fun E G H σ hh Q q =>
  we_call0 h hr hk ⟨y, G, hp, hh.le.gh, by rw [ha]; trivial, fun v G2 H2 l2 r2 => q v G2 H2 l2 (hz ▸ r2)⟩ hg hdb
theorem eo_call {z : Oc} (h : Has X.prog X.w X.K X.mg X.base f k (OSp Pre args c)) (hr : Room j X.A) (hk : k ≤ j) (y : ι) (hp : Pre y) (ha : EvA X Γ (e :: es) (args y)) (hz : c y = z := by rfl) (hg : Gl X f := by rfl) (hdb : (f == ("__debug__" : Str)) = false := by decide)
    (he : starEach (e :: es) X.env = (false, eval e X.env) :: starEach es X.env := by rfl) (hpl : (backTo pos (starEach es X.env)).any (·.1) = false := by rfl) : EvO X Γ (.Call (.Name f p) (e :: es) [] pos) z := fun E G H σ hh Q q =>
  we_call h hr hk (ha E G H σ hh _ fun vs G1 H1 l1 a1 => ⟨y, G1, hp, l1.gh, a1, fun p o G2 H2 n l2 g h1 h2 => q p o G2 H2 (Evl.fresh_back l1.h n) (l1.trans l2) g h1 (hz ▸ h2)⟩) hg hdb he hpl
theorem eo_call0 {z : Oc} (h : Has X.prog X.w X.K X.mg X.base f k (OSp Pre args c)) (hr : Room j X.A) (hk : k ≤ j) (y : ι) (hp : Pre y) (ha : args y = []) (hz : c y = z := by rfl) (hg : Gl X f := by rfl) (hdb : (f == ("__debug__" : Str)) = false := by decide) : EvO X Γ (.Call (.Name f p) [] [] pos) z := fun E G H σ hh Q q =>
  we_call0 h hr hk ⟨y, G, hp, hh.le.gh, by rw [ha]; trivial, fun p o G2 H2 n l2 g h1 h2 => q p o G2 H2 n l2 g h1 (hz ▸ h2)⟩ hg hdb
end

/-! ### built-ins, displays, subscripts -/
def noSlice : Expr → Bool
  | .Slice .. => false
  | _ => true
theorem plain_of {f : Expr} (h : noSlice f = true) : PlainIx f := fun o i => by
  cases f <;> first | (cases h; done) | (unfold subscripted; rfl)
section
variable {X : Cx} {Γ : List Slot} {e f g : Expr} {es : List Expr} {pos p : Pos} {α β γ : Type} {r : Rp α} {x : α} {s : Rp β} {y : β} {t : Rp γ} {z : γ} {i j : Int} {as bs : List α} {u v : Str}
/-- [e, ..] -/
theorem eo_list {ts : List Ty} (h : EvA X Γ es ts) (hl : ts.length ≤ 100000) (hr : ∀ G vs, Args G vs ts → All2 r G vs as) : EvO X Γ (.List es pos) (oLst r as) := fun E G H σ hh Q q =>
  WE.of (pe_lst WA.pa) (h E G H σ hh _ fun vs G1 H1 l1 a1 => ⟨by rw [args_length a1]; exact Evl.sz_of hl, fun p n => q p _ G1 _ (Evl.fresh_back l1.h n) (l1.addO n) (Evl.fresh_back l1.gh n) upd_same ⟨vs, rfl, hr G1 vs a1⟩⟩)
/-- items of one kind -/
def tys (r : Rp α) (as : List α) : List Ty := as.map fun a => ⟨r, a⟩
theorem args_tys {G : Hp} : ∀ {vs : List V} {as : List α}, Args G vs (tys r as) → All2 r G vs as
  | [], [], _ => .nil
  | _ :: _, _ :: _, h => .cons h.1 (args_tys h.2)
theorem eo_lst (h : EvA X Γ es (tys r as)) (hl : as.length ≤ 100000) : EvO X Γ (.List es pos) (oLst r as) := eo_list h (by simpa [tys] using hl) fun _ _ => args_tys
theorem eo_nil : EvO X Γ (.List [] pos) (oLst r []) := eo_lst ea_nil (Nat.zero_le _)
/-- (a, b) -/
theorem ev_tup2 {n : Nat} (h : EvA X Γ es [⟨r, x⟩, ⟨s, y⟩]) : Ev X Γ (.Tuple es n pos) (rT2 X.K r s) (x, y) := fun E G H σ hh Q q =>
  WE.of (pe_tup WA.pa) (h E G H σ hh _ fun vs G1 H1 l1 a1 => by
    match vs, a1 with
    | [v1, v2], ⟨h1, h2, _⟩ =>
      exact ⟨by show 2 ≤ sizeLine; decide, fun p n => q _ (upd G1 p (.tup [v1, v2])) _ (l1.add n) ⟨p, v1, v2, rfl, .inl (.inl upd_same), r.mono (Evl.Ex.new (Evl.fresh_back l1.gh n)) h1, s.mono (Evl.Ex.new (Evl.fresh_back l1.gh n)) h2⟩⟩)
theorem ev_tup3 {n : Nat} (h : EvA X Γ es [⟨r, x⟩, ⟨s, y⟩, ⟨t, z⟩]) : Ev X Γ (.Tuple es n pos) (rT3 X.K r s t) (x, y, z) := fun E G H σ hh Q q =>
  WE.of (pe_tup WA.pa) (h E G H σ hh _ fun vs G1 H1 l1 a1 => by
    match vs, a1 with
    | [v1, v2, v3], ⟨h1, h2, h3, _⟩ =>
      exact ⟨by show 3 ≤ sizeLine; decide, fun p n => q _ (upd G1 p (.tup [v1, v2, v3])) _ (l1.add n) ⟨p, v1, v2, v3, rfl, .inl (.inl upd_same), r.mono (Evl.Ex.new (Evl.fresh_back l1.gh n)) h1, s.mono (Evl.Ex.new (Evl.fresh_back l1.gh n)) h2, t.mono (Evl.Ex.new (Evl.fresh_back l1.gh n)) h3⟩⟩)
/-- x[0], x[1] of a pair -/
theorem ev_fst {a : α × β} {k : Nat} {p2 : Pos} (h : Ev X Γ e (rT2 X.K r s) a) : Ev X Γ (.Subscript e (.Constant (.int 0) k p2) pos) r a.1 := fun E G H σ hh Q q =>
  WE.of (pe_ix ix_tup WE.pe pe_int (plain_of rfl)) (h E G H σ hh _ fun v G1 H1 l1 ⟨p, v1, v2, e1, hp, h1, h2⟩ => ⟨p, _, 0, v1, e1, rfl, Evl.ex_t l1.gh hp, rfl, q _ G1 H1 l1 h1⟩)
theorem ev_snd {a : α × β} {k : Nat} {p2 : Pos} (h : Ev X Γ e (rT2 X.K r s) a) : Ev X Γ (.Subscript e (.Constant (.int 1) k p2) pos) s a.2 := fun E G H σ hh Q q =>
  WE.of (pe_ix ix_tup WE.pe pe_int (plain_of rfl)) (h E G H σ hh _ fun v G1 H1 l1 ⟨p, v1, v2, e1, hp, h1, h2⟩ => ⟨p, _, 1, v2, e1, rfl, Evl.ex_t l1.gh hp, rfl, q _ G1 H1 l1 h2⟩)
/-- xs[i] -/
theorem ev_ixS {k : Nat} (h : Ev X Γ e (rSeq X.K r) as) (h2 : Ev X Γ f rInt (k : Int)) (hx : as[k]? = some x) (hs : PlainIx f := by exact plain_of rfl) : Ev X Γ (.Subscript e f pos) r x := fun E G H σ hh Q q =>
  WE.of (pe_ix ix_list WE.pe WE.pe hs) (h E G H σ hh _ fun v G1 H1 l1 ⟨p, vs, e1, hp, ha⟩ => h2 E G1 H1 σ (hh.step l1) _ fun w G2 H2 l2 r2 => by
    obtain ⟨a, ea, ra⟩ := ha.get hx
    exact ⟨p, vs, (k : Int), a, e1, r2, Evl.ex_l (l1.gh.trans l2.h) hp, atI_nat ea, q _ G2 H2 (l1.trans l2) (r.mono l2.g ra)⟩)
theorem ev_ix {k : Nat} (h : Ev X Γ e (rLst r) as) (h2 : Ev X Γ f rInt (k : Int)) (hx : as[k]? = some x) (hs : PlainIx f := by exact plain_of rfl) : Ev X Γ (.Subscript e f pos) r x := ev_ixS h.seq h2 hx hs
/-- of a list that may change -/
theorem ev_ixB {k : Nat} (h : EvB X Γ e (oLst r as)) (h2 : Ev X Γ f rInt (k : Int)) (hx : as[k]? = some x) (hs : PlainIx f := by exact plain_of rfl) : Ev X Γ (.Subscript e f pos) r x := fun E G H σ hh Q q =>
  WE.of (pe_ix ix_list WE.pe WE.pe hs) (h E G H σ hh _ fun p o G1 H1 l1 hp ⟨vs, e1, ha⟩ => h2 E G1 H1 σ (hh.step l1) _ fun w G2 H2 l2 r2 => by
    subst e1
    obtain ⟨a, ea, ra⟩ := ha.get hx
    exact ⟨p, vs, (k : Int), a, rfl, r2, .inl (.inl (l2.h _ _ hp)), atI_nat ea, q _ G2 H2 (l1.trans l2) (r.mono l2.g ra)⟩)
/-- len(xs) -/
theorem ev_lenS (h : Ev X Γ e (rSeq X.K r) as) (hm : X.mg "len" = none) (hg : Gl X "len" := by rfl) (he : starEach (e :: []) X.env = (false, eval e X.env) :: starEach [] X.env := by rfl) (hpl : (backTo pos (starEach [] X.env)).any (·.1) = false := by rfl) : Ev X Γ (.Call (.Name "len" p) [e] [] pos) rInt (as.length : Int) := fun E G H σ hh Q q =>
  WE.of (pe_callB call_len_seq hg hm PySem.boot_len (pa_cons WE.pe pa_nil he) (he := he) (hpl := hpl)) (h E G H σ hh _ fun v G1 H1 l1 ⟨p, vs, e1, hp, ha⟩ => ⟨p, vs, by rw [e1], .inl (Evl.ex_l l1.gh hp), by rw [ha.length]; exact q _ G1 H1 l1 rfl⟩)
theorem ev_len (h : Ev X Γ e (rLst r) as) (hm : X.mg "len" = none) (hg : Gl X "len" := by rfl) (he : starEach (e :: []) X.env = (false, eval e X.env) :: starEach [] X.env := by rfl) (hpl : (backTo pos (starEach [] X.env)).any (·.1) = false := by rfl) : Ev X Γ (.Call (.Name "len" p) [e] [] pos) rInt (as.length : Int) := ev_lenS h.seq hm hg he hpl
theorem ev_lenB (h : EvB X Γ e (oLst r as)) (hm : X.mg "len" = none) (hg : Gl X "len" := by rfl) (he : starEach (e :: []) X.env = (false, eval e X.env) :: starEach [] X.env := by rfl) (hpl : (backTo pos (starEach [] X.env)).any (·.1) = false := by rfl) : Ev X Γ (.Call (.Name "len" p) [e] [] pos) rInt (as.length : Int) := fun E G H σ hh Q q =>
  WE.of (pe_callB call_len_seq hg hm PySem.boot_len (pa_cons WE.pe pa_nil he) (he := he) (hpl := hpl)) (h E G H σ hh _ fun p o G1 H1 l1 hp ⟨vs, e1, ha⟩ => by
    subst e1
    exact ⟨p, vs, rfl, .inl (.inl (.inl hp)), by rw [ha.length]; exact q _ G1 H1 l1 rfl⟩)
/-- len of a text -/
theorem ev_lenT (h : Ev X Γ e rStr u) (hl : u.length ≤ sizeLine) (hm : X.mg "len" = none) (hg : Gl X "len" := by rfl) (he : starEach (e :: []) X.env = (false, eval e X.env) :: starEach [] X.env := by rfl) (hpl : (backTo pos (starEach [] X.env)).any (·.1) = false := by rfl) : Ev X Γ (.Call (.Name "len" p) [e] [] pos) rInt (u.length : Int) := fun E G H σ hh Q q =>
  WE.of (pe_callB call_len_str hg hm PySem.boot_len (pa_cons WE.pe pa_nil he) (he := he) (hpl := hpl)) (h E G H σ hh _ fun v G1 H1 l1 e1 => ⟨u, by rw [show v = _ from e1], hl, q _ G1 H1 l1 rfl⟩)
/-- xs + ys -/
theorem eo_cat (h : EvB X Γ e (oLst r as)) (h2 : EvB X Γ f (oLst r bs)) (hl : as.length + bs.length ≤ sizeLine) : EvO X Γ (.BinOp e .Add f pos) (oLst r (as ++ bs)) := fun E G H σ hh Q q =>
  WE.of (pe_op op_cat WE.pe WE.pe) (h E G H σ hh _ fun p o G1 H1 l1 hp ⟨vs, e1, ha⟩ => h2 E G1 H1 σ (hh.step l1) _ fun p2 o2 G2 H2 l2 hp2 ⟨ws, e2, hb⟩ => by
    subst e1 e2
    exact ⟨p, p2, vs, ws, rfl, rfl, l2.h _ _ hp, hp2, by rw [ha.length, hb.length]; exact hl, fun p3 n => q p3 _ G2 _ (Evl.fresh_back (l1.trans l2).h n) ((l1.trans l2).addO n) (Evl.fresh_back l2.gh n) upd_same ⟨vs ++ ws, rfl, (ha.mono l2.g).append hb⟩⟩)
/-- list(xs) -/
theorem eo_listOf (h : EvB X Γ e (oLst r as)) (hm : X.mg "list" = none) (hg : Gl X "list" := by rfl) (he : starEach (e :: []) X.env = (false, eval e X.env) :: starEach [] X.env := by rfl) (hpl : (backTo pos (starEach [] X.env)).any (·.1) = false := by rfl) : EvO X Γ (.Call (.Name "list" p) [e] [] pos) (oLst r as) := fun E G H σ hh Q q =>
  WE.of (pe_callTy call_list_of hg hm (by decide +kernel) (pa_cons WE.pe pa_nil he) (he := he) (hpl := hpl)) (h E G H σ hh _ fun p o G1 H1 l1 hp ⟨vs, e1, ha⟩ => by
    subst e1
    exact ⟨p, vs, rfl, .inl (.inl (.inl hp)), fun p3 n => q p3 _ G1 _ (Evl.fresh_back l1.h n) (l1.addO n) (Evl.fresh_back l1.gh n) upd_same ⟨vs, rfl, ha⟩⟩)
/-- abs(n) -/
theorem ev_abs (h : Ev X Γ e rInt i) (hm : X.mg "abs" = none) (hg : Gl X "abs" := by rfl) (he : starEach (e :: []) X.env = (false, eval e X.env) :: starEach [] X.env := by rfl) (hpl : (backTo pos (starEach [] X.env)).any (·.1) = false := by rfl) : Ev X Γ (.Call (.Name "abs" p) [e] [] pos) rInt (if i < 0 then -i else i) := fun E G H σ hh Q q =>
  WE.of (pe_callB call_abs hg hm (by decide +kernel) (pa_cons WE.pe pa_nil he) (he := he) (hpl := hpl)) (h E G H σ hh _ fun v G1 H1 l1 e1 => ⟨i, by rw [show v = _ from e1], q _ G1 H1 l1 rfl⟩)
/-- max(a, b), min(a, b) -/
theorem ev_max2 (h : EvA X Γ [e, f] [⟨rInt, i⟩, ⟨rInt, j⟩]) (hm : X.mg "max" = none) (hc : X.calm = true := by rfl) (hg : Gl X "max" := by rfl) (he : starEach (e :: [f]) X.env = (false, eval e X.env) :: starEach [f] X.env := by rfl) (hpl : (backTo pos (starEach [f] X.env)).any (·.1) = false := by rfl) : Ev X Γ (.Call (.Name "max" p) [e, f] [] pos) rInt (if j > i then j else i) := fun E G H σ hh Q q =>
  WE.of (pe_callB (call_max2 hc) hg hm (by decide +kernel) WA.pa (he := he) (hpl := hpl)) (h E G H σ hh _ fun vs G1 H1 l1 a1 => by
    match vs, a1 with
    | [v1, v2], ⟨h1, h2, _⟩ => exact ⟨i, j, by rw [show v1 = _ from h1, show v2 = _ from h2], q _ G1 H1 l1 rfl⟩)
theorem ev_min2 (h : EvA X Γ [e, f] [⟨rInt, i⟩, ⟨rInt, j⟩]) (hm : X.mg "min" = none) (hc : X.calm = true := by rfl) (hg : Gl X "min" := by rfl) (he : starEach (e :: [f]) X.env = (false, eval e X.env) :: starEach [f] X.env := by rfl) (hpl : (backTo pos (starEach [f] X.env)).any (·.1) = false := by rfl) : Ev X Γ (.Call (.Name "min" p) [e, f] [] pos) rInt (if j < i then j else i) := fun E G H σ hh Q q =>
  WE.of (pe_callB (call_min2 hc) hg hm (by decide +kernel) WA.pa (he := he) (hpl := hpl)) (h E G H σ hh _ fun vs G1 H1 l1 a1 => by
    match vs, a1 with
    | [v1, v2], ⟨h1, h2, _⟩ => exact ⟨i, j, by rw [show v1 = _ from h1, show v2 = _ from h2], q _ G1 H1 l1 rfl⟩)
/-- sum, all, any of a list -/
theorem ev_sum {ns : List Int} (h : EvB X Γ e (oLst rInt ns)) (hm : X.mg "sum" = none) (hc : X.calm = true := by rfl) (hg : Gl X "sum" := by rfl) (he : starEach (e :: []) X.env = (false, eval e X.env) :: starEach [] X.env := by rfl) (hpl : (backTo pos (starEach [] X.env)).any (·.1) = false := by rfl) : Ev X Γ (.Call (.Name "sum" p) [e] [] pos) rInt ns.sum := fun E G H σ hh Q q =>
  WE.of (pe_callB (cr_sum hc) hg hm (by decide +kernel) (pa_cons WE.pe pa_nil he) (he := he) (hpl := hpl)) (h E G H σ hh _ fun p o G1 H1 l1 hp ⟨vs, e1, ha⟩ => by
    subst e1
    rw [all2_int ha] at hp
    exact ⟨p, ns, rfl, .inl (.inl hp), q _ G1 H1 l1 rfl⟩)
theorem ev_all {ns : List Bool} (h : EvB X Γ e (oLst rBool ns)) (hm : X.mg "all" = none) (hc : X.calm = true := by rfl) (hg : Gl X "all" := by rfl) (he : starEach (e :: []) X.env = (false, eval e X.env) :: starEach [] X.env := by rfl) (hpl : (backTo pos (starEach [] X.env)).any (·.1) = false := by rfl) : Ev X Γ (.Call (.Name "all" p) [e] [] pos) rBool (ns.all id) := fun E G H σ hh Q q =>
  WE.of (pe_callB (cr_all hc) hg hm (by decide +kernel) (pa_cons WE.pe pa_nil he) (he := he) (hpl := hpl)) (h E G H σ hh _ fun p o G1 H1 l1 hp ⟨vs, e1, ha⟩ => by
    subst e1
    rw [all2_bool ha] at hp
    exact ⟨p, ns, rfl, .inl (.inl hp), q _ G1 H1 l1 rfl⟩)
theorem ev_any {ns : List Bool} (h : EvB X Γ e (oLst rBool ns)) (hm : X.mg "any" = none) (hc : X.calm = true := by rfl) (hg : Gl X "any" := by rfl) (he : starEach (e :: []) X.env = (false, eval e X.env) :: starEach [] X.env := by rfl) (hpl : (backTo pos (starEach [] X.env)).any (·.1) = false := by rfl) : Ev X Γ (.Call (.Name "any" p) [e] [] pos) rBool (ns.any id) := fun E G H σ hh Q q =>
  WE.of (pe_callB (cr_any hc) hg hm (by decide +kernel) (pa_cons WE.pe pa_nil he) (he := he) (hpl := hpl)) (h E G H σ hh _ fun p o G1 H1 l1 hp ⟨vs, e1, ha⟩ => by
    subst e1
    rw [all2_bool ha] at hp
    exact ⟨p, ns, rfl, .inl (.inl hp), q _ G1 H1 l1 rfl⟩)
/-- str(n) -/
theorem ev_strI (h : Ev X Γ e rInt i) (hz : i.natAbs.log2 < 1920) (hm : X.mg "str" = none) (hg : Gl X "str" := by rfl) (he : starEach (e :: []) X.env = (false, eval e X.env) :: starEach [] X.env := by rfl) (hpl : (backTo pos (starEach [] X.env)).any (·.1) = false := by rfl) : Ev X Γ (.Call (.Name "str" p) [e] [] pos) rStr (Str.ofString (toString i)) := fun E G H σ hh Q q =>
  WE.of (pe_callTy call_str_int hg hm (by decide +kernel) (pa_cons WE.pe pa_nil he) (he := he) (hpl := hpl)) (h E G H σ hh _ fun v G1 H1 l1 e1 => ⟨i, by rw [show v = _ from e1], hz, q _ G1 H1 l1 rfl⟩)
end

/-! ### statements that change a list of one's own -/
section
variable {X : Cx} {E : Ent} {Γ : List Slot} {D : Ends} {e f g : Expr} {es : List Expr} {rest : List Stmt} {pos p apos cpos : Pos} {α β : Type} {r : Rp α} {x : α} {as bs : List α}
theorem bk_append (i : Nat) {a : Str} (hg : Γ[i]? = some (.ow (oLst r as))) (he : Ev X Γ e r x) (hl : as.length < sizeLine) (k : Bk X E (Γ.set i (.ow (oLst r (as ++ [x])))) rest D)
    (hpe : PE X (.Call (.Attribute (.Name a p) "append" apos) [e] [] cpos) (tBM X.K "list" rAppend (tVar i) (tCons (WE X e) tNil)) := by exact pe_bm PySem.F.plainAttrs_list PySem.F.slot_list_append PySem.F.type_list_append mt_append (pv _) (pa_cons WE.pe pa_nil))
    (hs : swapsWith (.Call (.Attribute (.Name a p) "append" apos) [e] [] cpos) none pos.line X.env = pure false := by rfl) : Bk X E Γ (.Expr (.Call (.Attribute (.Name a p) "append" apos) [e] [] cpos) pos :: rest) D :=
  bk_of (ps_expr hpe hs) fun G H σ hh => by
    obtain ⟨q, o, h1, h2, h3, h4, vs, h5, h6⟩ := hh.ow hg
    subst h5
    refine ⟨_, h1, .inl ⟨rfl, vs, .inl (.inl h4)⟩, he E G H σ hh _ fun v G1 H1 l1 r1 => ?_⟩
    have hh1 := hh.step l1
    refine ⟨q, vs, v, rfl, rfl, l1.h _ _ h4, by rw [h6.length]; exact hl, ?_⟩
    exact k G1 _ σ (hh1.mut hg h1 ⟨_, rfl, (h6.mono l1.g).append (.one r1)⟩)
end
end Hf

namespace Hf
open PySem PySem.Spec PyProof.Rows L2

/-! ### list comprehensions -/
theorem Le.keepO {G H G' H' : Hp} (l : Le G H G' H') {p : Addr} {o : HO} (h : H p = some o) (g : G p = none) : G' p = none := by
  cases q : G' p with
  | none => rfl
  | some u =>
    have z := l.new p u q g
    rw [h] at z
    cases z
def wipeS (Γ : List Slot) : List Nat → List Slot
  | [] => Γ
  | v :: vs => (wipeS Γ vs).set v .no
theorem Holds.wipe {E : Ent} {G H : Hp} {σ : L2.St} {Γ : List Slot} (h : Holds E G H σ Γ) : ∀ vs : List Nat, Holds E G H (L2.wipe σ vs) (wipeS Γ vs)
  | [] => h
  | v :: vs => (Holds.wipe h vs).set_no
theorem wipe_get {σ : L2.St} {i : Nat} : ∀ vs : List Nat, (L2.wipe σ vs)[i]? = if i ∈ vs ∧ i < σ.length then some none else σ[i]?
  | [] => by simp [L2.wipe]
  | v :: vs => by
    unfold L2.wipe
    by_cases e : v = i
    · subst e
      by_cases lt : v < σ.length
      · rw [List.getElem?_set_self (by rw [wipe_length]; exact lt), if_pos ⟨List.mem_cons_self, lt⟩]
      · rw [if_neg (fun q => lt q.2), List.getElem?_eq_none (by rw [List.length_set, wipe_length]; omega), List.getElem?_eq_none (by omega)]
    · rw [List.getElem?_set_ne e, wipe_get vs]
      have z : i ∈ v :: vs ↔ i ∈ vs := ⟨fun q => (List.mem_cons.mp q).elim (fun w => absurd w.symm e) id, List.mem_cons_of_mem _⟩
      simp only [z]
theorem wipe_same {σ σ' : L2.St} {vs : List Nat} (h : SameBut vs (L2.wipe σ vs) σ') : L2.wipe σ' vs = L2.wipe σ vs := by
  apply List.ext_getElem?
  intro i
  have hl : σ'.length = σ.length := by rw [h.1, wipe_length]
  rw [wipe_get, wipe_get, hl]
  by_cases q : i ∈ vs ∧ i < σ.length
  · rw [if_pos q, if_pos q]
  · rw [if_neg q, if_neg q]
    by_cases m : i ∈ vs
    · have n : ¬ i < σ.length := fun z => q ⟨m, z⟩
      rw [List.getElem?_eq_none (by omega), List.getElem?_eq_none (by omega)]
    · rw [h.2 i m, wipe_get, if_neg q]
def WTs (X : Cx) (cs : List Expr) (σ : L2.St) (H : Hp) (Q : Bool → Hp → Prop) : Prop := ∃ t : TT, PTs X cs t ∧ t σ H Q
theorem PTs.all {X : Cx} {cs : List Expr} : PTs X cs (WTs X cs) := ⟨fun pins s σ H Q I h => by
  obtain ⟨t, p, h⟩ := h
  exact p.run pins s σ H Q I h⟩
/-- the tests of a comprehension -/
def EvTs (X : Cx) (Γ : List Slot) (cs : List Expr) (b : Bool) : Prop := ∀ (E : Ent) (G H : Hp) (σ : L2.St), Holds E G H σ Γ → ∀ Q : Bool → Hp → Prop, (∀ G' H', Le G H G' H' → Q b H') → WTs X cs σ H Q
theorem ets_nil {X : Cx} {Γ : List Slot} : EvTs X Γ [] true := fun E G H σ h Q q => ⟨_, pts_nil, q G H (.refl h.le.gh)⟩
theorem ets_one {X : Cx} {Γ : List Slot} {c : Expr} {b : Bool} (h : EvT X Γ c b) : EvTs X Γ [c] b := fun E G H σ hh Q q => ⟨_, pts_one WT.pt, h E G H σ hh Q q⟩
section
variable {X : Cx} {E : Ent} {Γ : List Slot} {D : Ends} {elt tg iter : Expr} {ifs : List Expr} {scope : Scope} {own : List (Str × Nat)} {pos spos : Pos} {α β : Type} {r : Rp α} {s : Rp β} {U : α → List Slot → List Slot} {xs : List α} {keep : α → Bool} {val : α → β} {rest : List Stmt}
/-- the block of a comprehension -/
abbrev blkX (X : Cx) (scope : Scope) (q : Shared × Hp × Addr × List (Str × Addr) × List Addr) : Cx := X.blk q.1 q.2.1 scope (compEnvC scope q.2.2.2.1 q.2.2.1 X.env) q.2.2.2.2
def gAll (X : Cx) (scope : Scope) (tg : Expr) : TG := fun v σ H Q => ∀ q, WG (blkX X scope q) tg v σ H Q
def tAll (X : Cx) (scope : Scope) (cs : List Expr) : TT := fun σ H Q => ∀ q, WTs (blkX X scope q) cs σ H Q
def eAll (X : Cx) (scope : Scope) (e : Expr) : TE := fun σ H Q => ∀ q, WE (blkX X scope q) e σ H Q
theorem gAll.pg (q : Shared × Hp × Addr × List (Str × Addr) × List Addr) : PG (blkX X scope q) tg (gAll X scope tg) := ⟨fun pins s σ H v u Q I r h => (h q).run pins s u I r⟩
theorem tAll.pts (q : Shared × Hp × Addr × List (Str × Addr) × List Addr) : PTs (blkX X scope q) ifs (tAll X scope ifs) := ⟨fun pins s σ H Q I h => by
  obtain ⟨t, p, h⟩ := h q
  exact p.run pins s σ H Q I h⟩
theorem eAll.pe (q : Shared × Hp × Addr × List (Str × Addr) × List Addr) : PE (blkX X scope q) elt (eAll X scope elt) := ⟨fun pins s σ H Q I h => (h q).run pins s I⟩
theorem tlc_of {wi : TI} (hwi : ∀ (E : Ent) (G H : Hp) (σ : L2.St), Holds E G H σ Γ → ∀ R : It → Hp → Prop, (∀ J G' H', Le G H G' H' → ItOk J G' r xs → R J H') → wi σ H R)
    (ht : ∀ q, TgOk (blkX X scope q) tg r U (own.map (·.2))) (hk : ∀ q, ∀ a ∈ xs, EvTs (blkX X scope q) (U a (wipeS Γ (own.map (·.2)))) ifs (keep a))
    (hv : ∀ q, ∀ a ∈ xs, keep a = true → Ev (blkX X scope q) (U a (wipeS Γ (own.map (·.2)))) elt s (val a)) (hl : xs.length ≤ 100000)
    {G H : Hp} {σ : L2.St} (hh : Holds E G H σ Γ) {Q : VK} (hQ : ∀ p o G' H', H p = none → Le G H G' H' → G' p = none → H' p = some o → (oLst s ((xs.filter keep).map val)).rel G' o → Q (.ref p) H') :
    tLc wi (gAll X scope tg) (tAll X scope ifs) (eAll X scope elt) (own.map (·.2)) σ H Q := by
  refine hwi E G H σ hh _ fun J G1 H1 l1 it D hD => ?_
  have gD : G1 D = none := Evl.fresh_back l1.gh hD
  have hh1 := hh.step l1
  refine ⟨fun i m H2 => m = xs.length - i ∧ i ≤ xs.length ∧ ∃ G2 acc, Le G1 H1 G2 H2 ∧ G2 D = none ∧ H2 D = some (.lst acc) ∧ All2 s G2 acc (((xs.take i).filter keep).map val), ⟨xs.length, by simp, Nat.zero_le _, G1, [], (Le.refl l1.gh).addO hD, gD, upd_same, .nil⟩, ?_⟩
  rintro i m H2 ⟨rfl, hi, G2, acc, l2, g2, h2, a2⟩
  obtain ⟨go, stop⟩ := it i G2 H2 l2.g l2.gh
  by_cases lt : i < xs.length
  · have ex : xs[i]? = some xs[i] := by simp [lt]
    have mem : xs[i] ∈ xs := List.getElem_mem lt
    obtain ⟨g, y⟩ := go xs[i] ex
    have la : acc.length ≤ i := by
      rw [a2.length, List.length_map]
      exact Nat.le_trans (List.length_filter_le _ _) (by rw [List.length_take]; omega)
    have take : xs.take (i + 1) = xs.take i ++ [xs[i]] := by rw [List.take_add_one]; simp [lt]
    refine .inr ⟨g, fun H' => ∃ G' acc, Le G1 H1 G' H' ∧ G' D = none ∧ H' D = some (.lst acc) ∧ All2 s G' acc (((xs.take (i + 1)).filter keep).map val), fun H' ⟨G', acc', l', q1, q2, q3⟩ => ⟨xs.length - (i + 1), by omega, rfl, lt, G', acc', l', q1, q2, q3⟩, fun x H' yy q => ?_⟩
    obtain ⟨G3, l3, rx⟩ := y x H' yy
    have hh3 : Holds E G3 H' σ Γ := (hh1.step l2).step l3
    refine ht q E G3 H' _ _ x _ (hh3.wipe _) rx _ fun σ4 sb hh4 => ⟨wipe_same sb, fun q2 => ?_⟩
    refine hk q2 _ mem E G3 H' σ4 hh4 _ fun G5 H5 l5 => ?_
    have l35 := l3.trans l5
    cases kv : keep xs[i] with
    | false =>
      rw [if_neg Bool.false_ne_true]
      refine ⟨G5, acc, l2.trans l35, l35.keepO h2 g2, l35.h _ _ h2, ?_⟩
      rw [take, List.filter_append, List.filter_cons_of_neg (by simp [kv])]
      simpa using a2.mono l35.g
    | true =>
      rw [if_pos rfl]
      intro q3
      refine hv q3 _ mem kv E G5 H5 σ4 (hh4.step l5) _ fun v G6 H6 l6 r6 => ?_
      have l := l35.trans l6
      refine ⟨acc, l.h _ _ h2, Evl.sz_lt (by omega), G6, acc ++ [v], ?_, l.keepO h2 g2, upd_same, ?_⟩
      · have z := l2.trans l
        refine ⟨z.g, fun a o h => ?_, fun a o h => ?_, z.new⟩
        · rw [upd_ne (ne_of_none h hD)]
          exact z.h a o h
        · have n : a ≠ D := fun e => by
            subst e
            rw [l.keepO h2 g2] at h
            cases h
          rw [upd_ne n]
          exact z.gh a o h
      · rw [take, List.filter_append, List.filter_cons_of_pos kv, List.map_append]
        exact (a2.mono l.g).append (.one r6)
  · have e : i = xs.length := by omega
    subst e
    rw [List.take_length] at a2
    exact .inl ⟨stop (Nat.le_refl _), hQ D _ G2 H2 (Evl.fresh_back l1.h hD) (l1.trans l2) g2 h2 ⟨acc, rfl, a2⟩⟩
theorem eo_lc (own : List (Str × Nat)) (nd : X.N.Nodup) (hi : EvI X Γ tg iter r xs) (ok : BlkOk X.N X.env.scope scope own) (ht : ∀ q, TgOk (blkX X scope q) tg r U (own.map (·.2)))
    (hk : ∀ q, ∀ a ∈ xs, EvTs (blkX X scope q) (U a (wipeS Γ (own.map (·.2)))) ifs (keep a)) (hv : ∀ q, ∀ a ∈ xs, keep a = true → Ev (blkX X scope q) (U a (wipeS Γ (own.map (·.2)))) elt s (val a)) (hl : xs.length ≤ 100000)
    (hc : X.calm = true := by rfl) (hs : ∀ x, foldedSetIterable iter X.env x = pure x := by intro _; rfl) : EvO X Γ (.ListComp elt [⟨tg, iter, ifs, 0⟩] scope pos) (oLst s ((xs.filter keep).map val)) := fun E G H σ hh Q q => by
  obtain ⟨wi, pi, hwi⟩ := hi
  exact WE.of (pe_lc hc nd pi ok (fun s H C cl fp => gAll.pg (s, H, C, cl, fp)) (fun s H C cl fp => tAll.pts (s, H, C, cl, fp)) (fun s H C cl fp => eAll.pe (s, H, C, cl, fp)) hs) (tlc_of hwi ht hk hv hl hh q)
theorem filter_tt {α : Type} (xs : List α) : xs.filter (fun _ => true) = xs := by simp
/-- without a test -/
theorem eo_lcm (own : List (Str × Nat)) (nd : X.N.Nodup) (hi : EvI X Γ tg iter r xs) (ok : BlkOk X.N X.env.scope scope own) (ht : ∀ q, TgOk (blkX X scope q) tg r U (own.map (·.2)))
    (hv : ∀ q, ∀ a ∈ xs, Ev (blkX X scope q) (U a (wipeS Γ (own.map (·.2)))) elt s (val a)) (hl : xs.length ≤ 100000)
    (hc : X.calm = true := by rfl) (hs : ∀ x, foldedSetIterable iter X.env x = pure x := by intro _; rfl) : EvO X Γ (.ListComp elt [⟨tg, iter, [], 0⟩] scope pos) (oLst s (xs.map val)) := by
  have h := eo_lc (pos := pos) (keep := fun _ => true) (val := val) own nd hi ok ht (fun q a m => ets_nil) (fun q a m _ => hv q a m) hl hc hs
  rw [filter_tt] at h
  exact h
/-- x = [..] -/
theorem bk_setLc (i : Nat) {y : Str} {py : Pos} (own : List (Str × Nat)) (nd : X.N.Nodup) (hi : EvI X Γ tg iter r xs) (ok : BlkOk X.N X.env.scope scope own) (ht : ∀ q, TgOk (blkX X scope q) tg r U (own.map (·.2)))
    (hk : ∀ q, ∀ a ∈ xs, EvTs (blkX X scope q) (U a (wipeS Γ (own.map (·.2)))) ifs (keep a)) (hv : ∀ q, ∀ a ∈ xs, keep a = true → Ev (blkX X scope q) (U a (wipeS Γ (own.map (·.2)))) elt s (val a)) (hl : xs.length ≤ 100000)
    (k : Bk X E (Γ.set i (.ow (oLst s ((xs.filter keep).map val)))) rest D) (hy : X.N[i]? = some y := by rfl) (hyl : X.env.scope.names.lookup y = some .local := by rfl)
    (hsw : swapsWith (.ListComp elt [⟨tg, iter, ifs, 0⟩] scope pos) (some (.Name y py)) spos.line X.env = pure true := by exact sw_true rfl rfl rfl (by decide +kernel))
    (hc : X.calm = true := by rfl) (hs : ∀ x, foldedSetIterable iter X.env x = pure x := by intro _; rfl) : Bk X E Γ (.Assign [.Name y py] (.ListComp elt [⟨tg, iter, ifs, 0⟩] scope pos) spos :: rest) D := by
  obtain ⟨wi, pi, hwi⟩ := hi
  refine bk_of (ps_setLc hc nd hy hyl hsw pi ok (fun s H C cl fp => gAll.pg (s, H, C, cl, fp)) (fun s H C cl fp => tAll.pts (s, H, C, cl, fp)) (fun s H C cl fp => eAll.pe (s, H, C, cl, fp)) hs) fun G H σ hh => ?_
  exact tlc_of hwi ht hk hv hl hh fun p o G' H' n l g h1 h2 => k G' H' _ (hh.set_ow l n g h1 h2)
/-- x = [..], never changed behind -/
theorem bk_setLf (i : Nat) {y : Str} {py : Pos} (own : List (Str × Nat)) (nd : X.N.Nodup) (hi : EvI X Γ tg iter r xs) (ok : BlkOk X.N X.env.scope scope own) (ht : ∀ q, TgOk (blkX X scope q) tg r U (own.map (·.2)))
    (hk : ∀ q, ∀ a ∈ xs, EvTs (blkX X scope q) (U a (wipeS Γ (own.map (·.2)))) ifs (keep a)) (hv : ∀ q, ∀ a ∈ xs, keep a = true → Ev (blkX X scope q) (U a (wipeS Γ (own.map (·.2)))) elt s (val a)) (hl : xs.length ≤ 100000)
    (k : Bk X E (Γ.set i (.sh (rLst s) ((xs.filter keep).map val))) rest D) (hy : X.N[i]? = some y := by rfl) (hyl : X.env.scope.names.lookup y = some .local := by rfl)
    (hsw : swapsWith (.ListComp elt [⟨tg, iter, ifs, 0⟩] scope pos) (some (.Name y py)) spos.line X.env = pure true := by exact sw_true rfl rfl rfl (by decide +kernel))
    (hc : X.calm = true := by rfl) (hs : ∀ x, foldedSetIterable iter X.env x = pure x := by intro _; rfl) : Bk X E Γ (.Assign [.Name y py] (.ListComp elt [⟨tg, iter, ifs, 0⟩] scope pos) spos :: rest) D := by
  obtain ⟨wi, pi, hwi⟩ := hi
  refine bk_of (ps_setLc hc nd hy hyl hsw pi ok (fun s H C cl fp => gAll.pg (s, H, C, cl, fp)) (fun s H C cl fp => tAll.pts (s, H, C, cl, fp)) (fun s H C cl fp => eAll.pe (s, H, C, cl, fp)) hs) fun G H σ hh => ?_
  refine tlc_of hwi ht hk hv hl hh fun p o G' H' n l g h1 ⟨vs, e, h2⟩ => ?_
  subst e
  exact k (upd G' p (.lst vs)) H' _ ((hh.step (l.frz h1 n g)).set_sh ⟨p, vs, rfl, upd_same, h2.mono (Evl.Ex.new g)⟩)
end

/-! ### while -/
section
variable {X : Cx} {E : Ent} {Γ : List Slot} {D : Ends} {c : Expr} {rest body : List Stmt} {pos : Pos}
/-- while: I and the measure over the data -/
theorem bk_while {S : Type} (mk : S → List Slot) (I : S → Prop) (μ : S → Nat) (b : S → Bool) (s0 : S) (hp : PassesOwn (model X.prog X.w) X.A X.env X.xe) (h0 : I s0) (hΓ : ∀ G H σ, Holds E G H σ Γ → Holds E G H σ (mk s0)) (hc : ∀ s, I s → EvT X (mk s) c (b s))
    (step : ∀ s, I s → b s = true → Bk X E (mk s) body { D with nx := fun σ H => ∃ s', (I s' ∧ μ s' < μ s) ∧ At E (mk s') σ H, ct := fun σ H => ∃ s', (I s' ∧ μ s' < μ s) ∧ At E (mk s') σ H, bk := fun σ H => WB X rest σ H D })
    (done : ∀ s, I s → b s = false → Bk X E (mk s) rest D) : Bk X E Γ (.While c body [] pos :: rest) D := by
  refine bk_of (ps_while hp WT.pt WB.pss) fun G H σ hh => ?_
  refine ⟨fun m σ H => ∃ s, m = μ s ∧ I s ∧ At E (mk s) σ H, ⟨μ s0, s0, rfl, h0, G, hΓ _ _ _ hh⟩, ?_⟩
  rintro m σ H ⟨s, rfl, hs, G2, hh2⟩
  refine hc s hs E G2 H σ hh2 _ fun G3 H3 l3 => ?_
  cases e : b s with
  | true =>
    rw [if_pos rfl]
    exact ⟨fun σ' H' => ∃ s', (I s' ∧ μ s' < μ s) ∧ At E (mk s') σ' H', fun σ' H' ⟨s', ⟨i', lt⟩, a'⟩ => ⟨μ s', lt, s', rfl, i', a'⟩, step s hs e G3 H3 σ (hh2.step l3)⟩
  | false =>
    rw [if_neg Bool.false_ne_true]
    exact done s hs e G3 H3 σ (hh2.step l3)
theorem bk_wnext {S : Type} {mk : S → List Slot} {J : S → Prop} (s' : S) (hI : J s') (l : (mk s').length = Γ.length) (w : ∀ (i : Nat) (s : Slot), (mk s')[i]? = some s → s = .no ∨ Γ[i]? = some s) {bk ct : L2.St → Hp → Prop} {rt : VK} :
    Bk X E Γ [] { nx := fun σ H => ∃ s', J s' ∧ At E (mk s') σ H, rt := rt, bk := bk, ct := ct } := bk_end fun G H σ hh => ⟨s', hI, G, hh.weak l w⟩
end

/-! ### isinstance -/
section
variable {X : Cx} {Γ : List Slot} {e : Expr} {pos p p2 : Pos} {α : Type} {r : Rp α} {x : α}
/-- the built-in class of whatever r tells -/
def Kind (K : PySem.W.Frag) (r : Rp α) (x : α) (T : String) : Prop := ∀ G v, r.rel G v x → TyX K G v (.type T)
theorem tyX_mono {K : PySem.W.Frag} {G H : Hp} (e : Ex G H) {v : V} {t : Value} (h : TyX K G v t) : TyX K H v t := by
  cases h with
  | base h =>
    refine .base ?_
    cases h with
    | non => exact .non
    | bl b => exact .bl b
    | int i => exact .int i
    | str x => exact .str x
    | flt x => exact .flt x
    | lst h => exact .lst (e _ _ h)
    | frz h => exact .frz (e _ _ h)
    | tup h => exact .tup (e _ _ h)
    | dK h => exact .dK (e _ _ h)
    | dT h => exact .dT (e _ _ h)
    | ins h c a b d f => exact .ins (e _ _ h) c a b d f
  | byt b => exact .byt b
  | set h => exact .set (e _ _ h)
  | kList h c => exact .kList h c
  | kTuple h c => exact .kTuple h c
  | kDict h c => exact .kDict h c
  | fTuple h => exact .fTuple (e _ _ h)
  | fDict h => exact .fDict (e _ _ h)
theorem kind_int {K : PySem.W.Frag} {i : Int} : Kind K rInt i "int" := fun G v h => by cases h; exact .base (.int i)
theorem kind_bool {K : PySem.W.Frag} {i : Bool} : Kind K rBool i "bool" := fun G v h => by cases h; exact .base (.bl i)
theorem kind_str {K : PySem.W.Frag} {i : Str} : Kind K rStr i "str" := fun G v h => by cases h; exact .base (.str i)
theorem kind_lst {K : PySem.W.Frag} {as : List α} : Kind K (rLst r) as "list" := fun G v ⟨p, vs, e, h, _⟩ => by subst e; exact .base (.lst h)
theorem sqT_kind {K : PySem.W.Frag} {G : Hp} {p : Addr} {vs : List V} (h : SqT K G p vs) : TyX K G (.ref p) (.type "tuple") := by
  rcases h with (h | ⟨o, h⟩) | ⟨o, its, n, h, c, _⟩
  · exact .base (.tup h)
  · exact .fTuple h
  · exact .kTuple h c
theorem kind_T2 {K : PySem.W.Frag} {β : Type} {s : Rp β} {a : α × β} : Kind K (rT2 K r s) a "tuple" := fun G v ⟨p, x, y, e, h, _⟩ => by subst e; exact sqT_kind h
theorem kind_T3 {K : PySem.W.Frag} {β γ : Type} {s : Rp β} {t : Rp γ} {a : α × β × γ} : Kind K (rT3 K r s t) a "tuple" := fun G v ⟨p, x, y, z, e, h, _⟩ => by subst e; exact sqT_kind h
theorem ev_isi {T C : String} {c : Str} {b : Bool} (h : Ev X Γ e r x) (kd : Kind X.K r x T) (hk : kitB T C = some b) (hm : X.mg "isinstance" = none) (hmc : X.mg c = none) (hvc : bootBuiltins c = some (.type C)) (hg : Gl X "isinstance" := by rfl) (hgc : Gl X c := by rfl) (hn : c ≠ "__name__" := by decide) (hd : (c == ("__debug__" : Str)) = false := by decide)
    (hs1 : starEach (e :: [.Name c p2]) X.env = (false, eval e X.env) :: starEach [.Name c p2] X.env := by rfl) (hs2 : starEach (.Name c p2 :: []) X.env = (false, eval (.Name c p2) X.env) :: starEach [] X.env := by rfl) (hpl : (backTo pos (starEach [.Name c p2] X.env)).any (·.1) = false := by rfl) :
    Ev X Γ (.Call (.Name "isinstance" p) [e, .Name c p2] [] pos) rBool b := fun E G H σ hh Q q =>
  WE.of (pe_callB call_isi hg hm (by decide +kernel) (pa_cons WE.pe (pa_cons (pe_bltn (v := .ty C) hgc hmc hvc rfl hn hd) pa_nil hs2) hs1) (he := hs1) (hpl := hpl)) (h E G H σ hh _ fun v G1 H1 l1 r1 => ⟨v, .ty C, .type T, .type C, b, rfl, .ty C, tyX_mono l1.gh (kd G1 v r1), kit_ty hk, q _ G1 H1 l1 rfl⟩)
end
end Hf

namespace Hf
open PySem PySem.Spec PyProof.Rows L2

/-! ### data of any form; ω: objects of one's own -/
inductive Dyn (ω : Type) where
  | non | bl (b : Bool) | int (i : Int) | str (s : Str) | lst (xs : List (Dyn ω)) | tup (xs : List (Dyn ω)) | dic (kvs : List (Str × Dyn ω)) | ob (o : ω)
mutual
inductive DynAt {ω : Type} (K : PySem.W.Frag) (ro : Rp ω) (G : Hp) : V → Dyn ω → Prop
  | non : DynAt K ro G .non .non
  | bl (b : Bool) : DynAt K ro G (.bl b) (.bl b)
  | int (i : Int) : DynAt K ro G (.int i) (.int i)
  | str (s : Str) : DynAt K ro G (.str s) (.str s)
  | lst {p : Addr} {vs : List V} {ds : List (Dyn ω)} : G p = some (.lst vs) → DynAll K ro G vs ds → DynAt K ro G (.ref p) (.lst ds)
  | tup {p : Addr} {vs : List V} {ds : List (Dyn ω)} : SqT K G p vs → DynAll K ro G vs ds → DynAt K ro G (.ref p) (.tup ds)
  | dic {p : Addr} {kvs : List (Key × V)} {ds : List (Str × Dyn ω)} : G p = some (.dK kvs) → DynKvs K ro G kvs ds → DynAt K ro G (.ref p) (.dic ds)
  | ob {v : V} {o : ω} : ro.rel G v o → DynAt K ro G v (.ob o)
inductive DynAll {ω : Type} (K : PySem.W.Frag) (ro : Rp ω) (G : Hp) : List V → List (Dyn ω) → Prop
  | nil : DynAll K ro G [] []
  | cons {v : V} {vs : List V} {d : Dyn ω} {ds : List (Dyn ω)} : DynAt K ro G v d → DynAll K ro G vs ds → DynAll K ro G (v :: vs) (d :: ds)
inductive DynKvs {ω : Type} (K : PySem.W.Frag) (ro : Rp ω) (G : Hp) : List (Key × V) → List (Str × Dyn ω) → Prop
  | nil : DynKvs K ro G [] []
  | cons {k : Str} {v : V} {vs : List (Key × V)} {d : Dyn ω} {ds : List (Str × Dyn ω)} : DynAt K ro G v d → DynKvs K ro G vs ds → DynKvs K ro G ((.inr k, v) :: vs) ((k, d) :: ds)
end
section
variable {ω : Type} {K : PySem.W.Frag} {ro : Rp ω} {G G' : Hp}
mutual
theorem DynAt.mono (e : Ex G G') : ∀ (d : Dyn ω) (v : V), DynAt K ro G v d → DynAt K ro G' v d
  | .non, _, h => by cases h; exact .non
  | .bl b, _, h => by cases h; exact .bl b
  | .int b, _, h => by cases h; exact .int b
  | .str b, _, h => by cases h; exact .str b
  | .lst ds, _, h => by
    cases h with
    | lst h1 h2 => exact .lst (e _ _ h1) (DynAll.mono e ds _ h2)
  | .tup ds, _, h => by
    cases h with
    | tup h1 h2 => exact .tup (Evl.ex_t e h1) (DynAll.mono e ds _ h2)
  | .dic ds, _, h => by
    cases h with
    | dic h1 h2 => exact .dic (e _ _ h1) (DynKvs.mono e ds _ h2)
  | .ob o, _, h => by
    cases h with
    | ob h => exact .ob (ro.mono e h)
theorem DynAll.mono (e : Ex G G') : ∀ (ds : List (Dyn ω)) (vs : List V), DynAll K ro G vs ds → DynAll K ro G' vs ds
  | [], _, h => by cases h; exact .nil
  | d :: ds, _, h => by
    cases h with
    | cons h1 h2 => exact .cons (DynAt.mono e d _ h1) (DynAll.mono e ds _ h2)
theorem DynKvs.mono (e : Ex G G') : ∀ (ds : List (Str × Dyn ω)) (vs : List (Key × V)), DynKvs K ro G vs ds → DynKvs K ro G' vs ds
  | [], _, h => by cases h; exact .nil
  | (k, d) :: ds, _, h => by
    cases h with
    | cons h1 h2 => exact .cons (DynAt.mono e d _ h1) (DynKvs.mono e ds _ h2)
end
end
def rDyn {ω : Type} (K : PySem.W.Frag) (ro : Rp ω) : Rp (Dyn ω) := ⟨DynAt K ro, fun {G G' v a} e h => DynAt.mono e a v h⟩
/-- no objects -/
def rOb0 : Rp Empty := ⟨fun _ _ _ => False, fun _ h => h⟩

/-! ### == at any depth -/
/-- data that == reads -/
structure Eqv (K : PySem.W.Frag) {α : Type} (r : Rp α) (x : α) (d : PyData) : Prop where
  dp : ∀ G v, r.rel G v x → Dp K G v d
  sh : SeqAt.shaped d = true
theorem dpSq {K : PySem.W.Frag} {G H : Hp} {p : Addr} {vs : List V} (e : Ex G H) (h : SqL K G p vs) : SqL K H p vs := Evl.ex_l e h
mutual
theorem dp_mono {K : PySem.W.Frag} {G H : Hp} (e : Ex G H) : ∀ (d : PyData) (v : V), Dp K G v d → Dp K H v d
  | .none, _, h => by cases h; exact .non
  | .bool b, _, h => by cases h; exact .bl b
  | .int i, _, h => by cases h; exact .int i
  | .str x, _, h => by cases h; exact .str x
  | .list ds, _, h => by
    cases h with
    | lst h1 h2 => exact .lst (Evl.ex_l e h1) (dpAll_mono e ds _ h2)
  | .tuple ds, _, h => by
    cases h with
    | tup h1 h2 => exact .tup (Evl.ex_t e h1) (dpAll_mono e ds _ h2)
  | .dict _, _, h => by cases h
theorem dpAll_mono {K : PySem.W.Frag} {G H : Hp} (e : Ex G H) : ∀ (d : List PyData) (v : List V), DpAll K G v d → DpAll K H v d
  | [], _, h => by cases h; exact .nil
  | d :: ds, _, h => by
    cases h with
    | cons h1 h2 => exact .cons (dp_mono e d _ h1) (dpAll_mono e ds _ h2)
end
section
variable {X : Cx} {Γ : List Slot} {e f g : Expr} {es : List Expr} {pos p : Pos} {α β γ ω : Type} {r : Rp α} {x : α} {s : Rp β} {y : β} {i j : Int} {u v : Str} {c d : PyData} {k : Nat} {ro : Rp ω} {as bs : List α}
theorem gv_eqD (a : Eqv X.K r x c) (b : Eqv X.K s y d) : Gives (rEqD X.K) r x s y rBool (PyData.eqv c d) := fun G H v w e h1 h2 Q q => ⟨c, d, dp_mono e _ _ (a.dp G v h1), dp_mono e _ _ (b.dp G w h2), a.sh, b.sh, q _ G H (.refl e) rfl⟩
theorem gv_neD (a : Eqv X.K r x c) (b : Eqv X.K s y d) : Gives (rNeD X.K) r x s y rBool (!PyData.eqv c d) := fun G H v w e h1 h2 Q q => ⟨c, d, dp_mono e _ _ (a.dp G v h1), dp_mono e _ _ (b.dp G w h2), a.sh, b.sh, q _ G H (.refl e) rfl⟩
theorem ev_eqD (hr : Room k X.A) (a : Eqv X.K r x c) (b : Eqv X.K s y d) (ha : Ev X Γ e r x) (hb : Ev X Γ f s y) : Ev X Γ (.Compare e [.Eq] [f] pos) rBool (PyData.eqv c d) := ev_cmpR (op_eqD hr.units) ha hb (gv_eqD a b)
theorem ev_neD (hr : Room k X.A) (a : Eqv X.K r x c) (b : Eqv X.K s y d) (ha : Ev X Γ e r x) (hb : Ev X Γ f s y) : Ev X Γ (.Compare e [.NotEq] [f] pos) rBool (!PyData.eqv c d) := ev_cmpR (op_neD hr.units) ha hb (gv_neD a b)
theorem et_eqD (hr : Room k X.A) (a : Eqv X.K r x c) (b : Eqv X.K s y d) (ha : Ev X Γ e r x) (hb : Ev X Γ f s y) : EvT X Γ (.Compare e [.Eq] [f] pos) (PyData.eqv c d) := et_cmpR (op_eqD hr.units) ha hb (gv_eqD a b)
theorem et_neD (hr : Room k X.A) (a : Eqv X.K r x c) (b : Eqv X.K s y d) (ha : Ev X Γ e r x) (hb : Ev X Γ f s y) : EvT X Γ (.Compare e [.NotEq] [f] pos) (!PyData.eqv c d) := et_cmpR (op_neD hr.units) ha hb (gv_neD a b)

/-! ### texts -/
def rMulS : R2 := fun x y H Q => ∃ a n, x = .str a ∧ y = .int n ∧ MulOk a n ∧ Q (.str (Txt.mul a n)) H
theorem op_mulS : OpR X (binaryOp .Mult) rMulS := by
  intro pins s σ H x y v u Q I rx ry h
  obtain ⟨i, j, rfl, rfl, hz, q⟩ := h
  obtain ⟨t, rfl⟩ := rx
  obtain ⟨t', rfl⟩ := ry
  exact SB.mul hz fun t' k => ⟨.str (Txt.mul i j), H, I.tok _, ⟨_, rfl⟩, q⟩
theorem ev_mulS (hc : MulOk u i) (ha : Ev X Γ e rStr u) (hb : Ev X Γ f rInt i) : Ev X Γ (.BinOp e .Mult f pos) rStr (Txt.mul u i) := ev_bin op_mulS ha hb fun G H a b e h1 h2 Q q => ⟨u, i, h1, h2, hc, q _ G H (.refl e) rfl⟩
/-- a method of a text with one argument -/
theorem ev_m1 {id : String} {name : Str} {apos : Pos} {ρ : V → List V → Hp → VK → Prop} (slot : PySem.Slot "str" name id) (ty : typeOf (.builtin id) = pure (.type "method_descriptor")) (rule : MtR X id ρ) (ha : Ev X Γ e rStr u) (hb : Ev X Γ f r x)
    (hs : ∀ (G H : Hp) (b : V), Ex G H → r.rel G b x → ∀ Q : VK, (∀ c G' H', Le G H G' H' → s.rel G' c y → Q c H') → ρ (.str u) [b] H Q)
    (hst : starEach [f] X.env = [(false, eval f X.env)] := by rfl) (hbase : attributeBase e name X.env (eval e X.env) = eval e X.env := by rfl) (hline : (apos.endLine == pos.line) = true := by rfl) : Ev X Γ (.Call (.Attribute e name apos) [f] [] pos) s y := fun E G H σ hh Q q =>
  WE.of (pe_m1 slot ty rule WE.pe WE.pe hst hbase hline) (ha E G H σ hh _ fun v G1 H1 l1 r1 => by
    cases r1
    exact ⟨⟨u, rfl⟩, hb E G1 H1 σ (hh.step l1) _ fun w G2 H2 l2 r2 => hs G2 H2 w l2.gh r2 Q fun c G3 H3 l3 r3 => q c G3 H3 ((l1.trans l2).trans l3) r3⟩)
/-- the same, a new list -/
theorem eo_m1 {id : String} {name : Str} {apos : Pos} {ρ : V → List V → Hp → VK → Prop} {cc : Oc} (slot : PySem.Slot "str" name id) (ty : typeOf (.builtin id) = pure (.type "method_descriptor")) (rule : MtR X id ρ) (ha : Ev X Γ e rStr u) (hb : Ev X Γ f r x)
    (hs : ∀ (G H : Hp) (b : V), Ex G H → r.rel G b x → ∀ Q : VK, (∀ p o H', H p = none → H' = upd H p o → cc.rel G o → Q (.ref p) H') → ρ (.str u) [b] H Q)
    (hst : starEach [f] X.env = [(false, eval f X.env)] := by rfl) (hbase : attributeBase e name X.env (eval e X.env) = eval e X.env := by rfl) (hline : (apos.endLine == pos.line) = true := by rfl) : EvO X Γ (.Call (.Attribute e name apos) [f] [] pos) cc := fun E G H σ hh Q q =>
  WE.of (pe_m1 slot ty rule WE.pe WE.pe hst hbase hline) (ha E G H σ hh _ fun v G1 H1 l1 r1 => by
    cases r1
    refine ⟨⟨u, rfl⟩, hb E G1 H1 σ (hh.step l1) _ fun w G2 H2 l2 r2 => hs G2 H2 w l2.gh r2 Q fun p o H3 n e3 c3 => ?_⟩
    subst e3
    have l := l1.trans l2
    exact q p o G2 _ (Evl.fresh_back l.h n) (l.addO n) (Evl.fresh_back l2.gh n) upd_same c3)
end
end Hf

namespace Hf
open PySem PySem.Spec PyProof.Rows L2
theorem All2.concat {α : Type} {r : Rp α} {G : Hp} {b : α} : ∀ {vs : List V} {l : List α}, All2 r G vs (l ++ [b]) → ∃ ws w, vs = ws ++ [w] ∧ r.rel G w b
  | _, [], .cons h .nil => ⟨[], _, rfl, h⟩
  | _, _ :: l, .cons (v := v) h t => by
    obtain ⟨ws, w, e, k⟩ := All2.concat (l := l) t
    exact ⟨v :: ws, w, by rw [e]; rfl, k⟩
/-- a slice -/
def cutL {α : Type} (xs : List α) (lo hi : Option Int) : List α := (xs.drop (HT.sIx xs.length 0 lo)).take (HT.sIx xs.length xs.length hi - HT.sIx xs.length 0 lo)
theorem All2.cut {α : Type} {r : Rp α} {G : Hp} {vs : List V} {l : List α} (lo hi : Option Int) (h : All2 r G vs l) : All2 r G (cutV vs lo hi) (cutL l lo hi) := by
  unfold cutV cutL
  rw [h.length]
  exact (h.drop _).take _
theorem cutL_from {α : Type} {xs : List α} {i : Int} (h : 0 ≤ i) : cutL xs (some i) none = xs.drop i.toNat := by
  obtain ⟨k, rfl⟩ := Int.eq_ofNat_of_zero_le h
  unfold cutL
  rw [HT.sIx_none, HT.sIx_nat, Int.toNat_natCast]
  by_cases q : k ≤ xs.length
  · rw [Nat.min_eq_left q, List.take_of_length_le (by simp)]
  · rw [Nat.min_eq_right (by omega), List.drop_eq_nil_of_le (Nat.le_refl _), List.drop_eq_nil_of_le (by omega)]
    simp
theorem cutL_to {α : Type} {xs : List α} {i : Int} (h : 0 ≤ i) : cutL xs none (some i) = xs.take i.toNat := by
  obtain ⟨k, rfl⟩ := Int.eq_ofNat_of_zero_le h
  unfold cutL
  rw [HT.sIx_none, HT.sIx_nat, Int.toNat_natCast, List.drop_zero, Nat.sub_zero]
  by_cases q : k ≤ xs.length
  · rw [Nat.min_eq_left q]
  · rw [Nat.min_eq_right (by omega), List.take_of_length_le (Nat.le_refl _), List.take_of_length_le (by omega)]
theorem Holds.forget {E : Ent} {G H : Hp} {σ : L2.St} {Γ : List Slot} (i : Nat) (h : Holds E G H σ Γ) : Holds E G H σ (Γ.set i .no) := h.weak (by rw [List.length_set]) fun j s q => by
  rcases get_set q with ⟨_, e⟩ | ⟨_, e⟩
  · exact .inl e
  · exact .inr e
/-- a list of one's own, frozen where it stands -/
theorem Holds.freeze {E : Ent} {G H : Hp} {σ : L2.St} {Γ : List Slot} {α : Type} {r : Rp α} {as : List α} {i : Nat} (h : Holds E G H σ Γ) (e : Γ[i]? = some (.ow (oLst r as))) (hm : ∀ q, ¬ E.M q) : ∃ G', Holds E G' H σ (Γ.set i (.sh (rLst r) as)) := by
  obtain ⟨p, o, h1, h2, h3, h4, vs, h5, h6⟩ := h.ow e
  subst h5
  have hn : E.H p = none := h3.elim (fun m => absurd m (hm p)) id
  refine ⟨upd G p (.lst vs), ⟨h.le.g.trans (Evl.Ex.new h2), h.le.h, fun a o q => ?_, fun a o q1 q2 => ?_, h.le.m⟩, h.fl.trans (Evl.Ex.new h2), by rw [List.length_set]; exact h.len, fun j s q => ?_, fun j k s t e1 e2 w1 w2 q => ?_⟩
  · by_cases z : a = p
    · subst z; rw [upd_same] at q; cases q; exact h4
    · rw [upd_ne z] at q; exact h.le.gh a o q
  · by_cases z : a = p
    · subst z; exact hn
    · rw [upd_ne z] at q1; exact h.le.new a o q1 q2
  · rcases get_set q with ⟨rfl, rfl⟩ | ⟨n, q⟩
    · exact ⟨_, h1, p, vs, rfl, upd_same, h6.mono (Evl.Ex.new h2)⟩
    · have w := h.ok j s q
      cases s with
      | no => trivial
      | sh r a =>
        obtain ⟨v, w1, w2⟩ := w
        exact ⟨v, w1, r.mono (Evl.Ex.new h2) w2⟩
      | ow c2 =>
        obtain ⟨p2, o2, w1, w2, w3, w4, w5⟩ := w
        have np : p2 ≠ p := fun z => by
          subst z
          exact n (h.sep i j _ _ e q rfl rfl (by rw [h1, w1]))
        exact ⟨p2, o2, w1, by rw [upd_ne np]; exact w2, w3, w4, c2.mono (Evl.Ex.new h2) w5⟩
  · rcases get_set e1 with ⟨rfl, rfl⟩ | ⟨n1, e1⟩
    · cases w1
    · rcases get_set e2 with ⟨rfl, rfl⟩ | ⟨n2, e2⟩
      · cases w2
      · exact h.sep j k s t e1 e2 w1 w2 q
section
variable {X : Cx} {E : Ent} {Γ : List Slot} {D : Ends} {e f g elt tg iter : Expr} {es : List Expr} {rest : List Stmt} {pos p spos : Pos} {α β γ ω : Type} {r : Rp α} {x : α} {s : Rp β} {y : β} {t : Rp γ} {z : γ} {i j : Int} {u v : Str} {as bs : List α} {ro : Rp ω}
theorem bk_freeze (i : Nat) (hg : Γ[i]? = some (.ow (oLst r as))) (hm : ∀ q, ¬ E.M q) (k : Bk X E (Γ.set i (.sh (rLst r) as)) rest D) : Bk X E Γ rest D := fun G H σ hh => by
  obtain ⟨G', h'⟩ := hh.freeze hg hm
  exact k G' H σ h'
theorem bk_setg (i : Nat) {a : Str} {p : Pos} (nd : X.N.Nodup) (he : Ev X Γ e r x) (k : ∀ y, y = x → Bk X E (Γ.set i (.sh r y)) rest D) (hi : X.N[i]? = some a := by rfl) (hx : Loc X.env.scope a := by first | exact Or.inl rfl | exact Or.inr rfl)
    (hs : swapsWith e (some (.Name a p)) pos.line X.env = pure false := by rfl) (hf : X.fn a = true ∨ X.env.scope.names.lookup a = some .local := by first | exact .inl rfl | exact .inr rfl) : Bk X E Γ (.Assign [.Name a p] e pos :: rest) D := bk_set i nd he (k x rfl) hi hx hs hf
theorem bk_setLm (i : Nat) {y : Str} {py : Pos} {scope : Scope} {U : α → List Slot → List Slot} {val : α → β} (own : List (Str × Nat)) (nd : X.N.Nodup) (hi : EvI X Γ tg iter r as) (ok : BlkOk X.N X.env.scope scope own) (ht : ∀ q, TgOk (blkX X scope q) tg r U (own.map (·.2)))
    (hv : ∀ q, ∀ a ∈ as, Ev (blkX X scope q) (U a (wipeS Γ (own.map (·.2)))) elt s (val a)) (hl : as.length ≤ 100000)
    (k : Bk X E (Γ.set i (.sh (rLst s) (as.map val))) rest D) (hy : X.N[i]? = some y := by rfl) (hyl : X.env.scope.names.lookup y = some .local := by rfl)
    (hsw : swapsWith (.ListComp elt [⟨tg, iter, [], 0⟩] scope pos) (some (.Name y py)) spos.line X.env = pure true := by exact sw_true rfl rfl rfl (by decide +kernel))
    (hc : X.calm = true := by rfl) (hs : ∀ x, foldedSetIterable iter X.env x = pure x := by intro _; rfl) : Bk X E Γ (.Assign [.Name y py] (.ListComp elt [⟨tg, iter, [], 0⟩] scope pos) spos :: rest) D :=
  bk_setLf (keep := fun _ => true) (val := val) i own nd hi ok ht (fun q a m => ets_nil) (fun q a m _ => hv q a m) hl (by rw [filter_tt]; exact k) hy hyl hsw hc hs
theorem RetO.eqO {as' : List α} (h : RetO E D (oLst r as)) (q : as = as') : RetO E D (oLst r as') := q ▸ h
/-- an answer that is told frozen, handed back as it stands -/
theorem RetOk.own (h : RetOk E D (rLst r) as) : RetO E D (oLst r as) := fun p o G H l g n h1 ⟨vs, e, h2⟩ => by
  subst e
  refine h _ (upd G p (.lst vs)) H ⟨l.g.trans (Evl.Ex.new g), l.h, fun a o q => ?_, fun a o q1 q2 => ?_, l.m⟩ ⟨p, vs, rfl, upd_same, h2.mono (Evl.Ex.new g)⟩
  · by_cases z : a = p
    · subst z; rw [upd_same] at q; cases q; exact h1
    · rw [upd_ne z] at q; exact l.gh a o q
  · by_cases z : a = p
    · subst z; exact n
    · rw [upd_ne z] at q1; exact l.new a o q1 q2
/-- xs[i], any int in bounds -/
theorem getD_some {l : List α} {n : Nat} {d : α} (h : n < l.length) : l[n]? = some (l.getD n d) := by
  rw [List.getD_eq_getElem?_getD, List.getElem?_eq_getElem h]
  rfl
theorem ev_atS {d : α} (hb : 0 ≤ i ∧ i < (as.length : Int)) (h : Ev X Γ e (rSeq X.K r) as) (h2 : Ev X Γ f rInt i) (hs : PlainIx f := by exact plain_of rfl) : Ev X Γ (.Subscript e f pos) r (as.getD i.toNat d) :=
  ev_ixS (k := i.toNat) h (h2.eq (by omega)) (getD_some (by omega)) hs
theorem ev_at {d : α} (hb : 0 ≤ i ∧ i < (as.length : Int)) (h : Ev X Γ e (rLst r) as) (h2 : Ev X Γ f rInt i) (hs : PlainIx f := by exact plain_of rfl) : Ev X Γ (.Subscript e f pos) r (as.getD i.toNat d) := ev_atS hb h.seq h2 hs
theorem ev_atB {d : α} (hb : 0 ≤ i ∧ i < (as.length : Int)) (h : EvB X Γ e (oLst r as)) (h2 : Ev X Γ f rInt i) (hs : PlainIx f := by exact plain_of rfl) : Ev X Γ (.Subscript e f pos) r (as.getD i.toNat d) :=
  ev_ixB (k := i.toNat) h (h2.eq (by omega)) (getD_some (by omega)) hs
/-- xs[-1] -/
theorem ev_lastB {d : α} {k : Nat} {p1 p2 : Pos} (h : EvB X Γ e (oLst r as)) (hn : as ≠ []) : Ev X Γ (.Subscript e (.UnaryOp .USub (.Constant (.int 1) k p1) p2) pos) r (as.getLastD d) := fun E G H σ hh Q q =>
  WE.of (pe_ix ix_list WE.pe (pe_un un_neg pe_int) (plain_of rfl)) (h E G H σ hh _ fun p o G1 H1 l1 hp ⟨vs, e1, ha⟩ => by
    subst e1
    refine ⟨1, rfl, ?_⟩
    obtain ⟨l, b, rfl⟩ : ∃ l b, as = l ++ [b] := ⟨as.dropLast, as.getLast hn, (List.dropLast_concat_getLast hn).symm⟩
    have hv := ha.concat
    obtain ⟨ws, w, rfl, rw'⟩ := hv
    exact ⟨p, ws ++ [w], -1, w, rfl, rfl, .inl (.inl hp), atI_last ws w, by
      have z : (l ++ [b]).getLastD d = b := by simp [List.getLastD_eq_getLast?]
      rw [z] at q
      exact q w G1 H1 l1 rw'⟩)
theorem ev_last {d : α} {k : Nat} {p1 p2 : Pos} (h : Ev X Γ e (rLst r) as) (hn : as ≠ []) : Ev X Γ (.Subscript e (.UnaryOp .USub (.Constant (.int 1) k p1) p2) pos) r (as.getLastD d) := ev_lastB h.bor hn
/-- data that == reads -/
theorem eqv_int {K : PySem.W.Frag} : Eqv K rInt i (.int i) := ⟨fun G v h => by cases h; exact .int i, rfl⟩
theorem eqv_bool {K : PySem.W.Frag} {b : Bool} : Eqv K rBool b (.bool b) := ⟨fun G v h => by cases h; exact .bl b, rfl⟩
theorem eqv_str {K : PySem.W.Frag} (h : PyData.strOk u = true) : Eqv K rStr u (.str u) := ⟨fun G v h => by cases h; exact .str u, by simp [SeqAt.shaped, PyData.canLay0, h, PyData.depth]⟩
def pdPair (a : Int × Int) : PyData := .tuple [.int a.1, .int a.2]
theorem eqv_pair {K : PySem.W.Frag} {a : Int × Int} : Eqv K (rT2 K rInt rInt) a (pdPair a) := ⟨fun G v ⟨p, v1, v2, e, h, h1, h2⟩ => by
  cases e; cases h1; cases h2
  exact .tup h (.cons (.int _) (.cons (.int _) .nil)), rfl⟩
theorem pdPair_eqv {a b : Int × Int} : PyData.eqv (pdPair a) (pdPair b) = decide (a = b) := by
  obtain ⟨a1, a2⟩ := a
  obtain ⟨b1, b2⟩ := b
  simp [pdPair, PyData.eqv, PyData.eqvAll]
  by_cases h1 : a1 = b1 <;> by_cases h2 : a2 = b2 <;> simp [h1, h2]
def pdInts (a : List Int) : PyData := .list (a.map .int)
theorem dpAll_ints {K : PySem.W.Frag} {G : Hp} : ∀ {vs : List V} {ns : List Int}, All2 rInt G vs ns → DpAll K G vs (ns.map .int)
  | _, _, .nil => .nil
  | _, _, .cons h t => by cases h; exact .cons (.int _) (dpAll_ints t)
def pdStrs (a : List Str) : PyData := .list (a.map .str)
theorem dpAll_strs {K : PySem.W.Frag} {G : Hp} : ∀ {vs : List V} {ns : List Str}, All2 rStr G vs ns → DpAll K G vs (ns.map .str)
  | _, _, .nil => .nil
  | _, _, .cons h t => by cases h; exact .cons (.str _) (dpAll_strs t)
theorem eqv_strs {K : PySem.W.Frag} {ns : List Str} (hk : ∀ z ∈ ns, PyData.strOk z = true) : Eqv K (rLst rStr) ns (pdStrs ns) := ⟨fun G v ⟨p, vs, e, h, h2⟩ => by
  subst e
  exact .lst (.inl (.inl h)) (dpAll_strs h2), by
  have z : ∀ l : List Str, (∀ z ∈ l, PyData.strOk z = true) → PyData.canLayAll0 (l.map .str) = true := fun l => by
    induction l with
    | nil => intro _; rfl
    | cons a l ih =>
      intro h
      simp [PyData.canLayAll0, PyData.canLay0, ih (fun z m => h z (List.mem_cons_of_mem _ m)), h a List.mem_cons_self]
  have d : ∀ l : List Str, PyData.depthAll (l.map PyData.str) ≤ 1 := fun l => by
    induction l with
    | nil => simp [PyData.depthAll]
    | cons a l ih => simp [PyData.depthAll, PyData.depth]; omega
  unfold SeqAt.shaped pdStrs
  have := d ns
  simp only [PyData.canLay0, z ns hk, PyData.depth, Bool.true_and]
  exact decide_eq_true (by omega)⟩
theorem eqvAll_ints : ∀ {a b : List Int}, PyData.eqvAll (a.map .int) (b.map .int) = decide (a = b)
  | [], [] => rfl
  | [], _ :: _ => rfl
  | _ :: _, [] => rfl
  | x :: a, y :: b => by
    show (PyData.eqv (.int x) (.int y) && PyData.eqvAll (a.map .int) (b.map .int)) = _
    rw [eqvAll_ints]
    simp [PyData.eqv]
    by_cases h1 : x = y <;> by_cases h2 : a = b <;> simp [h1, h2]
theorem eqvAll_strs : ∀ {a b : List Str}, PyData.eqvAll (a.map .str) (b.map .str) = decide (a = b)
  | [], [] => rfl
  | [], _ :: _ => rfl
  | _ :: _, [] => rfl
  | x :: a, y :: b => by
    show (PyData.eqv (.str x) (.str y) && PyData.eqvAll (a.map .str) (b.map .str)) = _
    rw [eqvAll_strs]
    simp [PyData.eqv]
    by_cases h1 : x = y <;> by_cases h2 : a = b <;> simp [h1, h2]
theorem pdInts_eqv {a b : List Int} : PyData.eqv (pdInts a) (pdInts b) = decide (a = b) := by
  unfold pdInts PyData.eqv
  exact eqvAll_ints
theorem pdStrs_eqv {a b : List Str} : PyData.eqv (pdStrs a) (pdStrs b) = decide (a = b) := by
  unfold pdStrs PyData.eqv
  exact eqvAll_strs
/-! methods of texts -/
theorem ev_count {apos : Pos} (ha : Ev X Γ e rStr u) (hb : Ev X Γ f rStr v) (hst : starEach [f] X.env = [(false, eval f X.env)] := by rfl) (hbase : attributeBase e "count" X.env (eval e X.env) = eval e X.env := by rfl) (hline : (apos.endLine == pos.line) = true := by rfl) :
    Ev X Γ (.Call (.Attribute e "count" apos) [f] [] pos) rInt (Txt.count u v) := ev_m1 PySem.F.slot_str_count PySem.F.type_str_count mt_count ha hb (fun G H b ex hb Q q => by
  cases hb
  exact ⟨u, v, rfl, rfl, q _ G H (.refl ex) rfl⟩) hst hbase hline
theorem eo_split {apos : Pos} (hv : (v.length == 0) = false) (hn : u.length + 2 ≤ sizeLine) (ha : Ev X Γ e rStr u) (hb : Ev X Γ f rStr v) (hst : starEach [f] X.env = [(false, eval f X.env)] := by rfl) (hbase : attributeBase e "split" X.env (eval e X.env) = eval e X.env := by rfl) (hline : (apos.endLine == pos.line) = true := by rfl) :
    EvO X Γ (.Call (.Attribute e "split" apos) [f] [] pos) (oLst rStr (Txt.split u v)) := eo_m1 PySem.F.slot_str_split PySem.F.type_str_split mt_split ha hb (fun G H b ex hb Q q => by
  cases hb
  exact ⟨u, v, rfl, rfl, hv, hn, fun p n => q p _ _ n rfl ⟨_, rfl, all2_ofStr _⟩⟩) hst hbase hline
theorem ev_intT (hi : ∃ n, PySem.intText? u = some n) (hl : u.length ≤ 640) (h : Ev X Γ e rStr u) (hm : X.mg "int" = none) (hg : Gl X "int" := by rfl) (he : starEach (e :: []) X.env = (false, eval e X.env) :: starEach [] X.env := by rfl) (hpl : (backTo pos (starEach [] X.env)).any (·.1) = false := by rfl) :
    Ev X Γ (.Call (.Name "int" p) [e] [] pos) rInt ((PySem.intText? u).getD 0) := fun E G H σ hh Q q => by
  obtain ⟨n, hn⟩ := hi
  exact WE.of (pe_callTy call_int_str hg hm (by decide +kernel) (pa_cons WE.pe pa_nil he) (he := he) (hpl := hpl)) (h E G H σ hh _ fun v G1 H1 l1 r1 => ⟨u, n, by rw [show v = _ from r1], hn, hl, q _ G1 H1 l1 (by rw [hn]; rfl)⟩)
/-! slices -/
theorem eo_from {p2 : Pos} (h : EvB X Γ e (oLst r as)) (h2 : Ev X Γ f rInt i) : EvO X Γ (.Subscript e (.Slice (some f) none none p2) pos) (oLst r (cutL as (some i) none)) := fun E G H σ hh Q q =>
  WE.of (pe_slice sl_list WE.pe (po_some WE.pe) po_none) (h E G H σ hh _ fun p o G1 H1 l1 hp ⟨vs, e1, ha⟩ => by
    subst e1
    exact h2 E G1 H1 σ (hh.step l1) _ fun w G2 H2 l2 r2 => ⟨i, r2, p, vs, rfl, .inl (.inl (l2.h _ _ hp)), fun p3 n => q p3 _ G2 _ (Evl.fresh_back (l1.trans l2).h n) ((l1.trans l2).addO n) (Evl.fresh_back l2.gh n) upd_same ⟨_, rfl, (ha.mono l2.g).cut _ _⟩⟩)
theorem eo_to {p2 : Pos} (h : EvB X Γ e (oLst r as)) (h2 : Ev X Γ f rInt i) : EvO X Γ (.Subscript e (.Slice none (some f) none p2) pos) (oLst r (cutL as none (some i))) := fun E G H σ hh Q q =>
  WE.of (pe_slice sl_list WE.pe po_none (po_some WE.pe)) (h E G H σ hh _ fun p o G1 H1 l1 hp ⟨vs, e1, ha⟩ => by
    subst e1
    exact h2 E G1 H1 σ (hh.step l1) _ fun w G2 H2 l2 r2 => ⟨i, r2, p, vs, rfl, .inl (.inl (l2.h _ _ hp)), fun p3 n => q p3 _ G2 _ (Evl.fresh_back (l1.trans l2).h n) ((l1.trans l2).addO n) (Evl.fresh_back l2.gh n) upd_same ⟨_, rfl, (ha.mono l2.g).cut _ _⟩⟩)
theorem eo_fromto {g : Expr} {p2 : Pos} (h : EvB X Γ e (oLst r as)) (h2 : Ev X Γ f rInt i) (h3 : Ev X Γ g rInt j) : EvO X Γ (.Subscript e (.Slice (some f) (some g) none p2) pos) (oLst r (cutL as (some i) (some j))) := fun E G H σ hh Q q =>
  WE.of (pe_slice sl_list WE.pe (po_some WE.pe) (po_some WE.pe)) (h E G H σ hh _ fun p o G1 H1 l1 hp ⟨vs, e1, ha⟩ => by
    subst e1
    exact h2 E G1 H1 σ (hh.step l1) _ fun w G2 H2 l2 r2 => ⟨i, r2, h3 E G2 H2 σ ((hh.step l1).step l2) _ fun w G3 H3 l3 r3 => ⟨j, r3, p, vs, rfl, .inl (.inl ((l2.trans l3).h _ _ hp)), fun p3 n => q p3 _ G3 _ (Evl.fresh_back ((l1.trans l2).trans l3).h n) (((l1.trans l2).trans l3).addO n) (Evl.fresh_back l3.gh n) upd_same ⟨_, rfl, (ha.mono (l2.trans l3).g).cut _ _⟩⟩⟩)
/-- a for over a pair of like things -/
theorem ei_t2 {tg : Expr} {a : α × α} (h : Ev X Γ e (rT2 X.K r r) a) : EvI X Γ tg e r [a.1, a.2] := ⟨_, pi_tup WE.pe, fun E G H σ hh R q => h E G H σ hh _ fun v G1 H1 l1 ⟨p, v1, v2, e1, hp, h1, h2⟩ =>
  ⟨p, e1, ⟨_, Evl.ex_t l1.gh hp⟩, q _ G1 H1 l1 fun i G2 H2 g1 g2 => ⟨fun b eb => by
    have hp2 := Evl.ex_t (g1.trans g2) hp
    have ha : All2 r G1 [v1, v2] [a.1, a.2] := .cons h1 (.cons h2 .nil)
    obtain ⟨v, ev, rv⟩ := ha.get eb
    exact ⟨⟨_, v, hp2, ev⟩, fun x H' y => by
      obtain ⟨e3, y2⟩ := y
      have e4 := y2 _ hp2
      rw [ev] at e4
      cases e4
      rw [e3]
      exact ⟨G2, .refl g2, r.mono g1 rv⟩⟩, fun le => ⟨_, Evl.ex_t (g1.trans g2) hp, by exact le⟩⟩⟩⟩
theorem tg_tup3 {t1 t2 t3 : Expr} {n : Nat} {U : α → List Slot → List Slot} {W : β → List Slot → List Slot} {Z : γ → List Slot → List Slot} {vs ws zs : List Nat} (h1 : TgOk X t1 r U vs) (h2 : TgOk X t2 s W ws) (h3 : TgOk X t3 t Z zs) (hc : X.calm = true := by rfl)
    (hs1 : (assignEach (t1 :: [t2, t3]) X.env).map (·.2) = assign t1 X.env :: (assignEach [t2, t3] X.env).map (·.2) := by rfl) (hs2 : (assignEach (t2 :: [t3]) X.env).map (·.2) = assign t2 X.env :: (assignEach [t3] X.env).map (·.2) := by rfl) (hs3 : (assignEach (t3 :: []) X.env).map (·.2) = assign t3 X.env :: (assignEach [] X.env).map (·.2) := by rfl)
    (hn : (assignEach [t1, t2, t3] X.env).length = 3 := by rfl) (hst : (assignEach [t1, t2, t3] X.env).findIdx? (·.1) = none := by rfl) :
    TgOk X (.Tuple [t1, t2, t3] n pos) (rT3 X.K r s t) (fun a Γ => Z a.2.2 (W a.2.1 (U a.1 Γ))) (vs ++ (ws ++ zs)) := fun E G H σ Γ v a hh hv Q q => by
  obtain ⟨p, v1, v2, v3, e, hp, q1, q2, q3⟩ := hv
  subst e
  refine WG.of (pg_tup hc (pgs_cons (t := WG X t1) WG.pg (pgs_cons (t := WG X t2) WG.pg (pgs_cons (t := WG X t3) WG.pg pgs_nil hs3) hs2) hs1) hn hst) ⟨p, [v1, v2, v3], rfl, Evl.ex_t hh.le.gh hp, rfl, v1, [v2, v3], rfl, ?_⟩
  exact h1 E G H σ Γ v1 a.1 hh q1 _ fun σ1 b1 hh1 => ⟨v2, [v3], rfl, h2 E G H σ1 _ v2 a.2.1 hh1 q2 _ fun σ2 b2 hh2 => ⟨v3, [], rfl, h3 E G H σ2 _ v3 a.2.2 hh2 q3 _ fun σ3 b3 hh3 => ⟨rfl, q σ3 (b1.trans (b2.trans b3)) hh3⟩⟩⟩
theorem ev_t3a {a : α × β × γ} {k : Nat} {p2 : Pos} (h : Ev X Γ e (rT3 X.K r s t) a) : Ev X Γ (.Subscript e (.Constant (.int 0) k p2) pos) r a.1 := fun E G H σ hh Q q =>
  WE.of (pe_ix ix_tup WE.pe pe_int (plain_of rfl)) (h E G H σ hh _ fun v G1 H1 l1 ⟨p, v1, v2, v3, e1, hp, h1, h2, h3⟩ => ⟨p, _, 0, v1, e1, rfl, Evl.ex_t l1.gh hp, rfl, q _ G1 H1 l1 h1⟩)
theorem ev_t3b {a : α × β × γ} {k : Nat} {p2 : Pos} (h : Ev X Γ e (rT3 X.K r s t) a) : Ev X Γ (.Subscript e (.Constant (.int 1) k p2) pos) s a.2.1 := fun E G H σ hh Q q =>
  WE.of (pe_ix ix_tup WE.pe pe_int (plain_of rfl)) (h E G H σ hh _ fun v G1 H1 l1 ⟨p, v1, v2, v3, e1, hp, h1, h2, h3⟩ => ⟨p, _, 1, v2, e1, rfl, Evl.ex_t l1.gh hp, rfl, q _ G1 H1 l1 h2⟩)
theorem ev_t3c {a : α × β × γ} {k : Nat} {p2 : Pos} (h : Ev X Γ e (rT3 X.K r s t) a) : Ev X Γ (.Subscript e (.Constant (.int 2) k p2) pos) t a.2.2 := fun E G H σ hh Q q =>
  WE.of (pe_ix ix_tup WE.pe pe_int (plain_of rfl)) (h E G H σ hh _ fun v G1 H1 l1 ⟨p, v1, v2, v3, e1, hp, h1, h2, h3⟩ => ⟨p, _, 2, v3, e1, rfl, Evl.ex_t l1.gh hp, rfl, q _ G1 H1 l1 h3⟩)
/-! names of the module -/
theorem ev_gint {n : Str} (h : ∃ t, X.mg n = some (.int i t)) (hg : Gl X n := by rfl) (hd : (n == ("__debug__" : Str)) = false := by decide) : Ev X Γ (.Name n pos) rInt i := fun E G H σ hh Q q => by
  obtain ⟨t, h⟩ := h
  exact WE.of (pe_glob (v := .int i) hg h ⟨t, rfl⟩ hd) (q _ G H (.refl hh.le.gh) rfl)
theorem ev_gstr {n : Str} (h : ∃ t, X.mg n = some (.str u t)) (hg : Gl X n := by rfl) (hd : (n == ("__debug__" : Str)) = false := by decide) : Ev X Γ (.Name n pos) rStr u := fun E G H σ hh Q q => by
  obtain ⟨t, h⟩ := h
  exact WE.of (pe_glob (v := .str u) hg h ⟨t, rfl⟩ hd) (q _ G H (.refl hh.le.gh) rfl)
theorem ev_gref {n : Str} {a : Addr} (h : X.mg n = some (.ref a)) (hr : ∀ G, r.rel G (.ref a) x) (hg : Gl X n := by rfl) (hd : (n == ("__debug__" : Str)) = false := by decide) : Ev X Γ (.Name n pos) r x := fun E G H σ hh Q q =>
  WE.of (pe_glob (v := .ref a) hg h rfl hd) (q _ G H (.refl hh.le.gh) (hr G))
/-! data of any form -/
theorem ev_dint (h : Ev X Γ e rInt i) : Ev X Γ e (rDyn X.K ro) (.int i) := fun E G H σ hh Q q => h E G H σ hh Q fun v G1 H1 l1 r1 => q v G1 H1 l1 (by cases r1; exact .int i)
theorem ev_dstr (h : Ev X Γ e rStr u) : Ev X Γ e (rDyn X.K ro) (.str u) := fun E G H σ hh Q q => h E G H σ hh Q fun v G1 H1 l1 r1 => q v G1 H1 l1 (by cases r1; exact .str u)
end
end Hf

namespace Hf
open PySem PySem.Spec PyProof.Rows L2
abbrev FnP (K : PySem.W.Frag) (x : Str) (st : Stmt) (f : Addr) (fd : FuncData) : Prop := FunD K x x (defArgs st) (defBody st) (defScope st) [] [] f fd
/-! sizes of ints -/
def Top (i : Int) : Prop := i.natAbs.log2 < 100000
def Bot (j : Int) : Prop := 0 < j ∧ j.natAbs.log2 < 9000
theorem log2_lt {n k : Nat} (h0 : 0 < k) (h : n < 2 ^ k) : n.log2 < k := PySem.Flt.log2_lt_of h0 h
theorem top_of {i : Int} {k : Nat} (h : i.natAbs < 2 ^ k) (h0 : 0 < k) (hk : k ≤ 100000) : Top i := Nat.lt_of_lt_of_le (log2_lt h0 h) hk
theorem bot_of {i : Int} {k : Nat} (hp : 0 < i) (h : i.natAbs < 2 ^ k) (h0 : 0 < k) (hk : k ≤ 9000) : Bot i := ⟨hp, Nat.lt_of_lt_of_le (log2_lt h0 h) hk⟩
theorem Bot.top {i : Int} (h : Bot i) : Top i := Nat.lt_trans h.2 (by decide)
theorem top1 : Top 1 := by unfold Top; decide
theorem cm {i j : Int} (h : Top i) (k : Top j) : CMulW i j := by unfold CMulW Top at *; omega
theorem Bot.div {i j : Int} (h : Bot j) : CDivW i j := h
theorem log2_mono {m n : Nat} (h : m ≤ n) : m.log2 ≤ n.log2 := by
  by_cases hm : m = 0
  · subst hm; simp
  · exact (Nat.le_log2 (by omega)).mpr (Nat.le_trans ((Nat.le_log2 hm).mp (Nat.le_refl _)) h)
theorem Bot.le {i j : Int} (h : Bot j) (h0 : 0 < i) (h1 : i ≤ j) : Bot i := ⟨h0, Nat.lt_of_le_of_lt (log2_mono (by omega)) h.2⟩
/-! shares -/
def share (t b : Int) : Int × Int := (t / (Int.gcd t b : Int), b / (Int.gcd t b : Int))
def isMore (a b : Int × Int) : Bool := decide (b.1 * a.2 < a.1 * b.2)
theorem gcd_pos_r {t b : Int} (h : 0 < b) : 0 < (Int.gcd t b : Int) := by
  have := Int.gcd_pos_of_ne_zero_right t (b := b) (by omega)
  omega
theorem gcd_le_r {t b : Int} (h : 0 < b) : (Int.gcd t b : Int) ≤ b := Int.le_of_dvd h (Int.gcd_dvd_right ..)
theorem gcd_step {x y : Int} (hx : 0 ≤ x) (hy : 0 ≤ y) : Int.gcd y (x % y) = Int.gcd x y := by
  obtain ⟨m, rfl⟩ := Int.eq_ofNat_of_zero_le hx
  obtain ⟨n, rfl⟩ := Int.eq_ofNat_of_zero_le hy
  show Nat.gcd _ _ = Nat.gcd _ _
  rw [← Int.natCast_emod, Int.natAbs_natCast, Int.natAbs_natCast, Int.natAbs_natCast]
  rw [Nat.gcd_comm, Nat.gcd_comm m n, Nat.gcd_rec n m]
theorem gcd_absif {t b : Int} : (Int.gcd (if t < 0 then -t else t) b) = Int.gcd t b := by
  split
  · simp
  · rfl
/-- an own global that is an object of the written part -/
theorem ev_gref' {X : Cx} {Γ : List Slot} {α : Type} {r : Rp α} {x : α} {pos : Pos} {n : Str} (h : ∃ a, X.mg n = some (.ref a) ∧ ∀ G, r.rel G (.ref a) x) (hg : Gl X n := by rfl) (hd : (n == ("__debug__" : Str)) = false := by decide) : Ev X Γ (.Name n pos) r x := by
  obtain ⟨a, h1, h2⟩ := h
  exact ev_gref h1 h2 hg hd
theorem ev_lenT2 {X : Cx} {Γ : List Slot} {α β : Type} {r : Rp α} {s : Rp β} {a : α × β} {e : Expr} {pos p : Pos} (h : Ev X Γ e (rT2 X.K r s) a) (hm : X.mg "len" = none) (hg : Gl X "len" := by rfl) (he : starEach (e :: []) X.env = (false, eval e X.env) :: starEach [] X.env := by rfl) (hpl : (backTo pos (starEach [] X.env)).any (·.1) = false := by rfl) :
    Ev X Γ (.Call (.Name "len" p) [e] [] pos) rInt 2 := fun E G H σ hh Q q =>
  WE.of (pe_callB call_len_seq hg hm PySem.boot_len (pa_cons WE.pe pa_nil he) (he := he) (hpl := hpl)) (h E G H σ hh _ fun v G1 H1 l1 ⟨p, v1, v2, e1, hp, _, _⟩ => ⟨p, _, by rw [e1], .inr (Evl.ex_t l1.gh hp), q _ G1 H1 l1 rfl⟩)
theorem kind_seq {K : PySem.W.Frag} {α : Type} {r : Rp α} {as : List α} : Kind K (rSeq K r) as "list" := fun G v ⟨p, vs, e, h, _⟩ => by
  subst e
  rcases h with (h | ⟨o, h⟩) | ⟨o, its, n, h, c, _⟩
  · exact .base (.lst h)
  · exact .base (.frz h)
  · exact .kList h c
/-- int(..) // .. of the law's cells -/
def cellAt (script : List Int) (k : Int) : Int :=
  if decide (k < (script.length : Int)) = true then script.getD k.toNat 0
  else if PyData.eqv (pdInts script) (pdInts []) = true then k * 48271
  else (script.getD (k % (script.length : Int)).toNat 0 + k) * 48271 % 2147483647
theorem eqv_seqInts {K : PySem.W.Frag} {ns : List Int} : Eqv K (rSeq K rInt) ns (pdInts ns) := ⟨fun G v ⟨p, vs, e, h, h2⟩ => by
  subst e
  exact .lst h (dpAll_ints h2), by
  have z : ∀ l : List Int, PyData.canLayAll0 (l.map .int) = true := fun l => by
    induction l with
    | nil => rfl
    | cons a l ih => simp [PyData.canLayAll0, PyData.canLay0, ih]
  have d : ∀ l : List Int, PyData.depthAll (l.map PyData.int) ≤ 1 := fun l => by
    induction l with
    | nil => simp [PyData.depthAll]
    | cons a l ih => simp [PyData.depthAll, PyData.depth]; omega
  unfold SeqAt.shaped pdInts
  have := d ns
  simp only [PyData.canLay0, z, PyData.depth, Bool.true_and]
  exact decide_eq_true (by omega)⟩
theorem eqv_ints {K : PySem.W.Frag} {ns : List Int} : Eqv K (rLst rInt) ns (pdInts ns) := ⟨fun G v ⟨p, vs, e, h, h2⟩ => (eqv_seqInts (K := K)).dp G v ⟨p, vs, e, .inl (.inl h), h2⟩, (eqv_seqInts (K := K)).sh⟩
end Hf

namespace Hf
open PySem PySem.Spec PyProof.Rows L2
def isShare (t : Int × Int) : Bool := decide (0 ≤ t.1) && decide (1 ≤ t.2) && decide (share t.1 t.2 = t)
def isNum (i lo hi : Int) : Bool := decide (lo ≤ i) && decide (i ≤ hi)
theorem foldl_next {α β : Type} {xs : List α} {i : Nat} {a : α} {f : β → α → β} {b s : β} (h : xs[i]? = some a) (e : s = (xs.take i).foldl f b) {s' : β} (k : s' = f s a) : s' = (xs.take (i + 1)).foldl f b := by
  rw [List.take_add_one, h, List.foldl_append, ← e, k]
  rfl
/-! one sign many times -/
theorem mul_length {x : Str} {n : Int} (h : 0 ≤ n) (h1 : x.length = 1) : (Txt.mul x n).length = n.toNat := by
  unfold Txt.mul
  by_cases z : n < 1
  · rw [if_pos z]
    have : n = 0 := by omega
    subst this
    rfl
  · rw [if_neg z]
    by_cases e : n = 1
    · subst e
      rw [if_pos (by simp)]
      simpa using h1
    · rw [if_neg (by simp [e, h1])]
      have g : ∀ (k : Nat) (acc : Array Nat), ((List.replicate k x.cps).foldl (· ++ ·) acc).size = acc.size + k := fun k => by
        induction k with
        | zero => intro acc; simp
        | succ k ih =>
          intro acc
          rw [List.replicate_succ, List.foldl_cons, ih, Array.size_append]
          have : x.cps.size = 1 := h1
          omega
      show ((List.replicate n.toNat x.cps).foldl (· ++ ·) #[]).size = n.toNat
      rw [g]
      simp
theorem mulOk_one {x : Str} {n : Int} (h : 0 ≤ n ∧ n ≤ 1000) (h1 : x.length = 1 := by rfl) : MulOk x n := by
  refine ⟨by simp; omega, fun _ _ => ?_, fun _ _ => ?_⟩
  · rw [h1]
    have : (2 ^ 63 - 1 : Int) / n ≥ 1 := by
      have : (2 ^ 63 - 1 : Int) / n ≥ (2 ^ 63 - 1) / 1000 * 1 / 1 := by
        rw [ge_iff_le, Int.le_ediv_iff_mul_le (by omega)]
        omega
      omega
    omega
  · rw [h1]
    unfold Builtin.Str.tooLong
    have : n.toNat ≤ 1000 := by omega
    have z : 1 * n.toNat ≤ sizeLine := Evl.sz_of (by omega)
    simp only [decide_eq_false_iff_not]
    omega
/-! shares of the whole -/
def isPart (thing : Int × Int) : Bool := (isShare thing && !isMore thing (1, 1))
theorem part_facts {t : Int × Int} (h : isPart t = true) : 0 ≤ t.1 ∧ 1 ≤ t.2 ∧ t.1 ≤ t.2 := by
  simp [isPart, isShare, isMore] at h
  omega
theorem part_pos {t : Int × Int} (h : isPart t = true) (hl : t.2.natAbs.log2 < 30) : 0 < t.2 ∧ t.2 < 1073741824 := by
  have := part_facts h
  refine ⟨by omega, ?_⟩
  have : t.2.natAbs < 2 ^ 30 := (Nat.log2_lt (by omega)).mp hl
  omega
def doneOf (s : Int × Int) (many : Int) : Int := s.1 * many / s.2
def barT (s : Int × Int) (many : Int) : Str := Txt.mul "#" (doneOf s many) ++ Txt.mul "." (many - doneOf s many)
theorem done_bounds {t : Int × Int} {m : Int} (h : isPart t = true) (hm : 1 ≤ m) : 0 ≤ doneOf t m ∧ doneOf t m ≤ m := by
  obtain ⟨h0, h1, h2⟩ := part_facts h
  unfold doneOf
  refine ⟨Int.ediv_nonneg (Int.mul_nonneg h0 (by omega)) (by omega), ?_⟩
  have : t.1 * m ≤ m * t.2 := by
    rw [Int.mul_comm m]
    exact Int.mul_le_mul_of_nonneg_right h2 (by omega)
  have := Int.ediv_le_ediv (by omega : 0 < t.2) this
  rw [Int.mul_ediv_cancel _ (by omega)] at this
  exact this
end Hf

namespace Hf
open PySem PySem.Spec PyProof.Rows L2
abbrev FnD (K : PySem.W.Frag) (x : Str) (st : Stmt) (dvs : List V) (f : Addr) (fd : FuncData) : Prop := FunD K x x (defArgs st) (defBody st) (defScope st) dvs [] f fd
theorem cxl_no {P : Program} {w : World} {l : List Env} {H : Hp} {s : Shared} {e : Value} {s' : Shared} (h : L2.CX P w l H s E0 e s') : False := by
  obtain ⟨_, _, _, _, _, _, _, _, _, _, _, _, z⟩ := h
  exact z.elim
theorem fn_quiet {P : Program} {w : World} {K : PySem.W.Frag} {mg : Str → Option Value} {base : Heap} {k : Nat} {f : Addr} {fd : FuncData} {ps : List Str} {sp : Sp} (F : FnOk P w K mg base (CXL P w) k f fd ps sp) (h : ∀ vs H Q E E', sp vs H Q E → sp vs H Q E') : FnOk P w K mg base CX0 k f fd ps sp :=
  ⟨F.len, fun A outer s H args us vs Q E hr he hb hv hs => codeAny_mono (F.run A outer s H args us vs Q E0 hr he hb hv (h _ _ _ _ _ hs)) fun r s' q => by
    cases r with
    | error e => exact (cxl_no q).elim
    | ok fl => cases fl <;> exact q⟩
/-- a def of which the last parameters may be left out -/
theorem Has.mkD {P : Program} {w : World} {K : PySem.W.Frag} {mg : Str → Option Value} {base : Heap} {x : Str} {k : Nat} {sp spF : Sp} {f : Addr} {fd : FuncData} {ps : List Str} {dvs : List V} (hm : mg x = some (.ref f)) (hk : PySem.W.keepIn K (.ref f) = true) (hb : ∃ ds, Vals dvs ds ∧ Binds K fd ps ds) (F : FnOk P w K mg base (CXL P w) k f fd ps spF)
    (h : ∀ vs H Q, sp vs H Q E0 → spF (vs ++ dvs) H Q E0) : Has P w K mg base x k sp := by
  obtain ⟨ds, h1, h2⟩ := hb
  exact ⟨f, fd, ps, spF, dvs, ds, hm, hk, h2, h1, F, h⟩
theorem args_app {G : Hp} {v : V} {t : Ty} (h : t.r.rel G v t.a) : ∀ {vs : List V} {ts : List Ty}, Args G vs ts → Args G (vs ++ [v]) (ts ++ [t])
  | [], [], _ => ⟨h, trivial⟩
  | _ :: _, _ :: _, k => ⟨k.1, args_app h k.2⟩
end Hf

/-! set(list of ints), sorted(set of ints), any number of them -/
namespace Hf
open PySem PySem.Spec PyProof.Rows L2 PySem.W PySem.Calls
/-- the set that is made first -/
abbrev nset (w : World) : Obj := { cls := .type "set", dict := none, data := .set #[] 0 (.fresh 0 0 (!w.params.followText "set-order")) }
section
variable {P : Program} {w : World} {A : Around} {E : Value → Shared → Prop} {s : Shared}
set_option maxHeartbeats 3200000 in
theorem set_of_list {l : Addr} {items : Array Value} (ns : List Int) {Q : Value → Shared → Prop} (nh : A.handled = none) (hl : s.heap.IsList l items) (it : IntsAre items.toList ns) (fit : ns.length + 1 < scanBound)
    (k : ∀ (g : Heap) (tk c : Nat), SetR w g s.heap.objs.size (fun j => decide (j ∈ ns)) c → c ≤ ns.length → (∀ b o, s.heap.get? b = some o → g.get? b = some o) → Q (.ref s.heap.objs.size) { s with heap := g, toks := tk }) :
    wpAny (model P w) A (call (.type "set") [.ref l]) Q E s := by
  have sz : items.size = ns.length := by have q := it.length; rw [Array.length_toList] at q; exact q
  have fs := F.called_set
  obtain ⟨mc, mt, hmro⟩ := fs.mro
  have x1 := fs.made; have x2 := fs.sub; have x3 := fs.notType; have x4 := fs.canCreate
  refine wpAny_call (codeAny_of_tree (wpAny_pure (show _ ∧ _ from ⟨Code.quiet_builtin _ (by decide +kernel), codeAny_builtin F.entry_type_call ?_⟩)))
  rw [Around.under_plain (weight_type_call_type "set" [.ref l] []) rfl]
  have x5 := F.typeCall_set_1 (.ref l)
  repeat (any_goals (first | assumption | wp_step))
  refine codeAny_mono (code_set_led1 (.ref l) (E := E) (Q₁ := fun ob u => ob = .ref s.heap.objs.size ∧ u = { s with heap := s.heap.push (nset w) }) ⟨rfl, rfl⟩) fun r u hr => ?_
  match r, hr with
  | .error e, hr => exact hr
  | .ok (.ret ob), hr =>
    obtain ⟨e1, e2⟩ := hr
    subst e1; subst e2
    have hS : (s.heap.push (nset w)).get? s.heap.objs.size = some (nset w) := Heap.get?_push_size _ rfl
    have hT : Shared.TypeIs { s with heap := s.heap.push (nset w) } (.ref s.heap.objs.size) "set" := ⟨_, hS, rfl⟩
    have x6 := fs.init.lookup; have x7 := fs.init.bind (.ref s.heap.objs.size)
    repeat (any_goals (first | assumption | wp_step))
    refine codeAny_mono (codeAny_call_builtin (R := wants (fun r s₂ => r = .none ∧ ∃ g tk c, s₂ = { s with heap := g, toks := tk } ∧ SetR w g s.heap.objs.size (fun j => decide (j ∈ ns)) c ∧ c ≤ ns.length ∧
        (∀ b o, s.heap.get? b = some o → g.get? b = some o)) E) fs.init.plain F.entry_set_init (check_set_init_1 hT ?_)) fun r₂ s₂ hr₂ => ?_
    · obtain ⟨⟨ocls, odict, odata, oslots⟩, hol, hcl, nl, hdl⟩ := hl
      simp only at hcl hdl
      subst hcl; subst hdl
      have hl1 : (s.heap.push (nset w)).IsList l items := ⟨_, Heap.get?_push_of_some _ hol, rfl, nl, rfl⟩
      have hol' : (s.heap.push (nset w)).get? l = some { cls := .type "list", dict := odict, data := .seq items nl, slots := oslots } := Heap.get?_push_of_some _ hol
      have y1 := F.sub_list_set; have y2 := F.sub_list_frozenset
      have y3 : (Value.type "list" == Value.type "dict") = false := by decide
      unfold Builtin.«set.__init__» noKeywords Builtin.Frozenset.updateFrom
      generalize hPI : pyIter = PI
      wp_walk
      subst hPI
      refine wpAny_pyIter_list hl1 (wpAny_bind (wpAny_runValue ?_))
      have ls : l < s.heap.objs.size := Heap.lt_size hol
      have pz : (s.heap.push (nset w)).objs.size = s.heap.objs.size + 1 := Heap.size_push ..
      have hh3 : A.in1.in1.in1.handled = none := by simp [nh]
      refine set_update_ints ((Walks.list hh3 (s.heap.push (nset w)).objs.size l (by rw [pz]; exact Nat.ne_of_lt (Nat.lt_succ_of_lt ls)) items).toS) s.heap.objs.size
        (by rw [pz]; simp only [List.mem_cons, List.not_mem_nil, or_false, not_or]; exact ⟨Nat.ne_of_lt (Nat.lt_succ_self _), Nat.ne_of_gt ls⟩) ns sz fit (fun i v hv => ?hval) (items.size - 0) 0 _ (by omega) (Nat.zero_le _) ⟨⟨_, Heap.get?_push_size _ rfl, rfl, rfl⟩, hl1.push _⟩ ⟨0, Nat.le_refl 0, setR_new_at (Heap.get?_push_of_some _ hS)⟩ fun s' c' hm hc' hS' => ?_
      case hval =>
        have hi : i < ns.length := by rw [← sz]; exact (Array.getElem?_eq_some_iff.mp hv).1
        obtain ⟨t, e⟩ := it.int_at i v (by rw [Array.getElem?_toList]; exact hv)
        refine ⟨ns[i], t, List.getElem?_eq_getElem hi, ?_⟩
        rw [e, List.getD_eq_getElem?_getD, List.getElem?_eq_getElem hi]; rfl
      obtain ⟨g, g2, d', tk, os'⟩ := s'
      have eg : g2 = s.gens := hm.gens
      have ed : d' = s.drawn := hm.drawn
      have eo : os' = s.os := hm.os
      subst eg; subst ed; subst eo
      rw [sz] at hc'
      refine wpAny_pure (show wpAny _ _ (ret Value.none) _ _ _ from wpAny_pure ⟨rfl, g, tk, c', rfl, hS', hc', fun b o e => ?_⟩)
      have hb0 : b < s.heap.objs.size := Heap.lt_size e
      exact hm.heap b o (by rw [pz]; simp only [List.mem_cons, List.not_mem_nil, or_false, not_or]; exact ⟨Nat.ne_of_lt hb0, Nat.ne_of_lt (Nat.lt_succ_of_lt hb0)⟩) (Heap.get?_push_of_some _ (Heap.get?_push_of_some _ e))
    · match r₂, hr₂ with
      | .error e, hr₂ => exact hr₂
      | .ok (.ret r), hr₂ =>
        obtain ⟨e1, g, tk, c', e2, hS', hc', hk'⟩ := hr₂
        subst e1; subst e2
        repeat (any_goals (first | assumption | wp_step))
        exact k _ _ _ hS' hc' hk'
theorem sorted_of_set {a : Addr} {S : Int → Bool} {n : Nat} {Q : Value → Shared → Prop} (R : SetR w s.heap a S n) (nh : A.handled = none)
    (k : ∀ u p (out : Array Value) (c : Nat) (ns : List Int), (∀ b o, s.heap.get? b = some o → u.heap.get? b = some o) → u.gens = s.gens → u.os = s.os → s.heap.objs.size ≤ p →
      u.heap.get? p = some (seqObj "list" out c) → IntsAre out.toList ns → ns.Pairwise (· < ·) → (∀ k, k ∈ ns ↔ S k = true) → ns.length ≤ scanBound → Q (.ref p) u) :
    wpAny (model P w) A (call (.builtin "sorted") [.ref a]) Q E s := by
  obtain ⟨o, es, ep, t, ho, hex, hd, g, nd, hm, hb, hf, hn, hr, hl⟩ := R
  refine call_function_entry kind_sorted plain_sorted entry_sorted (args_sorted1 _) ?_
  unfold Builtin.«sorted»
  refine wpAny_bind (m := checkCount "sorted" 1 1 _) (wpAny_pure (wpAny_bind (collect_set (A := A.in1) nh ⟨o, ho, hex.1, hd⟩ hf hb hr hl fun u vs k1 hz g1 o1 pm => ?_)))
  have vl : vs.length = es.size := by rw [pm.length_eq, List.length_map, Array.length_toList]
  have hI : IntsAre vs (vs.map Builtin.Re.reRawOf) := ints_of vs fun v hv => by
    obtain ⟨e, he, q⟩ := List.mem_map.mp (pm.mem_iff.mp hv)
    obtain ⟨i, tk, h1, _⟩ := g e he
    exact ⟨i, tk, q.symm.trans h1⟩
  have pk : (vs.map Builtin.Re.reRawOf).Perm (es.toList.map keyOf) := by
    have q := pm.map Builtin.Re.reRawOf
    rwa [List.map_map] at q
  have lim : vs.length ≤ sizeLine := by rw [vl]; exact fits_of_scanBound hb
  have hoL : (u.heap.push (seqObj "list" vs.toArray 0)).get? u.heap.objs.size = some (seqObj "list" vs.toArray 0) := Heap.get?_push_size _ rfl
  refine wpAny_bind (wpAny_newList (wpAny_bind (wpAny_holding (wpAny_call_entry slot_list_sort ⟨_, hoL, rfl⟩ entry_list_sort
    (SrtO.list_sort_ord SrtO.swo_int hoL lim (fun h2 => SrtO.ints_sortable hI h2) fun out h1 h2 => ⟨_, rfl, ?_⟩) (args_list_sort _)))) lim)
  obtain ⟨b1, b2, b3⟩ := SrtO.ints_out hI h1 h2
  obtain ⟨c, hc⟩ := sortedHeap_at (vs := vs) (out := out.toArray) hoL
  have pn := b2.trans pk
  refine wpAny_pure ⟨_, rfl, k _ u.heap.objs.size out.toArray c (out.map SrtO.iv) (fun b v e => ?_) g1 o1 hz hc b1 (lt_of_le_nodup _ b3 (pn.nodup_iff.mpr nd)) (fun i => by rw [pn.mem_iff, ← hm i]) ?_⟩
  · have q := k1 b v e
    have lt := Heap.lt_size q
    show (sortedHeap (u.heap.push (seqObj "list" vs.toArray 0)) u.heap.objs.size vs out.toArray).get? b = some v
    rw [sortedHeap_old (Nat.ne_of_lt lt) (by rw [size_push']; exact Nat.lt_succ_of_lt lt)]
    exact Heap.get?_push_of_some _ q
  · rw [pn.length_eq, List.length_map, Array.length_toList]; omega
end
end Hf

namespace Hf
open PySem PySem.Spec PyProof.Rows L2

/-! ### set, sorted -/
def insU (a : Int) : List Int → List Int
  | [] => [a]
  | b :: l => if a < b then a :: b :: l else if a = b then b :: l else b :: insU a l
def sortU (ns : List Int) : List Int := ns.foldr insU []
theorem insU_mem {a x : Int} : ∀ {l : List Int}, x ∈ insU a l ↔ x = a ∨ x ∈ l
  | [] => by simp [insU]
  | b :: l => by
    unfold insU
    split
    · simp
    · split
      · rename_i h; subst h; simp
      · simp [insU_mem (l := l)]
        grind
theorem insU_lt {a : Int} : ∀ {l : List Int}, l.Pairwise (· < ·) → (insU a l).Pairwise (· < ·)
  | [], _ => by simp [insU]
  | b :: l, h => by
    obtain ⟨h1, h2⟩ := List.pairwise_cons.mp h
    unfold insU
    split
    · rename_i q
      exact List.pairwise_cons.mpr ⟨fun y hy => (List.mem_cons.mp hy).elim (fun e => by omega) (fun e => by have := h1 y e; omega), h⟩
    · split
      · exact h
      · exact List.pairwise_cons.mpr ⟨fun y hy => (insU_mem.mp hy).elim (fun e => by omega) (fun e => h1 y e), insU_lt h2⟩
theorem sortU_mem {x : Int} : ∀ {l : List Int}, x ∈ sortU l ↔ x ∈ l
  | [] => by simp [sortU]
  | b :: l => by
    show x ∈ insU b (sortU l) ↔ _
    rw [insU_mem, sortU_mem (l := l), List.mem_cons]
theorem sortU_lt : ∀ {l : List Int}, (sortU l).Pairwise (· < ·)
  | [] => by simp [sortU]
  | b :: l => insU_lt (sortU_lt (l := l))
theorem strict_ext : ∀ {a b : List Int}, a.Pairwise (· < ·) → b.Pairwise (· < ·) → (∀ x, x ∈ a ↔ x ∈ b) → a = b
  | [], [], _, _, _ => rfl
  | [], b :: _, _, _, h => absurd ((h b).mpr List.mem_cons_self) (by simp)
  | a :: _, [], _, _, h => absurd ((h a).mp List.mem_cons_self) (by simp)
  | a :: l, b :: m, h1, h2, h => by
    obtain ⟨p1, p2⟩ := List.pairwise_cons.mp h1
    obtain ⟨q1, q2⟩ := List.pairwise_cons.mp h2
    have e : a = b := by
      have x := (h a).mp List.mem_cons_self
      have y := (h b).mpr List.mem_cons_self
      rcases List.mem_cons.mp x with x | x
      · exact x
      · rcases List.mem_cons.mp y with y | y
        · exact y.symm
        · have := p1 b y
          have := q1 a x
          omega
    subst e
    rw [strict_ext p2 q2 fun x => ?_]
    have z := h x
    simp only [List.mem_cons] at z
    constructor
    · intro hx
      have := p1 x hx
      rcases z.mp (.inr hx) with y | y
      · omega
      · exact y
    · intro hx
      have := q1 x hx
      rcases z.mpr (.inr hx) with y | y
      · omega
      · exact y
theorem sortU_eq {l : List Int} (h : l.Pairwise (· < ·)) : sortU l = l := strict_ext sortU_lt h fun x => sortU_mem
/-- set(xs), a list of ints -/
def rSetI (K : PySem.W.Frag) (w : World) : List V → Hp → VK → Prop := fun vs H Q => ∃ (a : Addr) (ns : List Int), vs = [V.ref a] ∧ SqL K H a (ns.map V.int) ∧ ns.length + 1 < scanBound ∧ ∀ (p : Addr) (c : Nat), H p = none → Q (.ref p) (upd H p (SetO w p (fun j => decide (j ∈ ns)) c))
def rSortSet (w : World) : List V → Hp → VK → Prop := fun vs H Q => ∃ (a : Addr) (S : Int → Bool) (n : Nat), vs = [V.ref a] ∧ H a = some (SetO w a S n) ∧
  ∀ (ns : List Int) (p : Addr), ns.Pairwise (· < ·) → (∀ k : Int, k ∈ ns ↔ S k = true) → H p = none → Q (.ref p) (upd H p (.lst (ns.map V.int)))
section
variable {X : Cx}
theorem cr_setI (hc : X.calm = true) : CallR X (.type "set") (rSetI X.K X.w) := by
  intro pins s σ H xs us Q I r h
  obtain ⟨l, ns, rfl, hl, fit, q⟩ := h
  rw [Vals.ref1 r]
  obtain ⟨its, rv, pl, hz⟩ := I.list hl
  have hn : H s.heap.objs.size = none := I.hok.fresh (Nat.le_refl _)
  refine set_of_list (P := X.prog) (w := X.w) ns (I.ok.hd hc) pl.isList (by simpa using rv.ints) fit fun g tk c R _ kp => ?_
  exact ⟨.ref s.heap.objs.size, upd H s.heap.objs.size (SetO X.w s.heap.objs.size (fun j => decide (j ∈ ns)) c), I.laid (t' := tk) kp (Nat.le_refl _) (setO_new R), rfl, q _ c hn⟩
theorem cr_sortSet (hc : X.calm = true) : CallR X (.builtin "sorted") (rSortSet X.w) := by
  intro pins s σ H vs us Q I r h
  obtain ⟨a, S, n, rfl, ha, q⟩ := h
  rw [Vals.ref1 r]
  refine sorted_of_set (setO_get I ha) (I.ok.hd hc) fun u p out c ns kp g o hp hg hi hs hm hl => ?_
  have hlen : (ns.map V.int).length ≤ sizeLine := by
    rw [List.length_map, sizeLine_eq]
    have : scanBound = 4096 := rfl
    omega
  have hn : H p = none := I.hok.fresh hp
  have e : u = { s with heap := u.heap, gens := u.gens, drawn := u.drawn, toks := u.toks } := by
    cases u; cases s; cases o; rfl
  rw [e]
  exact ⟨.ref p, upd H p (.lst (ns.map V.int)), I.call (ch := []) (Un.laid kp hp hn) (I.hok.laid kp hp ⟨hlen, out.toList, c, vals_of_ints hi, hg⟩) (by rw [g]; exact I.bare) (fun _ z => nomatch z), rfl, q ns p hs hm hn⟩
end
section
variable {X : Cx} {Γ : List Slot} {α β : Type} {r : Rp α} {s : Rp β} {x : α} {y : β} {e f : Expr} {pos p p2 : Pos} {i j : Int} {as : List α}
theorem eo_sortSet {ns : List Int} {pos2 : Pos} (hl : ns.length + 1 < scanBound) (h : EvB X Γ e (oLst rInt ns)) (hm : X.mg "sorted" = none) (hm2 : X.mg "set" = none) (hc : X.calm = true := by rfl) (hg : Gl X "sorted" := by rfl) (hg2 : Gl X "set" := by rfl) (he : starEach (e :: []) X.env = (false, eval e X.env) :: starEach [] X.env := by rfl) (hpl : (backTo pos2 (starEach [] X.env)).any (·.1) = false := by rfl)
    (he2 : starEach ((.Call (.Name "set" p2) [e] [] pos2) :: []) X.env = (false, eval (.Call (.Name "set" p2) [e] [] pos2) X.env) :: starEach [] X.env := by rfl) (hpl2 : (backTo pos (starEach [] X.env)).any (·.1) = false := by rfl) :
    EvO X Γ (.Call (.Name "sorted" p) [.Call (.Name "set" p2) [e] [] pos2] [] pos) (oLst rInt (sortU ns)) := fun E G H σ hh Q q =>
  WE.of (pe_callB (cr_sortSet hc) hg hm (by decide +kernel) (pa_cons (pe_callTy (cr_setI hc) hg2 hm2 (by decide +kernel) (pa_cons WE.pe pa_nil he) (he := he) (hpl := hpl)) pa_nil he2) (he := he2) (hpl := hpl2)) (h E G H σ hh _ fun p1 o G1 H1 l1 hp ⟨vs, e1, ha⟩ => by
    subst e1
    rw [all2_int ha] at hp
    refine ⟨p1, ns, rfl, .inl (.inl hp), hl, fun p3 c n => ?_⟩
    refine ⟨p3, _, c, rfl, upd_same, fun ms p4 h1 h2 n4 => ?_⟩
    have l2 := l1.addO (o := SetO X.w p3 (fun j => decide (j ∈ ns)) c) n
    have e2 : ms = sortU ns := strict_ext h1 sortU_lt fun x => by rw [h2, sortU_mem]; simp
    exact q p4 _ G1 _ (Evl.fresh_back l2.h n4) (l2.addO n4) (Evl.fresh_back l2.gh n4) upd_same ⟨_, rfl, by rw [e2]; exact all2_ofInt _⟩)
/-! ### shifts, in, is None -/
theorem ev_shl (hc : CPow i j) (ha : Ev X Γ e rInt i) (hb : Ev X Γ f rInt j) : Ev X Γ (.BinOp e .LShift f pos) rInt (i * 2 ^ j.toNat) := ev_bin op_shl ha hb (gv_I hc fun _ => rfl)
theorem ev_shr (hc : 0 ≤ j) (ha : Ev X Γ e rInt i) (hb : Ev X Γ f rInt j) : Ev X Γ (.BinOp e .RShift f pos) rInt (i / 2 ^ j.toNat) := ev_bin op_shr ha hb (gv_I hc fun _ => rfl)
theorem ev_and1 (ha : Ev X Γ e rInt i) (hb : Ev X Γ f rInt 1) : Ev X Γ (.BinOp e .BitAnd f pos) rInt (i % 2) := ev_bin op_andM ha hb fun G H a b e h1 h2 Q q => ⟨i, 1, h1, h2, q _ G H (.refl e) rfl⟩
theorem inV_int {i : Int} : ∀ {ns : List Int}, inV (.int i) (ns.map V.int) = decide (i ∈ ns)
  | [] => rfl
  | n :: ns => by
    show (eqV (.int n) (.int i) || inV (.int i) (ns.map V.int)) = _
    rw [inV_int]
    by_cases h : n = i
    · subst h; simp [eqV]
    · have h' : ¬ i = n := fun z => h z.symm
      simp [eqV, h, h']
theorem flat_ints {ns : List Int} : (ns.map V.int).all flatV = true := by simp [List.all_map, flatV]
theorem gv_inI {ns : List Int} : Gives (rIn X.K false) rInt i (rLst rInt) ns rBool (decide (i ∈ ns)) := fun G H a b e h1 ⟨p, vs, e2, hp, ha⟩ Q q => by
  cases h1
  rw [all2_int ha] at hp
  exact ⟨p, _, e2, .inl (.inl (.inl (e _ _ hp))), rfl, flat_ints, by rw [inV_int]; exact q _ G H (.refl e) rfl⟩
theorem ev_inI {ns : List Int} (ha : Ev X Γ e rInt i) (hb : Ev X Γ f (rLst rInt) ns) (hm : behindInMarks .In f = false := by rfl) : Ev X Γ (.Compare e [.In] [f] pos) rBool (decide (i ∈ ns)) := ev_cmpR op_in_seq ha hb gv_inI hm
theorem et_inI {ns : List Int} (ha : Ev X Γ e rInt i) (hb : Ev X Γ f (rLst rInt) ns) (hm : behindInMarks .In f = false := by rfl) : EvT X Γ (.Compare e [.In] [f] pos) (decide (i ∈ ns)) := et_cmpR op_in_seq ha hb gv_inI hm
structure NN {α : Type} (r : Rp α) : Prop where
  nn : ∀ G v a, r.rel G v a → v ≠ .non
theorem nn_int : NN rInt := ⟨fun G v a h => by cases h; simp⟩
theorem nn_str : NN rStr := ⟨fun G v a h => by cases h; simp⟩
theorem nn_bool : NN rBool := ⟨fun G v a h => by cases h; simp⟩
theorem nn_lst : NN (rLst r) := ⟨fun G v a ⟨p, vs, e, _⟩ => by rw [e]; simp⟩
theorem nn_T2 {K : PySem.W.Frag} : NN (rT2 K r s) := ⟨fun G v a ⟨p, v1, v2, e, _⟩ => by rw [e]; simp⟩
theorem gv_isN {o : Option α} (n : NN r) : Gives (fun a b H Q => b = V.non ∧ Q (.bl (decide (a = V.non))) H) (rOpt r) o rNon () rBool o.isNone := fun G H a b e h1 h2 Q q => by
  refine ⟨h2, ?_⟩
  cases o with
  | none =>
    have z : a = .non := h1
    subst z
    exact q _ G H (.refl e) rfl
  | some v =>
    rw [decide_eq_false (n.nn G a v h1)]
    exact q _ G H (.refl e) rfl
theorem ev_isN {o : Option α} (n : NN r) (ha : Ev X Γ e (rOpt r) o) (hb : Ev X Γ f rNon ()) : Ev X Γ (.Compare e [.Is] [f] pos) rBool o.isNone := ev_cmpR op_isN ha hb (gv_isN n)
theorem et_isN {o : Option α} (n : NN r) (ha : Ev X Γ e (rOpt r) o) (hb : Ev X Γ f rNon ()) : EvT X Γ (.Compare e [.Is] [f] pos) o.isNone := et_cmpR op_isN ha hb (gv_isN n)
theorem ev_unopt {o : Option α} {d : α} (h : o.isNone = false) (ha : Ev X Γ e (rOpt r) o) : Ev X Γ e r (o.getD d) := fun E G H σ hh Q q => ha E G H σ hh Q fun v G1 H1 l1 r1 => by
  cases o with
  | none => simp at h
  | some a => exact q v G1 H1 l1 r1
/-! ### enumerate, range(a, b) -/
def enumL (as : List α) : List (Int × α) := as.zipIdx.map fun q => ((q.2 : Int), q.1)
theorem enumL_get {i : Nat} : (enumL as)[i]? = as[i]?.map fun a => ((i : Int), a) := by
  unfold enumL
  rw [List.getElem?_map, List.getElem?_zipIdx]
  cases as[i]? <;> simp
theorem enumL_length : (enumL as).length = as.length := by simp [enumL]
theorem ei_enum {elts : List Expr} {kk : Nat} {tpos : Pos} (h : Ev X Γ e (rLst r) as) (hm : X.mg "enumerate" = none) (hg : Gl X "enumerate" := by rfl) (hs : starEach [e] X.env = [(false, eval e X.env)] := by rfl) (hs2 : starEach (e :: []) X.env = (false, eval e X.env) :: starEach [] X.env := by rfl) :
    EvI X Γ (.Tuple elts kk tpos) (.Call (.Name "enumerate" p) [e] [] pos) (rT2 X.K rInt r) (enumL as) := ⟨_, pi_enum hg hm (pa_cons WE.pe pa_nil hs2) hs, fun E G H σ hh R q => h E G H σ hh _ fun v G1 H1 l1 ⟨p, vs, e1, hp, ha⟩ => by
  refine ⟨p, vs, by rw [e1], .inl (.inl (l1.gh _ _ hp)), q _ G1 H1 l1 fun i G2 H2 g1 g2 => ⟨fun a ea => ?_, fun le => ⟨vs, .inl (.inl (g2 _ _ (g1 _ _ hp))), by rw [ha.length]; rw [enumL_length] at le; exact le⟩⟩⟩
  rw [enumL_get] at ea
  cases hb : as[i]? with
  | none => rw [hb] at ea; cases ea
  | some b =>
    rw [hb] at ea
    cases ea
    obtain ⟨u, eu, ru⟩ := ha.get hb
    have hq : SqL X.K H2 p vs := .inl (.inl (g2 _ _ (g1 _ _ hp)))
    refine ⟨⟨vs, u, hq, eu⟩, fun z H' ⟨T, w, e2, n, e3, e4⟩ => ?_⟩
    have e5 := e4 vs hq
    rw [eu] at e5
    cases e5
    subst e3
    subst e2
    have n2 := Evl.fresh_back g2 n
    exact ⟨upd G2 T (.tup [.int i, u]), (Le.refl g2).add n, T, _, _, rfl, .inl (.inl upd_same), rfl, r.mono (g1.trans (Evl.Ex.new n2)) ru⟩⟩
theorem ei_range2 {tg : Expr} {a b : Int} (h : EvA X Γ [e, f] [⟨rInt, a⟩, ⟨rInt, b⟩]) (hn : -(2 ^ 62) ≤ a ∧ a < 2 ^ 62 ∧ -(2 ^ 62) ≤ b ∧ b < 2 ^ 62) (hm : X.mg "range" = none) (hg : Gl X "range" := by rfl) (hs : starEach [e, f] X.env = [(false, eval e X.env), (false, eval f X.env)] := by rfl) (hs2 : starEach [f] X.env = [(false, eval f X.env)] := by rfl) :
    EvI X Γ tg (.Call (.Name "range" p) [e, f] [] pos) rInt (rangeL a (b - a).toNat) := ⟨_, pi_range2 hg hm WA.pa hs hs2, fun E G H σ hh R q => h E G H σ hh _ fun vs G1 H1 l1 a1 => by
  match vs, a1 with
  | [v1, v2], ⟨h1, h2, _⟩ =>
    refine ⟨a, b, by rw [show v1 = _ from h1, show v2 = _ from h2], hn, q _ G1 H1 l1 fun i G2 H2 g1 g2 => ⟨fun z ea => ?_, fun le => ?_⟩⟩
    · have lt : i < (b - a).toNat := by
        have z := (List.getElem?_eq_some_iff.mp ea).1
        simpa [rangeL] using z
      refine ⟨lt, fun x H' y => ?_⟩
      obtain ⟨e1, e2⟩ := y
      subst e1
      refine ⟨G2, .refl g2, ?_⟩
      have : z = a + (i : Int) := by
        rw [rangeL, List.getElem?_map, List.getElem?_range lt] at ea
        exact (Option.some.inj ea).symm
      rw [e2, this]
      rfl
    · have z : (rangeL a (b - a).toNat).length = (b - a).toNat := by simp [rangeL]
      rw [z] at le
      exact le⟩
/-! ### max of a list -/
def maxL : List Int → Int
  | [] => 0
  | a :: l => l.foldl max a
theorem foldl_max_mem : ∀ (l : List Int) (a : Int), (l.foldl max a ∈ a :: l) ∧ ∀ y ∈ a :: l, y ≤ l.foldl max a
  | [], a => by simp
  | b :: l, a => by
    obtain ⟨h1, h2⟩ := foldl_max_mem l (max a b)
    refine ⟨?_, fun y hy => ?_⟩
    · show l.foldl max (max a b) ∈ _
      rcases List.mem_cons.mp h1 with e | e
      · rw [e]
        rcases Int.le_total a b with q | q
        · rw [Int.max_eq_right q]; simp
        · rw [Int.max_eq_left q]; simp
      · simp [e]
    · show y ≤ l.foldl max (max a b)
      have hm := h2 (max a b) List.mem_cons_self
      rcases List.mem_cons.mp hy with e | hy
      · omega
      · rcases List.mem_cons.mp hy with e | hy
        · omega
        · exact h2 y (List.mem_cons_of_mem _ hy)
theorem maxL_eq {ns : List Int} {m : Int} (h1 : m ∈ ns) (h2 : ∀ y ∈ ns, y ≤ m) : maxL ns = m := by
  cases ns with
  | nil => simp at h1
  | cons a l =>
    obtain ⟨k1, k2⟩ := foldl_max_mem l a
    have := h2 _ k1
    have := k2 m h1
    show l.foldl max a = m
    omega
theorem ev_maxL {ns : List Int} (hn : ns ≠ []) (h : EvB X Γ e (oLst rInt ns)) (hm : X.mg "max" = none) (hc : X.calm = true := by rfl) (hg : Gl X "max" := by rfl) (he : starEach (e :: []) X.env = (false, eval e X.env) :: starEach [] X.env := by rfl) (hpl : (backTo pos (starEach [] X.env)).any (·.1) = false := by rfl) : Ev X Γ (.Call (.Name "max" p) [e] [] pos) rInt (maxL ns) := fun E G H σ hh Q q =>
  WE.of (pe_callB (cr_max hc) hg hm (by decide +kernel) (pa_cons WE.pe pa_nil he) (he := he) (hpl := hpl)) (h E G H σ hh _ fun p o G1 H1 l1 hp ⟨vs, e1, ha⟩ => by
    subst e1
    rw [all2_int ha] at hp
    exact ⟨p, ns, rfl, .inl (.inl hp), List.length_pos_iff.mpr hn, fun m h1 h2 => q _ G1 H1 l1 (show V.int m = .int (maxL ns) by rw [maxL_eq h1 h2])⟩)
/-! ### lists of pairs of ints, == -/
def pdPairs (a : List (Int × Int)) : PyData := .list (a.map pdPair)
theorem dpAll_pairs {K : PySem.W.Frag} {G : Hp} : ∀ {vs : List V} {ns : List (Int × Int)}, All2 (rT2 K rInt rInt) G vs ns → DpAll K G vs (ns.map pdPair)
  | _, _, .nil => .nil
  | _, _, .cons h t => .cons (eqv_pair.dp _ _ h) (dpAll_pairs t)
theorem eqv_pairs {K : PySem.W.Frag} {ns : List (Int × Int)} : Eqv K (rLst (rT2 K rInt rInt)) ns (pdPairs ns) := ⟨fun G v ⟨p, vs, e, h, h2⟩ => by
  subst e
  exact .lst (.inl (.inl h)) (dpAll_pairs h2), by
  have z : ∀ l : List (Int × Int), PyData.canLayAll0 (l.map pdPair) = true := fun l => by
    induction l with
    | nil => rfl
    | cons a l ih => simp [PyData.canLayAll0, pdPair, PyData.canLay0, ih]
  have d : ∀ l : List (Int × Int), PyData.depthAll (l.map pdPair) ≤ 4 := fun l => by
    induction l with
    | nil => simp [PyData.depthAll]
    | cons a l ih => simp [PyData.depthAll, pdPair, PyData.depth]; omega
  unfold SeqAt.shaped pdPairs
  have := d ns
  simp only [PyData.canLay0, z ns, PyData.depth, Bool.true_and]
  exact decide_eq_true (by omega)⟩
theorem eqvAll_pairs : ∀ {a b : List (Int × Int)}, PyData.eqvAll (a.map pdPair) (b.map pdPair) = decide (a = b)
  | [], [] => rfl
  | [], _ :: _ => by simp [PyData.eqvAll]
  | _ :: _, [] => by simp [PyData.eqvAll]
  | a :: l, b :: m => by
    simp only [List.map_cons, PyData.eqvAll, pdPair_eqv, eqvAll_pairs (a := l) (b := m)]
    by_cases h1 : a = b <;> by_cases h2 : l = m <;> simp [h1, h2]
theorem pdPairs_eqv {a b : List (Int × Int)} : PyData.eqv (pdPairs a) (pdPairs b) = decide (a = b) := by
  unfold pdPairs
  simp only [PyData.eqv, eqvAll_pairs]
end
end Hf

namespace Hf
open PySem PySem.Spec PyProof.Rows L2

/-! ### the fewest, of a table D: whether j is off from l -/
section
variable (D : Nat → Nat → Bool)
/-- the last one chosen, their number, behind i -/
def gL : Nat → Nat
  | 0 => 0
  | i + 1 => if D i (gL i) = true then i else gL i
def gC : Nat → List Nat
  | 0 => [0]
  | i + 1 => if D i (gL D i) = true then gC i ++ [i] else gC i
/-- the last one of a choice p ahead of i -/
def pL (p : Nat → Bool) : Nat → Option Nat
  | 0 => none
  | i + 1 => if p i = true then some i else pL p i
def pN (p : Nat → Bool) : Nat → Nat
  | 0 => 0
  | i + 1 => if p i = true then pN p i + 1 else pN p i
def Shown (p : Nat → Bool) (n : Nat) : Prop := ∀ i < n, ∃ l, pL p (i + 1) = some l ∧ D i l = false
variable {D}
theorem gC_s (i : Nat) : gC D (i + 1) = if D i (gL D i) = true then gC D i ++ [i] else gC D i := rfl
theorem gL_s (i : Nat) : gL D (i + 1) = if D i (gL D i) = true then i else gL D i := rfl
theorem gL_le (h0 : ∀ j, D j j = false) : ∀ i, gL D i ≤ i - 1
  | 0 => Nat.le_refl _
  | i + 1 => by
    have := gL_le h0 i
    unfold gL
    split <;> omega
theorem gC_last : ∀ i, (gC D i).getLast? = some (gL D i)
  | 0 => rfl
  | i + 1 => by
    rw [gC_s, gL_s]
    split
    · simp
    · exact gC_last i
theorem gC_lt (h0 : ∀ j, D j j = false) : ∀ i, ∀ x ∈ gC D i, x ≤ i - 1
  | 0, x, h => by simp [gC] at h; omega
  | i + 1, x, h => by
    rw [gC_s] at h
    split at h
    · rcases List.mem_append.mp h with h | h
      · have := gC_lt h0 i x h; omega
      · have := List.mem_singleton.mp h; omega
    · have := gC_lt h0 i x h; omega
theorem gC_inc (h0 : ∀ j, D j j = false) : ∀ i, (gC D i).Pairwise (· < ·)
  | 0 => by simp [gC]
  | i + 1 => by
    unfold gC
    split
    · rename_i h
      have hi : 0 < i := by
        cases i with
        | zero => rw [show gL D 0 = 0 from rfl, h0] at h; cases h
        | succ i => omega
      refine List.pairwise_append.mpr ⟨gC_inc h0 i, by simp, fun x hx y hy => ?_⟩
      have := gC_lt h0 i x hx
      have := List.mem_singleton.mp hy
      omega
    · exact gC_inc h0 i
theorem gC_head : ∀ i, ∃ t, gC D i = 0 :: t
  | 0 => ⟨[], rfl⟩
  | i + 1 => by
    obtain ⟨t, e⟩ := gC_head i
    unfold gC
    split
    · exact ⟨t ++ [i], by rw [e]; rfl⟩
    · exact ⟨t, e⟩
theorem gC_len : ∀ i, (gC D i).length ≤ i + 1
  | 0 => by simp [gC]
  | i + 1 => by
    have := gC_len i
    unfold gC
    split <;> simp <;> omega
/-- later ones are later -/
theorem gC_mem (h0 : ∀ j, D j j = false) {n i : Nat} (hi : i < n) : i ∈ gC D n ↔ i = 0 ∨ D i (gL D i) = true := by
  induction n with
  | zero => omega
  | succ n ih =>
    have old : ∀ x ∈ gC D n, x ≤ n - 1 := gC_lt h0 n
    by_cases e : i = n
    · subst e
      rw [gC_s]
      split
      · rename_i h; simp [h]
      · rename_i h
        constructor
        · intro z
          have := old i z
          left
          omega
        · intro z
          rcases z with z | z
          · subst z
            obtain ⟨t, q⟩ := gC_head (D := D) 0
            rw [q]; simp
          · exact absurd z h
    · rw [← ih (by omega), gC_s]
      split
      · rw [List.mem_append, List.mem_singleton]
        exact ⟨fun z => z.elim id fun z => absurd z e, .inl⟩
      · rfl
theorem pL_gC (h0 : ∀ j, D j j = false) {n : Nat} : ∀ i, i < n → pL (fun j => decide (j ∈ gC D n)) (i + 1) = some (gL D (i + 1))
  | 0, h => by
    unfold pL gL
    have z : (0 : Nat) ∈ gC D n := (gC_mem h0 h).mpr (.inl rfl)
    simp [z, h0, gL]
  | i + 1, h => by
    unfold pL gL
    have m := gC_mem h0 h
    by_cases q : D (i + 1) (gL D (i + 1)) = true
    · rw [if_pos q, if_pos (decide_eq_true (m.mpr (.inr q)))]
    · rw [if_neg q, if_neg (by simp only [decide_eq_true_eq]; intro z; exact (m.mp z).elim (fun z => by omega) (fun z => q z))]
      exact pL_gC h0 i (by omega)
theorem gL_ok (h0 : ∀ j, D j j = false) (i : Nat) : D i (gL D (i + 1)) = false := by
  unfold gL
  split
  · exact h0 i
  · rename_i h; simpa using h
theorem gC_shown (h0 : ∀ j, D j j = false) {n : Nat} : Shown D (fun j => decide (j ∈ gC D n)) n := fun i hi => ⟨_, pL_gC h0 i hi, gL_ok h0 i⟩
theorem pL_lt {p : Nat → Bool} : ∀ {i l : Nat}, pL p i = some l → l < i
  | 0, _, h => by cases h
  | i + 1, l, h => by
    unfold pL at h
    split at h
    · cases h; omega
    · have := pL_lt h; omega
theorem gC_least (h0 : ∀ j, D j j = false) {n : Nat} (hm : ∀ a b c, a ≤ b → b ≤ c → c < n → D c b = true → D c a = true) {p : Nat → Bool} (hp : Shown D p n) :
    ∀ i, i < n → (gC D (i + 1)).length ≤ pN p (i + 1) ∧ ((gC D (i + 1)).length = pN p (i + 1) → ∃ l, pL p (i + 1) = some l ∧ l ≤ gL D (i + 1))
  | 0, h => by
    obtain ⟨l, e, _⟩ := hp 0 h
    unfold pL at e
    have q : p 0 = true := by
      by_cases q : p 0 = true
      · exact q
      · rw [if_neg q] at e; cases e
    have z : D 0 (gL D 0) = false := h0 0
    have z2 : D 0 0 = false := z
    simp [gC, pN, pL, gL, q, z2]
  | i + 1, h => by
    obtain ⟨k1, k2⟩ := gC_least h0 hm hp i (by omega)
    obtain ⟨l, e, hl⟩ := hp (i + 1) h
    have hg := gL_le h0 (i + 1)
    unfold pL at e
    by_cases q : p (i + 1) = true
    · rw [if_pos q] at e
      cases e
      have e1 : pN p (i + 1 + 1) = pN p (i + 1) + 1 := by rw [pN, if_pos q]
      have e2 : pL p (i + 1 + 1) = some (i + 1) := by rw [pL, if_pos q]
      rw [e1, e2]
      by_cases d : D (i + 1) (gL D (i + 1)) = true
      · have e3 : gC D (i + 1 + 1) = gC D (i + 1) ++ [i + 1] := by rw [gC, if_pos d]
        have e4 : gL D (i + 1 + 1) = i + 1 := by rw [gL, if_pos d]
        rw [e3, e4]
        refine ⟨by simp; omega, fun _ => ⟨_, rfl, Nat.le_refl _⟩⟩
      · have e3 : gC D (i + 1 + 1) = gC D (i + 1) := by rw [gC, if_neg d]
        rw [e3]
        exact ⟨by omega, fun z => by omega⟩
    · rw [if_neg q] at e
      have e1 : pN p (i + 1 + 1) = pN p (i + 1) := by rw [pN, if_neg q]
      have e2 : pL p (i + 1 + 1) = pL p (i + 1) := by rw [pL, if_neg q]
      rw [e1, e2]
      by_cases d : D (i + 1) (gL D (i + 1)) = true
      · have e3 : gC D (i + 1 + 1) = gC D (i + 1) ++ [i + 1] := by rw [gC, if_pos d]
        have e4 : gL D (i + 1 + 1) = i + 1 := by rw [gL, if_pos d]
        rw [e3, e4]
        have ne : (gC D (i + 1)).length ≠ pN p (i + 1) := fun z => by
          obtain ⟨l', e', le⟩ := k2 z
          rw [e] at e'
          cases e'
          rw [hm l (gL D (i + 1)) (i + 1) le (by omega) h d] at hl
          cases hl
        refine ⟨by simp; omega, fun _ => ⟨l, e, ?_⟩⟩
        have := pL_lt e
        omega
      · have e3 : gC D (i + 1 + 1) = gC D (i + 1) := by rw [gC, if_neg d]
        have e4 : gL D (i + 1 + 1) = gL D (i + 1) := by rw [gL, if_neg d]
        rw [e3, e4]
        exact ⟨k1, k2⟩
/-- what lies between two chosen next to one another -/
theorem gC_next (h0 : ∀ j, D j j = false) : ∀ (i k : Nat) (a b : Nat), (gC D i)[k]? = some a → (gC D i)[k + 1]? = some b → D b a = true ∧ a < b ∧ D (b - 1) a = false
  | 0, k, a, b, h1, h2 => by simp [gC] at h2
  | i + 1, k, a, b, h1, h2 => by
    unfold gC at h1 h2
    split at h1
    · rename_i h
      rw [if_pos h] at h2
      by_cases q : k + 1 < (gC D i).length
      · rw [List.getElem?_append_left (by omega)] at h1
        rw [List.getElem?_append_left q] at h2
        exact gC_next h0 i k a b h1 h2
      · have hb := (List.getElem?_eq_some_iff.mp h2).1
        simp at hb
        have hk : k + 1 = (gC D i).length := by omega
        rw [hk, List.getElem?_append_right (Nat.le_refl _)] at h2
        simp at h2
        subst h2
        rw [List.getElem?_append_left (by omega)] at h1
        have hl := gC_last (D := D) i
        rw [List.getLast?_eq_getElem?, show (gC D i).length - 1 = k by omega, h1] at hl
        cases hl
        have hi : 0 < i := by
          cases i with
          | zero => rw [show gL D 0 = 0 from rfl, h0] at h; cases h
          | succ i => omega
        refine ⟨h, ?_, ?_⟩
        · have := gL_le h0 i
          omega
        · have := gL_ok h0 (i - 1)
          rw [show i - 1 + 1 = i by omega] at this
          exact this
    · rename_i h
      rw [if_neg h] at h2
      exact gC_next h0 i k a b h1 h2
end
end Hf

namespace Hf
open PySem PySem.Spec PyProof.Rows L2

/-! ### shares -/
def plusS (a b : Int × Int) : Int × Int := share (a.1 * b.2 + b.1 * a.2) (a.2 * b.2)
/-- the law's own test -/
def isOff (a b off : Int × Int) : Bool := decide (off.1 * a.2 * b.2 < (a.1 * b.2 - b.1 * a.2) * off.2)
/-- a share from 0 to the whole with a small lower part -/
structure Sm (s : Int × Int) : Prop where
  part : isPart s = true
  lo : 0 ≤ s.1
  up : s.1 ≤ s.2
  pos : 1 ≤ s.2
  small : s.2 ≤ 1000
structure OffOk (s : Int × Int) : Prop where
  is : isShare s = true
  lo : 0 ≤ s.1
  up : s.1 ≤ 1000
  pos : 1 ≤ s.2
  small : s.2 ≤ 1000
theorem small_top {i : Int} (h : -1000000000000 ≤ i ∧ i ≤ 1000000000000) : Top i := top_of (k := 40) (by omega) (by decide) (by decide)
theorem small_bot {i : Int} (h : 1 ≤ i ∧ i ≤ 1000000000000) : Bot i := bot_of (k := 40) (by omega) (by omega) (by decide) (by decide)
theorem mul_le {a b c d : Int} (h0 : 0 ≤ a) (h1 : a ≤ c) (h2 : 0 ≤ b) (h3 : b ≤ d) : 0 ≤ a * b ∧ a * b ≤ c * d :=
  ⟨Int.mul_nonneg h0 h2, Int.mul_le_mul h1 h3 h2 (by omega)⟩
theorem div_mul_gcd {T B x y : Int} (hB : 0 < B) : (decide (T / (Int.gcd T B : Int) * x < y * (B / (Int.gcd T B : Int)))) = decide (T * x < y * B) := by
  have hg := gcd_pos_r (t := T) hB
  obtain ⟨t, ht⟩ : (Int.gcd T B : Int) ∣ T := Int.gcd_dvd_left ..
  obtain ⟨b, hb⟩ : (Int.gcd T B : Int) ∣ B := Int.gcd_dvd_right ..
  have e1 : T / (Int.gcd T B : Int) = t := Int.ediv_eq_of_eq_mul_right (by omega) ht
  have e2 : B / (Int.gcd T B : Int) = b := Int.ediv_eq_of_eq_mul_right (by omega) hb
  rw [e1, e2]
  apply decide_eq_decide.mpr
  have q1 : T * x = (Int.gcd T B : Int) * (t * x) := by rw [← Int.mul_assoc, ← ht]
  have q2 : y * B = (Int.gcd T B : Int) * (y * b) := by
    rw [Int.mul_left_comm, ← hb]
  rw [q1, q2]
  exact (Int.mul_lt_mul_left hg).symm
theorem more_plus {a b off : Int × Int} (hb : 0 < b.2) (ho : 0 < off.2) : isMore a (plusS b off) = isOff a b off := by
  unfold isMore plusS share isOff
  have hB : 0 < b.2 * off.2 := Int.mul_pos hb ho
  simp only
  rw [div_mul_gcd hB]
  apply decide_eq_decide.mpr
  have e1 : (b.1 * off.2 + off.1 * b.2) * a.2 = b.1 * a.2 * off.2 + off.1 * a.2 * b.2 := by grind
  have e2 : a.1 * (b.2 * off.2) = a.1 * b.2 * off.2 := by grind
  have e3 : (a.1 * b.2 - b.1 * a.2) * off.2 = a.1 * b.2 * off.2 - b.1 * a.2 * off.2 := by grind
  rw [e1, e2, e3]
  omega
theorem off_self {a off : Int × Int} (ha : 0 < a.2) (ho : 0 ≤ off.1) : isOff a a off = false := by
  unfold isOff
  have : 0 ≤ off.1 * a.2 * a.2 := Int.mul_nonneg (Int.mul_nonneg ho (by omega)) (by omega)
  have e : (a.1 * a.2 - a.1 * a.2) * off.2 = 0 := by rw [Int.sub_self, Int.zero_mul]
  rw [e]
  exact decide_eq_false (by omega)
theorem off_down {a b c off : Int × Int} (ha : 0 < a.2) (hb : 0 < b.2) (hc : 0 < c.2) (ho : 0 < off.2) (h : isMore a b = false) (k : isOff c b off = true) : isOff c a off = true := by
  have h1 : a.1 * b.2 ≤ b.1 * a.2 := by
    have := of_decide_eq_false h
    omega
  have k1 := of_decide_eq_true k
  apply decide_eq_true
  have k2 : off.1 * c.2 * b.2 * a.2 < (c.1 * b.2 - b.1 * c.2) * off.2 * a.2 := Int.mul_lt_mul_of_pos_right k1 ha
  have h2 : a.1 * b.2 * (c.2 * off.2) ≤ b.1 * a.2 * (c.2 * off.2) := Int.mul_le_mul_of_nonneg_right h1 (Int.le_of_lt (Int.mul_pos hc ho))
  have e : off.1 * c.2 * a.2 * b.2 < (c.1 * a.2 - a.1 * c.2) * off.2 * b.2 := by
    have e1 : off.1 * c.2 * b.2 * a.2 = off.1 * c.2 * a.2 * b.2 := by grind
    have e2 : (c.1 * b.2 - b.1 * c.2) * off.2 * a.2 = c.1 * b.2 * off.2 * a.2 - b.1 * a.2 * (c.2 * off.2) := by grind
    have e3 : (c.1 * a.2 - a.1 * c.2) * off.2 * b.2 = c.1 * b.2 * off.2 * a.2 - a.1 * b.2 * (c.2 * off.2) := by grind
    rw [e1, e2] at k2
    rw [e3]
    omega
  exact Int.lt_of_mul_lt_mul_right e (by omega)
theorem less_trans {a b c : Int × Int} (ha : 0 < a.2) (hb : 0 < b.2) (hc : 0 < c.2) (h : isMore a b = false) (k : isMore b c = false) : isMore a c = false := by
  have h1 : a.1 * b.2 ≤ b.1 * a.2 := by have := of_decide_eq_false h; omega
  have k1 : b.1 * c.2 ≤ c.1 * b.2 := by have := of_decide_eq_false k; omega
  apply decide_eq_false
  have h2 : a.1 * b.2 * c.2 ≤ b.1 * a.2 * c.2 := Int.mul_le_mul_of_nonneg_right h1 (by omega)
  have k2 : b.1 * c.2 * a.2 ≤ c.1 * b.2 * a.2 := Int.mul_le_mul_of_nonneg_right k1 (by omega)
  have e : a.1 * c.2 * b.2 ≤ c.1 * a.2 * b.2 := by
    have e1 : a.1 * b.2 * c.2 = a.1 * c.2 * b.2 := by grind
    have e2 : b.1 * a.2 * c.2 = b.1 * c.2 * a.2 := by grind
    have e3 : c.1 * b.2 * a.2 = c.1 * a.2 * b.2 := by grind
    omega
  have := Int.le_of_mul_le_mul_right e hb
  omega

/-! ### the program's choice -/
abbrev atS (shares : List (Int × Int)) (i : Int) : Int × Int := shares.getD i.toNat (0, 0)
def fewStep (shares : List (Int × Int)) (off : Int × Int) (found : List Int) (p : Int × (Int × Int)) : List Int :=
  if isMore p.2 (plusS (atS shares (found.getLastD 0)) off) = true then found ++ [p.1] else found
def fewL (shares : List (Int × Int)) (off : Int × Int) : List Int := (enumL shares).foldl (fewStep shares off) [0]
structure Rising (shares : List (Int × Int)) : Prop where
  ne : shares ≠ []
  sm : ∀ s ∈ shares, Sm s
  up : ∀ i : Nat, i + 1 < shares.length → isMore (shares.getD i (0, 0)) (shares.getD (i + 1) (0, 0)) = false
theorem getD_mem {α : Type} {l : List α} {i : Nat} {d : α} (h : i < l.length) : l.getD i d ∈ l := by
  rw [List.getD_eq_getElem?_getD, List.getElem?_eq_getElem h]
  exact List.getElem_mem h
def offT (shares : List (Int × Int)) (off : Int × Int) (j l : Nat) : Bool := decide (j < shares.length) && decide (l < shares.length) && isOff (shares.getD j (0, 0)) (shares.getD l (0, 0)) off
section
variable {shares : List (Int × Int)} {off : Int × Int}
theorem Rising.at (R : Rising shares) {i : Nat} (h : i < shares.length) : Sm (shares.getD i (0, 0)) := R.sm _ (getD_mem h)
theorem Rising.le (R : Rising shares) {i : Nat} : ∀ {j : Nat}, i ≤ j → j < shares.length → isMore (shares.getD i (0, 0)) (shares.getD j (0, 0)) = false
  | 0, h, hj => by
    have : i = 0 := by omega
    subst this
    exact decide_eq_false (by omega)
  | j + 1, h, hj => by
    by_cases e : i = j + 1
    · subst e; exact decide_eq_false (by omega)
    · have h1 := R.le (i := i) (j := j) (by omega) (by omega)
      exact less_trans (by have := (R.at (i := i) (by omega)).pos; omega) (by have := (R.at (i := j) (by omega)).pos; omega) (by have := (R.at hj).pos; omega) h1 (R.up j hj)
theorem offT_self (R : Rising shares) (ho : OffOk off) (j : Nat) : offT shares off j j = false := by
  unfold offT
  by_cases h : j < shares.length
  · rw [off_self (by have := (R.at h).pos; omega) ho.lo]; simp
  · simp [h]
theorem offT_down (R : Rising shares) (ho : OffOk off) {n : Nat} (hn : n ≤ shares.length) : ∀ a b c, a ≤ b → b ≤ c → c < n → offT shares off c b = true → offT shares off c a = true := fun a b c h1 h2 h3 k => by
  unfold offT at k ⊢
  simp only [Bool.and_eq_true, decide_eq_true_eq] at k ⊢
  have hp : ∀ i : Nat, i < shares.length → 0 < (shares.getD i (0, 0)).2 := fun i hi => by have := (R.at hi).pos; omega
  exact ⟨⟨by omega, by omega⟩, off_down (hp a (by omega)) (hp b (by omega)) (hp c (by omega)) (by have := ho.pos; omega) (R.le h1 (by omega)) k.2⟩
theorem few_take (R : Rising shares) (ho : OffOk off) : ∀ i, i ≤ shares.length → ((enumL shares).take i).foldl (fewStep shares off) [0] = (gC (offT shares off) i).map Int.ofNat
  | 0, _ => rfl
  | i + 1, h => by
    have hlt : i < (enumL shares).length := by rw [enumL_length]; omega
    rw [List.take_succ_eq_append_getElem hlt, List.foldl_append, few_take R ho i (by omega)]
    have e : (enumL shares)[i] = ((i : Int), shares.getD i (0, 0)) := by
      have z := enumL_get (as := shares) (i := i)
      rw [List.getElem?_eq_getElem hlt, List.getElem?_eq_getElem (by omega : i < shares.length)] at z
      rw [Option.some.inj z, List.getD_eq_getElem?_getD, List.getElem?_eq_getElem (by omega : i < shares.length)]
      rfl
    rw [e]
    have hl : ((gC (offT shares off) i).map Int.ofNat).getLastD 0 = (gL (offT shares off) i : Int) := by
      rw [List.getLastD_eq_getLast?, List.getLast?_map, gC_last]
      rfl
    show fewStep shares off _ _ = _
    unfold fewStep
    rw [hl, gC_s]
    have hle := gL_le (offT_self R ho) i
    have q : isMore (shares.getD i (0, 0)) (plusS (atS shares (gL (offT shares off) i : Int)) off) = offT shares off i (gL (offT shares off) i) := by
      have h1 : gL (offT shares off) i < shares.length := by omega
      show isMore _ (plusS (shares.getD (gL (offT shares off) i) (0, 0)) off) = _
      rw [more_plus (by have := (R.at h1).pos; omega) (by have := ho.pos; omega)]
      have h2 : i < shares.length := by omega
      generalize gL (offT shares off) i = l at h1 ⊢
      unfold offT
      rw [decide_eq_true h1, decide_eq_true h2]
      rfl
    rw [show ((i : Int), shares.getD i (0, 0)).2 = shares.getD i (0, 0) from rfl, q]
    split
    · simp
    · rfl
theorem few_gC (R : Rising shares) (ho : OffOk off) : fewL shares off = (gC (offT shares off) shares.length).map Int.ofNat := by
  have z := few_take R ho shares.length (Nat.le_refl _)
  rw [← enumL_length (as := shares), List.take_length] at z
  unfold fewL
  rw [z, enumL_length]
theorem few_state (R : Rising shares) (ho : OffOk off) {i : Nat} (h : i ≤ shares.length) {found : List Int} (e : found = ((enumL shares).take i).foldl (fewStep shares off) [0]) :
    found ≠ [] ∧ (0 ≤ found.getLastD 0 ∧ found.getLastD 0 < (shares.length : Int)) ∧ found.length ≤ i + 1 := by
  rw [e, few_take R ho i h]
  have hle := gL_le (offT_self R ho) i
  have hpos : 0 < shares.length := List.length_pos_iff.mpr R.ne
  refine ⟨?_, ?_, by rw [List.length_map]; exact gC_len i⟩
  · obtain ⟨t, e⟩ := gC_head (D := offT shares off) i
    rw [e]; simp
  · rw [List.getLastD_eq_getLast?, List.getLast?_map, gC_last]
    show (0 : Int) ≤ (gL (offT shares off) i : Int) ∧ (gL (offT shares off) i : Int) < _
    omega
theorem few_bounds (R : Rising shares) (ho : OffOk off) : ∀ x ∈ fewL shares off, 0 ≤ x ∧ x < (shares.length : Int) := fun x hx => by
  rw [few_gC R ho] at hx
  obtain ⟨k, hk, rfl⟩ := List.mem_map.mp hx
  have := gC_lt (offT_self R ho) _ k hk
  have hpos : 0 < shares.length := List.length_pos_iff.mpr R.ne
  show (0 : Int) ≤ (k : Int) ∧ (k : Int) < _
  omega
theorem few_len (R : Rising shares) (ho : OffOk off) : (fewL shares off).length ≤ shares.length := by
  have hpos : 0 < shares.length := List.length_pos_iff.mpr R.ne
  rw [few_gC R ho, List.length_map]
  have h := gC_least (n := shares.length) (offT_self R ho) (offT_down R ho (Nat.le_refl _)) (p := fun _ => true) (fun i hi => ⟨i, by simp [pL], offT_self R ho i⟩) (shares.length - 1) (by omega)
  rw [show shares.length - 1 + 1 = shares.length by omega] at h
  have z : ∀ n, pN (fun _ => true) n = n := fun n => by
    induction n with
    | zero => rfl
    | succ n ih => rw [pN, if_pos rfl, ih]
  have := h.1
  rw [z] at this
  exact this
theorem few_first (R : Rising shares) (ho : OffOk off) : cutL (fewL shares off) none (some 1) = [0] := by
  rw [few_gC R ho, cutL_to (by decide)]
  obtain ⟨t, e⟩ := gC_head (D := offT shares off) shares.length
  rw [e]
  rfl
theorem few_sorted (R : Rising shares) (ho : OffOk off) : sortU (fewL shares off) = fewL shares off := by
  apply sortU_eq
  rw [few_gC R ho]
  refine List.pairwise_map.mpr ((gC_inc (offT_self R ho) _).imp fun {a b} h => ?_)
  show (a : Int) < (b : Int)
  omega
end
end Hf

namespace Hf
open PySem PySem.Spec PyProof.Rows L2

/-! ### what the law asks -/
def shStep (shares : List (Int × Int)) (chosen : List Int) (off : Int × Int) (last : Option Int) (i : Int) : Option (Option Int) :=
  match (if decide (i ∈ chosen) = true then some i else last) with
  | none => none
  | some l => if isOff (atS shares i) (atS shares l) off = true then none else some (some l)
def shGo (shares : List (Int × Int)) (chosen : List Int) (off : Int × Int) : Nat → Option (Option Int)
  | 0 => some none
  | i + 1 => (shGo shares chosen off i).bind fun last => shStep shares chosen off last i
def showsL (shares : List (Int × Int)) (chosen : List Int) (off : Int × Int) : Bool := (shGo shares chosen off shares.length).isSome
section
variable {shares : List (Int × Int)} {chosen : List Int} {off : Int × Int}
theorem shGo_none {i : Nat} (h : shGo shares chosen off i = none) : ∀ {n : Nat}, i ≤ n → shGo shares chosen off n = none
  | 0, hn => (show i = 0 by omega) ▸ h
  | n + 1, hn => by
    by_cases e : i = n + 1
    · subst e; exact h
    · rw [shGo, shGo_none h (by omega : i ≤ n)]; rfl
theorem shows_no {i : Nat} (hi : i < shares.length) (h : shGo shares chosen off (i + 1) = none) : showsL shares chosen off = false := by
  unfold showsL
  rw [shGo_none h (by omega)]; rfl
def pOf (chosen : List Int) (i : Nat) : Bool := decide ((i : Int) ∈ chosen)
theorem sh_iff : ∀ n, n ≤ shares.length → (∀ last, shGo shares chosen off n = some last → Shown (offT shares off) (pOf chosen) n ∧ last = (pL (pOf chosen) n).map Int.ofNat) ∧
    (Shown (offT shares off) (pOf chosen) n → shGo shares chosen off n = some ((pL (pOf chosen) n).map Int.ofNat))
  | 0, _ => ⟨fun last h => by cases h; exact ⟨fun i hi => by omega, rfl⟩, fun _ => rfl⟩
  | n + 1, h => by
    obtain ⟨k1, k2⟩ := sh_iff n (by omega)
    have st : ∀ last, last = (pL (pOf chosen) n).map Int.ofNat → (if decide ((n : Int) ∈ chosen) = true then some (n : Int) else last) = (pL (pOf chosen) (n + 1)).map Int.ofNat := fun last e => by
      rw [pL, e]
      unfold pOf
      split <;> rfl
    have hD : ∀ l, l < n + 1 → isOff (atS shares (n : Int)) (atS shares (Int.ofNat l)) off = offT shares off n l := fun l hl => by
      unfold offT
      rw [decide_eq_true (by omega : n < shares.length), decide_eq_true (by omega : l < shares.length)]
      rfl
    refine ⟨fun last hs => ?_, fun hs => ?_⟩
    · rw [shGo] at hs
      cases hg : shGo shares chosen off n with
      | none => rw [hg] at hs; cases hs
      | some l0 =>
        rw [hg] at hs
        obtain ⟨a1, a2⟩ := k1 l0 hg
        change shStep shares chosen off l0 n = some last at hs
        unfold shStep at hs
        rw [st l0 a2] at hs
        cases hp : pL (pOf chosen) (n + 1) with
        | none => rw [hp] at hs; cases hs
        | some l =>
          rw [hp] at hs
          change (if isOff (atS shares n) (atS shares (Int.ofNat l)) off = true then none else some (some (Int.ofNat l))) = some last at hs
          rw [hD l (pL_lt hp)] at hs
          split at hs
          · cases hs
          · rename_i hd
            cases hs
            refine ⟨fun i hi => ?_, rfl⟩
            by_cases e : i = n
            · subst e; exact ⟨l, hp, by simpa using hd⟩
            · exact a1 i (by omega)
    · have h0 : Shown (offT shares off) (pOf chosen) n := fun i hi => hs i (by omega)
      obtain ⟨l, hl, hd⟩ := hs n (by omega)
      rw [shGo, k2 h0]
      show shStep shares chosen off _ n = _
      unfold shStep
      rw [st _ rfl, hl]
      show (if isOff (atS shares n) (atS shares (Int.ofNat l)) off = true then none else some (some (Int.ofNat l))) = _
      rw [hD l (pL_lt hl), hd]
      rfl
theorem shows_iff : showsL shares chosen off = true ↔ Shown (offT shares off) (pOf chosen) shares.length := by
  obtain ⟨k1, k2⟩ := sh_iff (shares := shares) (chosen := chosen) (off := off) shares.length (Nat.le_refl _)
  unfold showsL
  constructor
  · intro h
    cases hg : shGo shares chosen off shares.length with
    | none => rw [hg] at h; cases h
    | some l => exact (k1 l hg).1
  · intro h
    rw [k2 h]; rfl
theorem pOf_map {l : List Nat} : pOf (l.map Int.ofNat) = fun j => decide (j ∈ l) := by
  funext j
  unfold pOf
  apply decide_eq_decide.mpr
  rw [List.mem_map]
  exact ⟨fun ⟨a, h, e⟩ => by have e : a = j := Int.ofNat.inj e
                             exact e ▸ h, fun h => ⟨j, h, rfl⟩⟩
theorem few_shows (R : Rising shares) (ho : OffOk off) : showsL shares (fewL shares off) off = true := by
  rw [shows_iff, few_gC R ho, pOf_map]
  exact gC_shown (offT_self R ho)
theorem few_pair (R : Rising shares) (ho : OffOk off) {k : Int} (h : k ∈ rangeL 0 ((fewL shares off).length - 1 : Int).toNat) :
    (0 ≤ k ∧ k + 1 < ((fewL shares off).length : Int)) ∧ (0 ≤ (fewL shares off).getD k.toNat 0 ∧ (fewL shares off).getD k.toNat 0 < (fewL shares off).getD (k + 1).toNat 0 ∧ (fewL shares off).getD (k + 1).toNat 0 < (shares.length : Int)) ∧
    isOff (atS shares ((fewL shares off).getD (k + 1).toNat 0)) (atS shares ((fewL shares off).getD k.toNat 0)) off = true ∧
    isOff (atS shares ((fewL shares off).getD (k + 1).toNat 0 - 1)) (atS shares ((fewL shares off).getD k.toNat 0)) off = false := by
  obtain ⟨m, hm, rfl⟩ := List.mem_map.mp h
  have hm := List.mem_range.mp hm
  have e0 : ((0 : Int) + (m : Int)).toNat = m := by omega
  have e1 : ((0 : Int) + (m : Int) + 1).toNat = m + 1 := by omega
  rw [e0, e1]
  have hb := few_bounds R ho
  rw [few_gC R ho] at hm hb ⊢
  rw [List.length_map] at hm ⊢
  have h1 : m < (gC (offT shares off) shares.length).length := by omega
  have h2 : m + 1 < (gC (offT shares off) shares.length).length := by omega
  have z := gC_next (offT_self R ho) shares.length m _ _ (List.getElem?_eq_getElem h1) (List.getElem?_eq_getElem h2)
  have g1 : ((gC (offT shares off) shares.length).map Int.ofNat).getD m 0 = Int.ofNat (gC (offT shares off) shares.length)[m] := by
    rw [List.getD_eq_getElem?_getD, List.getElem?_map, List.getElem?_eq_getElem h1]; rfl
  have g2 : ((gC (offT shares off) shares.length).map Int.ofNat).getD (m + 1) 0 = Int.ofNat (gC (offT shares off) shares.length)[m + 1] := by
    rw [List.getD_eq_getElem?_getD, List.getElem?_map, List.getElem?_eq_getElem h2]; rfl
  rw [g1, g2]
  have hle := gC_lt (offT_self R ho) _ _ (List.getElem_mem h2)
  generalize (gC (offT shares off) shares.length)[m] = a at z hle ⊢
  generalize (gC (offT shares off) shares.length)[m + 1] = b at z hle ⊢
  have hpos : 0 < shares.length := List.length_pos_iff.mpr R.ne
  obtain ⟨z1, z2, z3⟩ := z
  have q3 : offT shares off (b - 1) a = isOff (shares.getD (b - 1) (0, 0)) (shares.getD a (0, 0)) off := by
    unfold offT
    rw [decide_eq_true (by omega : b - 1 < shares.length), decide_eq_true (by omega : a < shares.length)]; rfl
  have q1 : offT shares off b a = isOff (shares.getD b (0, 0)) (shares.getD a (0, 0)) off := by
    unfold offT
    rw [decide_eq_true (by omega : b < shares.length), decide_eq_true (by omega : a < shares.length)]; rfl
  refine ⟨by omega, ⟨Int.natCast_nonneg _, Int.ofNat_lt.mpr z2, Int.ofNat_lt.mpr (by omega)⟩, by rw [← z1, q1]; rfl, ?_⟩
  rw [← z3, q3]
  have e : (Int.ofNat b - 1).toNat = b - 1 := by show ((b : Int) - 1).toNat = b - 1; omega
  show isOff (shares.getD (Int.ofNat b - 1).toNat (0, 0)) _ off = _
  rw [e]; rfl
end

/-! ### the fewest by all choices -/
def chosenL (n : Nat) (lot : Int) : List Int := ((rangeL 0 ((n : Int)).toNat).filter fun q => decide (lot / 2 ^ (q).toNat % 2 = (1 : Int))).map fun q => q
def bestStep (shares : List (Int × Int)) (off : Int × Int) (best lot : Int) : Int :=
  if (decide (((chosenL shares.length lot).length : Int) < best) && showsL shares (chosenL shares.length lot) off) = true then ((chosenL shares.length lot).length : Int) else best
def fewestL (shares : List (Int × Int)) (off : Int × Int) : Int := (rangeL 0 ((1 : Int) * 2 ^ ((shares.length : Int)).toNat).toNat).foldl (bestStep shares off) (shares.length : Int)
theorem foldl_best {f : Int → Int} {v : Int → Bool} {m : Int} : ∀ (l : List Int) (b : Int), m ≤ b → (∀ x ∈ l, v x = true → m ≤ f x) → (b = m ∨ ∃ x ∈ l, v x = true ∧ f x = m) →
    l.foldl (fun b x => if (decide (f x < b) && v x) = true then f x else b) b = m
  | [], b, h1, h2, h3 => by
    rcases h3 with h | ⟨x, hx, _⟩
    · exact h
    · simp at hx
  | x :: l, b, h1, h2, h3 => by
    rw [List.foldl_cons]
    apply foldl_best l
    · split
      · rename_i h
        exact h2 x List.mem_cons_self (by simp only [Bool.and_eq_true] at h; exact h.2)
      · exact h1
    · exact fun y hy => h2 y (List.mem_cons_of_mem _ hy)
    · rcases h3 with h | ⟨y, hy, vy, fy⟩
      · left
        split
        · rename_i h'
          simp only [Bool.and_eq_true, decide_eq_true_eq] at h'
          have := h2 x List.mem_cons_self h'.2
          omega
        · exact h
      · rcases List.mem_cons.mp hy with e | e
        · subst e
          left
          split
          · exact fy
          · rename_i h'
            simp only [Bool.and_eq_true, decide_eq_true_eq, vy, and_true] at h'
            omega
        · exact .inr ⟨y, e, vy, fy⟩
def lotOf (p : Nat → Bool) : Nat → Nat
  | 0 => 0
  | n + 1 => lotOf p n + if p n = true then 2 ^ n else 0
theorem lotOf_lt (p : Nat → Bool) : ∀ n, lotOf p n < 2 ^ n
  | 0 => by simp [lotOf]
  | n + 1 => by
    have := lotOf_lt p n
    unfold lotOf
    rw [Nat.pow_succ]
    split <;> omega
theorem lotOf_bit (p : Nat → Bool) : ∀ n i, i < n → lotOf p n / 2 ^ i % 2 = if p i = true then 1 else 0
  | 0, i, h => by omega
  | n + 1, i, h => by
    unfold lotOf
    by_cases e : i = n
    · subst e
      have := lotOf_lt p i
      split
      · rw [Nat.add_div_right _ (Nat.two_pow_pos i), Nat.div_eq_of_lt this]
      · rw [Nat.add_zero, Nat.div_eq_of_lt this]
    · rw [← lotOf_bit p n i (by omega)]
      split
      · obtain ⟨d, rfl⟩ : ∃ d, n = i + (d + 1) := ⟨n - i - 1, by omega⟩
        rw [Nat.pow_add, Nat.add_mul_div_left _ _ (Nat.two_pow_pos i), Nat.pow_succ]
        omega
      · rfl
theorem pN_congr {p q : Nat → Bool} : ∀ n, (∀ i < n, p i = q i) → pN p n = pN q n
  | 0, _ => rfl
  | n + 1, h => by rw [pN, pN, h n (by omega), pN_congr n fun i hi => h i (by omega)]
theorem pL_congr {p q : Nat → Bool} : ∀ n, (∀ i < n, p i = q i) → pL p n = pL q n
  | 0, _ => rfl
  | n + 1, h => by rw [pL, pL, h n (by omega), pL_congr n fun i hi => h i (by omega)]
theorem shown_congr {D : Nat → Nat → Bool} {p q : Nat → Bool} {n : Nat} (h : ∀ i < n, p i = q i) (k : Shown D p n) : Shown D q n := fun i hi => by
  obtain ⟨l, h1, h2⟩ := k i hi
  exact ⟨l, by rw [← pL_congr (i + 1) fun j hj => h j (by omega)]; exact h1, h2⟩
theorem range_pN (p : Nat → Bool) : ∀ n, ((List.range n).filter p).length = pN p n
  | 0 => rfl
  | n + 1 => by
    rw [List.range_succ, List.filter_append, List.length_append, range_pN p n, pN]
    by_cases h : p n = true <;> simp [h]
def bitP (lot : Int) (i : Nat) : Bool := decide (lot / 2 ^ i % 2 = (1 : Int))
theorem chosen_eq {n : Nat} {lot : Int} : chosenL n lot = ((List.range n).filter (bitP lot)).map Int.ofNat := by
  unfold chosenL rangeL
  rw [List.map_id', Int.toNat_natCast, List.filter_map]
  have e : ((fun q : Int => decide (lot / 2 ^ q.toNat % 2 = (1 : Int))) ∘ fun i : Nat => (0 : Int) + (i : Int)) = bitP lot := by
    funext i
    show decide (lot / 2 ^ ((0 : Int) + (i : Int)).toNat % 2 = (1 : Int)) = _
    rw [show ((0 : Int) + (i : Int)).toNat = i by omega]
    rfl
  rw [e]
  apply List.map_congr_left
  intro a _
  show (0 : Int) + (a : Int) = (a : Int)
  omega
theorem chosen_len {n : Nat} {lot : Int} : (chosenL n lot).length = pN (bitP lot) n := by rw [chosen_eq, List.length_map, range_pN]
theorem chosen_p {n : Nat} {lot : Int} : ∀ i < n, pOf (chosenL n lot) i = bitP lot i := fun i hi => by
  rw [chosen_eq, pOf_map]
  simp [hi]
theorem gC_pN {D : Nat → Nat → Bool} (h0 : ∀ j, D j j = false) {n : Nat} : ∀ i, i < n → pN (fun j => decide (j ∈ gC D n)) (i + 1) = (gC D (i + 1)).length
  | 0, h => by
    have z : (0 : Nat) ∈ gC D n := (gC_mem h0 h).mpr (.inl rfl)
    have z2 : D 0 0 = false := h0 0
    simp [pN, gC, gL, z, z2]
  | i + 1, h => by
    have m := gC_mem h0 h
    rw [pN, gC_pN h0 i (by omega), gC_s (i + 1)]
    by_cases q : D (i + 1) (gL D (i + 1)) = true
    · rw [if_pos q, if_pos (decide_eq_true (m.mpr (.inr q)))]; simp
    · rw [if_neg q, if_neg]
      simp only [decide_eq_true_eq]
      exact fun z => (m.mp z).elim (fun z => by omega) (fun z => q z)
theorem fewest_few {shares : List (Int × Int)} {off : Int × Int} (R : Rising shares) (ho : OffOk off) : fewestL shares off = ((fewL shares off).length : Int) := by
  have hpos : 0 < shares.length := List.length_pos_iff.mpr R.ne
  have hlen : (fewL shares off).length = (gC (offT shares off) shares.length).length := by rw [few_gC R ho, List.length_map]
  have hsz : ((1 : Int) * 2 ^ ((shares.length : Int)).toNat).toNat = 2 ^ shares.length := by
    rw [Int.one_mul, Int.toNat_natCast, show ((2 : Int) ^ shares.length) = ((2 ^ shares.length : Nat) : Int) by push_cast; rfl, Int.toNat_natCast]
  unfold fewestL
  refine foldl_best (f := fun lot => ((chosenL shares.length lot).length : Int)) (v := fun lot => showsL shares (chosenL shares.length lot) off) _ _ ?_ (fun x _ hx => ?_) (.inr ?_)
  · have := few_len R ho
    omega
  · have hs := shown_congr chosen_p (shows_iff.mp hx)
    have h := (gC_least (offT_self R ho) (offT_down R ho (Nat.le_refl _)) hs (shares.length - 1) (by omega)).1
    rw [show shares.length - 1 + 1 = shares.length by omega] at h
    show ((fewL shares off).length : Int) ≤ ((chosenL shares.length x).length : Int)
    rw [chosen_len, hlen]
    omega
  · have hb : ∀ i < shares.length, bitP ((lotOf (fun j => decide (j ∈ gC (offT shares off) shares.length)) shares.length : Nat) : Int) i = decide (i ∈ gC (offT shares off) shares.length) := fun i hi => by
      have z := lotOf_bit (fun j => decide (j ∈ gC (offT shares off) shares.length)) shares.length i hi
      unfold bitP
      have e : ((lotOf (fun j => decide (j ∈ gC (offT shares off) shares.length)) shares.length : Nat) : Int) / 2 ^ i % 2 = (((lotOf (fun j => decide (j ∈ gC (offT shares off) shares.length)) shares.length) / 2 ^ i % 2 : Nat) : Int) := by push_cast; rfl
      rw [e, z]
      by_cases q : i ∈ gC (offT shares off) shares.length <;> simp [q]
    refine ⟨(lotOf (fun j => decide (j ∈ gC (offT shares off) shares.length)) shares.length : Nat), ?_, ?_, ?_⟩
    · unfold rangeL
      refine List.mem_map.mpr ⟨lotOf (fun j => decide (j ∈ gC (offT shares off) shares.length)) shares.length, List.mem_range.mpr ?_, by omega⟩
      rw [hsz]
      exact lotOf_lt _ _
    · refine shows_iff.mpr (shown_congr (fun i hi => ?_) (gC_shown (offT_self R ho)))
      rw [chosen_p i hi, hb i hi]
    · show ((chosenL shares.length _).length : Int) = _
      rw [chosen_len, hlen, pN_congr _ hb]
      have z := gC_pN (offT_self R ho) (shares.length - 1) (show shares.length - 1 < shares.length by omega)
      rw [show shares.length - 1 + 1 = shares.length by omega] at z
      rw [z]
end Hf

namespace Hf
open PySem PySem.Spec PyProof.Rows L2

/-! ### what the law makes of a script -/
def restOf (cell : Int) : Int := if decide (cell < 1000000000000000000) = true then (cell % 2147483647 * 48271 + 12345) ^ (5 : Int).toNat / 1013 else cell
def numStep (s : Int × List Int) (b : Int) : Int × List Int := (s.1 / b, s.2 ++ [s.1 % b])
def numbersL (cell : Int) (bounds : List Int) : List Int := (bounds.foldl numStep (restOf cell, [])).2
theorem num_fold : ∀ (bs : List Int) (s : Int × List Int), (bs.foldl numStep s).2.length = s.2.length + bs.length
  | [], s => rfl
  | b :: bs, s => by
    rw [List.foldl_cons, num_fold bs]
    show (s.2 ++ [s.1 % b]).length + bs.length = s.2.length + (bs.length + 1)
    simp
    omega
theorem cd_gcd {t b : Int} (hb : 1 ≤ b) : maxL (((rangeL 1 (b + 1 - 1).toNat).filter fun q => decide (t % q = (0 : Int)) && decide (b % q = (0 : Int))).map fun q => q) = (Int.gcd t b : Int) := by
  rw [List.map_id']
  have hg := gcd_pos_r (t := t) (b := b) (by omega)
  have hl := gcd_le_r (t := t) (b := b) (by omega)
  apply maxL_eq
  · refine List.mem_filter.mpr ⟨List.mem_map.mpr ⟨(Int.gcd t b) - 1, List.mem_range.mpr (by omega), by omega⟩, ?_⟩
    simp only [Bool.and_eq_true, decide_eq_true_eq]
    exact ⟨Int.emod_eq_zero_of_dvd (Int.gcd_dvd_left ..), Int.emod_eq_zero_of_dvd (Int.gcd_dvd_right ..)⟩
  · intro y hy
    obtain ⟨_, h2⟩ := List.mem_filter.mp hy
    simp only [Bool.and_eq_true, decide_eq_true_eq] at h2
    exact Int.le_of_dvd hg (Int.dvd_coe_gcd (Int.dvd_of_emod_eq_zero h2.1) (Int.dvd_of_emod_eq_zero h2.2))
theorem cd_ne {t b : Int} (hb : 1 ≤ b) : (((rangeL 1 (b + 1 - 1).toNat).filter fun q => decide (t % q = (0 : Int)) && decide (b % q = (0 : Int))).map fun q => q) ≠ [] := fun z => by
  have h := cd_gcd (t := t) hb
  rw [z] at h
  have hg := gcd_pos_r (t := t) (b := b) (by omega)
  rw [← h] at hg
  exact absurd hg (by decide)
theorem share_facts {t b : Int} (hb : 1 ≤ b) (ht : 0 ≤ t) : isShare (share t b) = true ∧ 0 ≤ (share t b).1 ∧ (share t b).1 ≤ t ∧ 1 ≤ (share t b).2 ∧ (share t b).2 ≤ b ∧ (share t b).1 * b = t * (share t b).2 := by
  have hg := gcd_pos_r (t := t) (b := b) (by omega)
  obtain ⟨x, hx⟩ : (Int.gcd t b : Int) ∣ t := Int.gcd_dvd_left ..
  obtain ⟨y, hy⟩ : (Int.gcd t b : Int) ∣ b := Int.gcd_dvd_right ..
  have e1 : t / (Int.gcd t b : Int) = x := Int.ediv_eq_of_eq_mul_right (by omega) hx
  have e2 : b / (Int.gcd t b : Int) = y := Int.ediv_eq_of_eq_mul_right (by omega) hy
  have h1 : 1 ≤ b / (Int.gcd t b : Int) := Int.le_ediv_of_mul_le hg (by have := gcd_le_r (t := t) (b := b) (by omega); omega)
  have h2 : b / (Int.gcd t b : Int) ≤ b := Int.ediv_le_self _ (by omega)
  have h0 : 0 ≤ t / (Int.gcd t b : Int) := Int.ediv_nonneg ht (by omega)
  have h3 : t / (Int.gcd t b : Int) ≤ t := Int.ediv_le_self _ ht
  have co : Int.gcd (t / (Int.gcd t b : Int)) (b / (Int.gcd t b : Int)) = 1 := Int.gcd_ediv_gcd_ediv_gcd (by omega)
  refine ⟨?_, h0, h3, h1, h2, ?_⟩
  · have z : share (t / (Int.gcd t b : Int)) (b / (Int.gcd t b : Int)) = (t / (Int.gcd t b : Int), b / (Int.gcd t b : Int)) := by
      unfold share
      rw [co]
      simp
    show (decide (0 ≤ t / (Int.gcd t b : Int)) && decide (1 ≤ b / (Int.gcd t b : Int)) && decide (share (t / (Int.gcd t b : Int)) (b / (Int.gcd t b : Int)) = _)) = true
    rw [z, decide_eq_true h0, decide_eq_true h1]
    exact decide_eq_true rfl
  · show t / (Int.gcd t b : Int) * b = t * (b / (Int.gcd t b : Int))
    rw [e1, e2]
    generalize (Int.gcd t b : Int) = g at hx hy
    rw [hx, hy]
    grind
theorem share_sm {t b : Int} (hb : 1 ≤ b) (hs : b ≤ 1000) (ht : 0 ≤ t) (hl : t ≤ b) : Sm (share t b) := by
  obtain ⟨h1, h2, h3, h4, h5, h6⟩ := share_facts hb ht
  have up : (share t b).1 ≤ (share t b).2 := by
    have z : (share t b).1 * b ≤ (share t b).2 * b := by
      rw [h6, Int.mul_comm (share t b).2 b]
      exact Int.mul_le_mul_of_nonneg_right hl (by omega)
    exact Int.le_of_mul_le_mul_right z (by omega)
  refine ⟨?_, h2, up, h4, by omega⟩
  unfold isPart isMore
  rw [h1]
  simp
  omega
theorem share_off {t b : Int} (hb : 1 ≤ b) (hs : b ≤ 1000) (ht : 0 ≤ t) (hl : t ≤ 1000) : OffOk (share t b) := by
  obtain ⟨h1, h2, h3, h4, h5, _⟩ := share_facts hb ht
  exact ⟨h1, h2, by omega, h4, by omega⟩
theorem share_up {t u b : Int} (hb : 1 ≤ b) (ht : 0 ≤ t) (h : t ≤ u) : isMore (share t b) (share u b) = false := by
  obtain ⟨_, _, _, x4, _, x6⟩ := share_facts hb ht
  obtain ⟨_, _, _, y4, _, y6⟩ := share_facts (t := u) hb (by omega)
  apply decide_eq_false
  generalize share t b = x at *
  generalize share u b = y at *
  have z : x.1 * y.2 * b ≤ y.1 * x.2 * b := by
    have e1 : x.1 * y.2 * b = t * (x.2 * y.2) := by rw [Int.mul_right_comm, x6]; grind
    have e2 : y.1 * x.2 * b = u * (x.2 * y.2) := by rw [Int.mul_right_comm, y6]; grind
    rw [e1, e2]
    exact Int.mul_le_mul_of_nonneg_right h (Int.mul_nonneg (by omega) (by omega))
  have := Int.le_of_mul_le_mul_right z (by omega)
  omega
theorem rising_map {b : Int} (hb : 1 ≤ b) (hs : b ≤ 1000) {ts : List Int} (hn : ts ≠ []) (h : ts.Pairwise (· ≤ ·)) (hr : ∀ t ∈ ts, 0 ≤ t ∧ t ≤ b) : Rising (ts.map fun t => share t b) where
  ne := by simp [hn]
  sm := fun s hs' => by
    obtain ⟨t, ht, rfl⟩ := List.mem_map.mp hs'
    exact share_sm hb hs (hr t ht).1 (hr t ht).2
  up := fun i hi => by
    rw [List.length_map] at hi
    have g : ∀ k (hk : k < ts.length), (ts.map fun t => share t b).getD k (0, 0) = share ts[k] b := fun k hk => by
      rw [List.getD_eq_getElem?_getD, List.getElem?_map, List.getElem?_eq_getElem hk]; rfl
    rw [g i (by omega), g (i + 1) hi]
    exact share_up hb (hr _ (List.getElem_mem _)).1 (List.pairwise_iff_getElem.mp h i (i + 1) (by omega) hi (by omega))
theorem Rising.take {l : List (Int × Int)} (R : Rising l) {n : Nat} (hn : 0 < n) : Rising (l.take n) where
  ne := fun z => by
    have h := congrArg List.length z
    have := List.length_pos_iff.mpr R.ne
    rw [List.length_take, List.length_nil] at h
    omega
  sm := fun s hs => R.sm s (List.mem_of_mem_take hs)
  up := fun i hi => by
    rw [List.length_take] at hi
    have g : ∀ k, k < n → (l.take n).getD k (0, 0) = l.getD k (0, 0) := fun k hk => by
      rw [List.getD_eq_getElem?_getD, List.getD_eq_getElem?_getD, List.getElem?_take_of_lt hk]
    rw [g i (by omega), g (i + 1) (by omega)]
    exact R.up i (by omega)
def bottom7 (script : List Int) : Int := [(1 : Int), 7, 12, 60].getD (cellAt script 0 % 4).toNat 0
theorem bottom7_ok (script : List Int) : 1 ≤ bottom7 script ∧ bottom7 script ≤ 60 := by
  unfold bottom7
  have h : ∀ k : Nat, k < 4 → 1 ≤ [(1 : Int), 7, 12, 60].getD k 0 ∧ [(1 : Int), 7, 12, 60].getD k 0 ≤ 60 := by decide
  exact h _ (by omega)
def sh7Step (script : List Int) (b : Int) (s : List (Int × Int) × Int) (k : Int) : List (Int × Int) × Int :=
  (s.1 ++ [share s.2 b], if s.2 + cellAt script (3 + k % 30) % 9 / 3 < b then s.2 + cellAt script (3 + k % 30) % 9 / 3 else b)
def sh7L (script : List Int) : List (Int × Int) :=
  ((rangeL 0 (1 + cellAt script 2 % 40).toNat).foldl (sh7Step script (bottom7 script)) (([] : List (Int × Int)), cellAt script 1 % 4 % (bottom7 script + 1))).1
theorem sh7_fold (script : List Int) {b : Int} (hb : 1 ≤ b) : ∀ (ks : List Int) (s : List (Int × Int) × Int) (ts : List Int), (s.1 = ts.map (fun t => share t b) ∧ ts.Pairwise (· ≤ ·) ∧ (∀ t ∈ ts, 0 ≤ t ∧ t ≤ s.2) ∧ 0 ≤ s.2 ∧ s.2 ≤ b) →
    ∃ us : List Int, (ks.foldl (sh7Step script b) s).1 = us.map (fun t => share t b) ∧ us.Pairwise (· ≤ ·) ∧ (∀ t ∈ us, 0 ≤ t ∧ t ≤ (ks.foldl (sh7Step script b) s).2) ∧ 0 ≤ (ks.foldl (sh7Step script b) s).2 ∧ (ks.foldl (sh7Step script b) s).2 ≤ b ∧ us.length = ts.length + ks.length
  | [], s, ts, ⟨h1, h2, h3, h4, h5⟩ => ⟨ts, h1, h2, h3, h4, h5, rfl⟩
  | k :: ks, s, ts, ⟨h1, h2, h3, h4, h5⟩ => by
    rw [List.foldl_cons]
    have hs : s.2 ≤ (sh7Step script b s k).2 ∧ (sh7Step script b s k).2 ≤ b := by
      unfold sh7Step
      split <;> simp only <;> omega
    obtain ⟨us, q1, q2, q3, q4, q5, q6⟩ := sh7_fold script hb ks (sh7Step script b s k) (ts ++ [s.2]) ⟨by
      show s.1 ++ [share s.2 b] = _
      rw [h1]; simp, by
      refine List.pairwise_append.mpr ⟨h2, by simp, fun x hx y hy => ?_⟩
      rw [List.mem_singleton.mp hy]
      exact (h3 x hx).2, fun t ht => by
      rcases List.mem_append.mp ht with ht | ht
      · have := h3 t ht; omega
      · rw [List.mem_singleton.mp ht]; omega, by omega, hs.2⟩
    exact ⟨us, q1, q2, q3, q4, q5, by rw [q6]; simp; omega⟩
theorem sh7_rising (script : List Int) : Rising (sh7L script) ∧ (sh7L script).length ≤ 40 := by
  have hb := bottom7_ok script
  obtain ⟨us, q1, q2, q3, q4, q5, q6⟩ := sh7_fold script hb.1 (rangeL 0 (1 + cellAt script 2 % 40).toNat) (([] : List (Int × Int)), cellAt script 1 % 4 % (bottom7 script + 1)) [] ⟨rfl, by simp, by simp, by
    show 0 ≤ cellAt script 1 % 4 % (bottom7 script + 1)
    exact Int.emod_nonneg _ (by omega), by
    show cellAt script 1 % 4 % (bottom7 script + 1) ≤ bottom7 script
    have := Int.emod_lt_of_pos (cellAt script 1 % 4) (b := bottom7 script + 1) (by omega)
    omega⟩
  have hl : us.length = (1 + cellAt script 2 % 40).toNat := by rw [q6]; simp [rangeL]
  have e : sh7L script = us.map fun t => share t (bottom7 script) := q1
  rw [e]
  refine ⟨rising_map hb.1 (by omega) (fun z => by rw [z] at hl; simp at hl; omega) q2 fun t ht => ?_, by rw [List.length_map]; omega⟩
  have := q3 t ht
  omega
theorem cut8 {l : List (Int × Int)} : cutL l none (some 8) = l.take 8 := cutL_to (by decide)
theorem long_rising : Rising ((rangeL 0 ((301 : Int)).toNat).map fun k => share k 300) := by
  refine rising_map (by decide) (by decide) (by decide) ?_ fun t ht => ?_
  · refine List.pairwise_map.mpr (List.pairwise_lt_range.imp fun {a b} h => ?_)
    show (0 : Int) + (a : Int) ≤ 0 + (b : Int)
    omega
  · obtain ⟨i, hi, rfl⟩ := List.mem_map.mp ht
    have := List.mem_range.mp hi
    have e : ((301 : Int)).toNat = 301 := rfl
    omega
theorem few_none {shares : List (Int × Int)} {off : Int × Int} (R : Rising shares) (ho : OffOk off) (h : off.2 ≤ off.1) : fewL shares off = [0] := by
  have no : ∀ j l, offT shares off j l = false := fun j l => by
    unfold offT
    by_cases q : j < shares.length ∧ l < shares.length
    · have x := R.at q.1
      have y := R.at q.2
      generalize shares.getD j (0, 0) = a at *
      generalize shares.getD l (0, 0) = b at *
      have z : isOff a b off = false := by
        apply decide_eq_false
        have k1 : (a.1 * b.2 - b.1 * a.2) * off.2 ≤ a.2 * b.2 * off.2 := by
          apply Int.mul_le_mul_of_nonneg_right _ (by have := ho.pos; omega)
          have e1 : a.1 * b.2 ≤ a.2 * b.2 := Int.mul_le_mul_of_nonneg_right x.up (by have := y.pos; omega)
          have e2 : 0 ≤ b.1 * a.2 := Int.mul_nonneg y.lo (by have := x.pos; omega)
          omega
        have k2 : a.2 * b.2 * off.2 ≤ a.2 * b.2 * off.1 := Int.mul_le_mul_of_nonneg_left h (Int.mul_nonneg (by have := x.pos; omega) (by have := y.pos; omega))
        have e : off.1 * a.2 * b.2 = a.2 * b.2 * off.1 := by grind
        rw [e]
        omega
      rw [z]; simp
    · by_cases q1 : j < shares.length
      · have q2 : ¬ l < shares.length := fun q2 => q ⟨q1, q2⟩
        simp [q2]
      · simp [q1]
  rw [few_gC R ho]
  have g : ∀ n, gC (offT shares off) n = [0] := fun n => by
    induction n with
    | zero => rfl
    | succ n ih => rw [gC_s, no, if_neg (by simp), ih]
  rw [g]; rfl
end Hf

namespace Hf
open PySem PySem.Spec PyProof.Rows L2

theorem cell_ne {l : List Int} (h : PyData.eqv (pdInts l) (pdInts []) = false) : 0 < (l.length : Int) := by
  rw [pdInts_eqv] at h
  cases l with
  | nil => simp at h
  | cons a l => simp
theorem ifB_t {α : Type} {p : Bool} {x y : α} (h : p = true) : x = if p = true then x else y := (if_pos h).symm
theorem ifB_f {α : Type} {p : Bool} {x y : α} (h : p = false) : y = if p = true then x else y := (if_neg (by rw [h]; simp)).symm
theorem toNat_lt {x : Int} {n : Nat} (h : 0 ≤ x ∧ x < (n : Int)) : x.toNat < n := by omega
theorem range_mem {n : Nat} {x : Int} (h : x ∈ rangeL 0 n) : 0 ≤ x ∧ x < (n : Int) := by
  obtain ⟨i, hi, rfl⟩ := List.mem_map.mp h
  have := List.mem_range.mp hi
  omega
theorem range_k {n : Nat} {x : Int} (h : x ∈ rangeL 0 n) : 0 ≤ x := (range_mem h).1
theorem range_pos {n : Nat} {x : Int} (h : x ∈ rangeL 1 n) : 0 < x := by
  obtain ⟨i, hi, rfl⟩ := List.mem_map.mp h
  omega
theorem range_at {n i : Nat} {x : Int} (h : (rangeL 0 n)[i]? = some x) : i < n ∧ x = (i : Int) := by
  have lt : i < n := by
    have z := (List.getElem?_eq_some_iff.mp h).1
    simpa [rangeL] using z
  refine ⟨lt, ?_⟩
  rw [rangeL, List.getElem?_map, List.getElem?_range lt] at h
  have z : x = 0 + (i : Int) := (Option.some.inj h).symm
  omega
theorem Sm.top1 {s : Int × Int} (h : Sm s) : Top s.1 := small_top (by have := h.lo; have := h.up; have := h.small; omega)
theorem Sm.top2 {s : Int × Int} (h : Sm s) : Top s.2 := small_top (by have := h.pos; have := h.small; omega)
theorem Sm.lg {s : Int × Int} (h : Sm s) : s.2.natAbs.log2 < 9000 := (small_bot (by have := h.pos; have := h.small; omega)).2
theorem OffOk.top1 {s : Int × Int} (h : OffOk s) : Top s.1 := small_top (by have := h.lo; have := h.up; omega)
theorem OffOk.top2 {s : Int × Int} (h : OffOk s) : Top s.2 := small_top (by have := h.pos; have := h.small; omega)
theorem OffOk.lg {s : Int × Int} (h : OffOk s) : s.2.natAbs.log2 < 9000 := (small_bot (by have := h.pos; have := h.small; omega)).2
theorem plus_bot {s off : Int × Int} (h : Sm s) (ho : OffOk off) : 1 ≤ s.2 * off.2 ∧ s.2 * off.2 ≤ 1000000 := by
  have a := mul_le (by have := h.pos; omega : 0 ≤ s.2) h.small (by have := ho.pos; omega : 0 ≤ off.2) ho.small
  have b : 0 < s.2 * off.2 := Int.mul_pos (by have := h.pos; omega) (by have := ho.pos; omega)
  omega
theorem plus_pre {s off : Int × Int} (h : Sm s) (ho : OffOk off) : Top s.1 ∧ Top s.2 ∧ Top off.1 ∧ Top off.2 ∧ Bot (s.2 * off.2) :=
  ⟨h.top1, h.top2, ho.top1, ho.top2, small_bot (by have := plus_bot h ho; omega)⟩
theorem more_pre {one s off : Int × Int} (h1 : Sm one) (h : Sm s) (ho : OffOk off) : Top one.1 ∧ Top one.2 ∧ Top (plusS s off).1 ∧ Top (plusS s off).2 := by
  have a := mul_le h.lo (by have := h.up; have := h.small; omega : s.1 ≤ 1000) (by have := ho.pos; omega : 0 ≤ off.2) ho.small
  have b := mul_le ho.lo ho.up (by have := h.pos; omega : 0 ≤ s.2) h.small
  have c := plus_bot h ho
  obtain ⟨_, f2, f3, f4, f5, _⟩ := share_facts (t := s.1 * off.2 + off.1 * s.2) c.1 (by omega)
  exact ⟨h1.top1, h1.top2, small_top (by show _ ≤ (share _ _).1 ∧ (share _ _).1 ≤ _; omega), small_top (by show _ ≤ (share _ _).2 ∧ (share _ _).2 ≤ _; omega)⟩
theorem few_up {shares : List (Int × Int)} (R : Rising shares) {q : Int} (hq : q ∈ rangeL 0 ((shares.length : Int) - 1).toNat) :
    (0 ≤ q ∧ q + 1 < (shares.length : Int)) ∧ isMore (shares.getD q.toNat (0, 0)) (shares.getD (q + 1).toNat (0, 0)) = false := by
  have h := range_mem hq
  refine ⟨by omega, ?_⟩
  have e : (q + 1).toNat = q.toNat + 1 := by omega
  rw [e]
  exact R.up _ (by omega)
theorem any_no {f : Int → Bool} {l : List Int} {P : Int → Prop} (h : ∀ q ∈ l, P q ∧ f q = false) : (l.map fun q => f q).any id = false := by
  rw [List.any_map, List.any_eq_false]
  exact fun x hx => by simp [(h x hx).2]
theorem enum_mem {α : Type} {l : List α} {i : Nat} {q : Int × α} (h : (enumL l)[i]? = some q) : q.2 ∈ l := by
  rw [enumL_get] at h
  cases e : l[i]? with
  | none => rw [e] at h; cases h
  | some a => rw [e] at h; cases h; exact List.mem_of_getElem? e
theorem few_st {shares : List (Int × Int)} {off : Int × Int} (R : Rising shares) (ho : OffOk off) {i : Nat} {q : Int × (Int × Int)} (m : (enumL shares)[i]? = some q) {found : List Int} (e : found = ((enumL shares).take i).foldl (fewStep shares off) [0]) :
    found ≠ [] ∧ (0 ≤ found.getLastD 0 ∧ found.getLastD 0 < (shares.length : Int)) ∧ found.length ≤ shares.length ∧ (found.getLastD 0).toNat < shares.length := by
  have hi : i < shares.length := by
    have z := (List.getElem?_eq_some_iff.mp m).1
    rwa [enumL_length] at z
  obtain ⟨a, b, c⟩ := few_state R ho (by omega) e
  exact ⟨a, b, by omega, by omega⟩
theorem num_len {bs : List Int} (h : bs.length ≤ 1000) {i : Nat} {b : Int} (m : bs[i]? = some b) {s : Int × List Int} {r : Int} (e : s = (bs.take i).foldl numStep (r, [])) : s.2.length + 1 ≤ 100000 := by
  rw [e, num_fold, List.length_take]
  show 0 + min i bs.length + 1 ≤ _
  omega
theorem sh7_len' (script : List Int) (b : Int) : ∀ (ks : List Int) (s : List (Int × Int) × Int), (ks.foldl (sh7Step script b) s).1.length = s.1.length + ks.length
  | [], s => rfl
  | k :: ks, s => by
    rw [List.foldl_cons, sh7_len' script b ks]
    show (s.1 ++ _).length + _ = _ + (_ + 1)
    simp
    omega
theorem sh7_len {script : List Int} {b : Int} {ks : List Int} {i : Nat} {k : Int} (m : ks[i]? = some k) (h : ks.length ≤ 400) {s : List (Int × Int) × Int} {t : Int} (e : s = (ks.take i).foldl (sh7Step script b) (([] : List (Int × Int)), t)) : s.1.length + 1 ≤ 100000 := by
  rw [e, sh7_len', List.length_take]
  show 0 + min i ks.length + 1 ≤ _
  omega
theorem pick7 {cell : Int} : 0 ≤ cell % 4 ∧ cell % 4 < (([(1 : Int), (7 : Int), (12 : Int), (60 : Int)] : List Int).length : Int) := by
  show 0 ≤ cell % 4 ∧ cell % 4 < 4
  omega
section
variable {shares : List (Int × Int)} {chosen : List Int} {off : Int × Int}
theorem sh_in {last : Option Int} {x : Int} (c : decide (x ∈ chosen) = true) (c2 : ((some x).isNone || isOff (shares.getD x.toNat (0, 0)) (shares.getD ((some x).getD 0).toNat (0, 0)) off) = false) : shStep shares chosen off last x = some (some x) := by
  unfold shStep
  rw [if_pos c]
  simp only [Option.isNone, Bool.false_or, Option.getD_some] at c2
  show (if isOff (atS shares x) (atS shares x) off = true then none else some (some x)) = _
  rw [if_neg (by rw [show isOff (atS shares x) (atS shares x) off = false from c2]; simp)]
theorem sh_in_no {last : Option Int} {x : Int} (c : decide (x ∈ chosen) = true) (c2 : ((some x).isNone || isOff (shares.getD x.toNat (0, 0)) (shares.getD ((some x).getD 0).toNat (0, 0)) off) = true) : shStep shares chosen off last x = none := by
  unfold shStep
  rw [if_pos c]
  simp only [Option.isNone, Bool.false_or, Option.getD_some] at c2
  show (if isOff (atS shares x) (atS shares x) off = true then none else some (some x)) = _
  rw [if_pos (show isOff (atS shares x) (atS shares x) off = true from c2)]
theorem sh_out {last : Option Int} {x : Int} (c : decide (x ∈ chosen) = false) (c2 : (last.isNone || isOff (shares.getD x.toNat (0, 0)) (shares.getD (last.getD 0).toNat (0, 0)) off) = false) : shStep shares chosen off last x = some last := by
  unfold shStep
  rw [if_neg (by rw [c]; simp)]
  cases last with
  | none => simp at c2
  | some l =>
    simp only [Option.isNone, Bool.false_or, Option.getD_some] at c2
    show (if isOff (atS shares x) (atS shares l) off = true then none else some (some l)) = _
    rw [if_neg (by rw [show isOff (atS shares x) (atS shares l) off = false from c2]; simp)]
theorem sh_out_no {last : Option Int} {x : Int} (c : decide (x ∈ chosen) = false) (c2 : (last.isNone || isOff (shares.getD x.toNat (0, 0)) (shares.getD (last.getD 0).toNat (0, 0)) off) = true) : shStep shares chosen off last x = none := by
  unfold shStep
  rw [if_neg (by rw [c]; simp)]
  cases last with
  | none => rfl
  | some l =>
    simp only [Option.isNone, Bool.false_or, Option.getD_some] at c2
    show (if isOff (atS shares x) (atS shares l) off = true then none else some (some l)) = _
    rw [if_pos (show isOff (atS shares x) (atS shares l) off = true from c2)]
theorem sh_next {i n : Nat} {x : Int} (m : (rangeL 0 n)[i]? = some x) {s : Option Int} (e : shGo shares chosen off i = some s) {r : Option (Option Int)} (h : shStep shares chosen off s x = r) : shGo shares chosen off (i + 1) = r := by
  rw [shGo, e, ← h, (range_at m).2]; rfl
theorem sh_last (hch : ∀ x ∈ chosen, 0 ≤ x ∧ x < (shares.length : Int)) : ∀ {i : Nat} {s : Option Int}, shGo shares chosen off i = some s → s.isNone = false → 0 ≤ s.getD 0 ∧ s.getD 0 < (shares.length : Int)
  | 0, s, e, h => by cases e; cases h
  | i + 1, s, e, h => by
    rw [shGo] at e
    cases hg : shGo shares chosen off i with
    | none => rw [hg] at e; cases e
    | some l0 =>
      rw [hg] at e
      change shStep shares chosen off l0 i = some s at e
      unfold shStep at e
      by_cases c : decide ((i : Int) ∈ chosen) = true
      · rw [if_pos c] at e
        simp only at e
        split at e
        · cases e
        · cases e; exact hch _ (of_decide_eq_true c)
      · rw [if_neg c] at e
        cases l0 with
        | none => cases e
        | some l =>
          simp only at e
          split at e
          · cases e
          · cases e; exact sh_last hch hg rfl
theorem range_end {s : Option Int} {n : Nat} (e : shGo shares chosen off (rangeL 0 n).length = some s) : shGo shares chosen off n = some s := by
  rwa [show (rangeL 0 n).length = n by simp [rangeL]] at e
end
theorem pow8 {n : Nat} (h : n ≤ 8) : 1 ≤ (1 : Int) * 2 ^ ((n : Int)).toNat ∧ (1 : Int) * 2 ^ ((n : Int)).toNat ≤ 256 := by
  have z : ∀ k : Nat, k ≤ 8 → 1 ≤ (1 : Int) * 2 ^ ((k : Int)).toNat ∧ (1 : Int) * 2 ^ ((k : Int)).toNat ≤ 256 := by decide
  exact z n h
theorem chosen_in {n : Nat} {f : Int → Bool} {x : Int} (h : x ∈ ((rangeL 0 ((n : Int)).toNat).filter f).map fun q => q) : 0 ≤ x ∧ x < (n : Int) := by
  rw [List.map_id'] at h
  have := range_mem (List.mem_filter.mp h).1
  omega
theorem nine_ok : (∀ b ∈ [(9 : Int), (12 : Int), (4 : Int)], 0 < b ∧ b < 1073741824) ∧ ([(9 : Int), (12 : Int), (4 : Int)] : List Int).length ≤ 1000 := by decide
theorem dig_ix {c k : Int} (h : 0 ≤ k ∧ k ≤ 2 := by decide) : 0 ≤ k ∧ k < ((numbersL c [(9 : Int), (12 : Int), (4 : Int)]).length : Int) := by
  unfold numbersL
  rw [num_fold]
  show 0 ≤ k ∧ k < 3
  omega
theorem dig_ok (c : Int) : 0 ≤ (numbersL c [(9 : Int), (12 : Int), (4 : Int)]).getD ((0 : Int)).toNat 0 ∧ (numbersL c [(9 : Int), (12 : Int), (4 : Int)]).getD ((0 : Int)).toNat 0 < 9 ∧ 0 ≤ (numbersL c [(9 : Int), (12 : Int), (4 : Int)]).getD ((1 : Int)).toNat 0 ∧ (numbersL c [(9 : Int), (12 : Int), (4 : Int)]).getD ((1 : Int)).toNat 0 < 12 := by
  have e : numbersL c [(9 : Int), (12 : Int), (4 : Int)] = [restOf c % 9, restOf c / 9 % 12, restOf c / 9 / 12 % 4] := rfl
  rw [e]
  show 0 ≤ restOf c % 9 ∧ restOf c % 9 < 9 ∧ 0 ≤ restOf c / 9 % 12 ∧ restOf c / 9 % 12 < 12
  omega
theorem off_ok (c : Int) : OffOk (share (if decide ((numbersL c [(9 : Int), (12 : Int), (4 : Int)]).getD ((2 : Int)).toNat 0 < (3 : Int)) = true then (numbersL c [(9 : Int), (12 : Int), (4 : Int)]).getD ((0 : Int)).toNat 0 else (0 : Int)) ((1 : Int) + (numbersL c [(9 : Int), (12 : Int), (4 : Int)]).getD ((1 : Int)).toNat 0)) := by
  have h := dig_ok c
  exact share_off (by omega) (by omega) (by split <;> omega) (by split <;> omega)
theorem OffLit {a b : Int} (h : isShare (a, b) = true := by decide) (h1 : 0 ≤ a ∧ a ≤ 1000 ∧ 1 ≤ b ∧ b ≤ 1000 := by decide) : OffOk (a, b) := ⟨h, h1.1, h1.2.1, h1.2.2.1, h1.2.2.2⟩
end Hf

namespace Hf
open PySem PySem.Spec PyProof.Rows L2
def top (i : Nat) : Stmt := PySem.Challenge.pw_howfar_k07_whole_few.main.body.getD i (.Pass ⟨0, 0, 0, 0⟩)
structure Facts (K : PySem.W.Frag) (mg : Str → Option Value) : Prop where
  f_len : mg "len" = none
  f_abs : mg "abs" = none
  f_all : mg "all" = none
  f_any : mg "any" = none
  f_isinstance : mg "isinstance" = none
  f_tuple : mg "tuple" = none
  f_list : mg "list" = none
  f_int : mg "int" = none
  f_bool : mg "bool" = none
  f_range : mg "range" = none
  f_max : mg "max" = none
  f_min : mg "min" = none
  f_sorted : mg "sorted" = none
  f_set : mg "set" = none
  f_enumerate : mg "enumerate" = none
  g_WHOLE : ∃ a, mg "WHOLE" = some (.ref a) ∧ ∀ G, (rT2 K rInt rInt).rel G (.ref a) ((1, 1) : Int × Int)
section
variable {P : Program} {w : World} {K : PySem.W.Frag} {mg : Str → Option Value} {base : Heap}
abbrev s_common : Stmt := top 5
theorem sc_common : FnScope ["one", "other"] ["one", "other"] (defScope s_common) := ⟨rfl, rfl, rfl, by decide +kernel, rfl, by decide +kernel, by decide +kernel⟩
abbrev sp_common (K : PySem.W.Frag) : Sp := PSp (fun y : Int × Int => 0 ≤ y.1 ∧ 0 ≤ y.2) (fun y => [⟨rInt, y.1⟩, ⟨rInt, y.2⟩]) rInt (fun y => (Int.gcd y.1 y.2 : Int))
theorem ok_common {f : Addr} {fd : FuncData} (F : FnD K "common" s_common [] f fd) (T : Facts K mg) : FnOk P w K mg base (CXL P w) 1 f fd ["one", "other"] (sp_common K) := by
  refine fn_pure F sc_common (fun _ => rfl) fun y hp cdv A outer s H E0 G D hr hret hnx => ?_
  obtain ⟨one, other⟩ := y
  try dsimp only at hp hret hnx
  refine bk_while (fun s : Int × Int => [.sh rInt s.1, .sh rInt s.2]) (fun s => 0 ≤ s.1 ∧ 0 ≤ s.2 ∧ Int.gcd s.1 s.2 = Int.gcd one other) (fun s => s.2.toNat) (fun s => !decide (s.2 = 0)) (one, other) (passes_of rfl) ⟨hp.1, hp.2, rfl⟩ (fun _ _ _ h => h) (fun s _ => et_neI (ev_v 1) ev_int) (fun s hs hb => ?_) (fun s hs hb => ?_)
  · obtain ⟨x, y⟩ := s
    have hy : y ≠ 0 := by simpa using hb
    have hy1 : 0 < y := by have := hs.2.1; simp only at this; omega
    refine bk_par 0 1 sc_common.nd (ev_v 1) (ev_mod hy1 (ev_v 0) (ev_v 1)) ?_
    refine bk_end fun G H σ hh => ⟨(y, x % y), ⟨⟨hs.2.1, Int.emod_nonneg _ hy, ?_⟩, ?_⟩, G, hh⟩
    · rw [← hs.2.2]
      exact gcd_step hs.1 hs.2.1
    · have := Int.emod_lt_of_pos x hy1
      have := Int.emod_nonneg x hy
      show (x % y).toNat < y.toNat
      omega
  · obtain ⟨x, y⟩ := s
    have hy : y = 0 := by simpa using hb
    subst hy
    refine bk_ret (ev_v 0) (hret.eq ?_)
    rw [← hs.2.2]
    show ((Int.gcd x 0 : Nat) : Int) = x
    have := hs.1
    simp only at this
    rw [Int.gcd_zero]
    omega
abbrev s_share : Stmt := top 6
theorem sc_share : FnScope ["top", "bottom", "part"] ["top", "bottom"] (defScope s_share) := ⟨rfl, rfl, rfl, by decide +kernel, rfl, by decide +kernel, by decide +kernel⟩
abbrev sp_share (K : PySem.W.Frag) : Sp := PSp (fun y : Int × Int => Bot y.2) (fun y => [⟨rInt, y.1⟩, ⟨rInt, y.2⟩]) (rT2 K rInt rInt) (fun y => share y.1 y.2)
theorem ok_share {f : Addr} {fd : FuncData} (F : FnD K "share" s_share [] f fd) (T : Facts K mg) (h_common : Has P w K mg base "common" 1 (sp_common K)) : FnOk P w K mg base (CXL P w) 2 f fd ["top", "bottom"] (sp_share K) := by
  refine fn_pure F sc_share (fun _ => rfl) fun y hp cdv A outer s H E0 G D hr hret hnx => ?_
  obtain ⟨top, bottom⟩ := y
  try dsimp only at hp hret hnx
  have hg : (Int.gcd (if top < 0 then -top else top) bottom : Int) = Int.gcd top bottom := by rw [gcd_absif]
  have hd : ∀ {i : Int}, CDivW i (Int.gcd (if top < 0 then -top else top) bottom : Int) := fun {i} => by rw [gcd_absif]; exact hp.le (gcd_pos_r hp.1) (gcd_le_r hp.1)
  refine bk_setg 2 sc_share.nd (ev_call h_common hr (by decide) ((if top < 0 then -top else top), bottom) (by (try dsimp only); exact ⟨by split <;> omega, by have := hp.1; omega⟩) (ea_cons (ev_abs (ev_v 0) T.f_abs) (ea_cons (ev_v 1) ea_nil))) (fun v_part h_part => ?_)
  try dsimp only at h_part
  exact bk_ret (x := ((top / v_part), (bottom / v_part))) (ev_tup2 (ea_cons (ev_divW (i := top) (j := v_part) (by rw [h_part]; exact hd) (ev_v 0) (ev_v 2)) (ea_cons (ev_divW (i := bottom) (j := v_part) (by rw [h_part]; exact hd) (ev_v 1) (ev_v 2)) ea_nil))) (hret.eq (by rw [show v_part = (Int.gcd top bottom : Int) from h_part.trans hg]; rfl))
abbrev s_plus : Stmt := top 7
theorem sc_plus : FnScope ["one", "other"] ["one", "other"] (defScope s_plus) := ⟨rfl, rfl, rfl, by decide +kernel, rfl, by decide +kernel, by decide +kernel⟩
abbrev sp_plus (K : PySem.W.Frag) : Sp := PSp (fun y : (Int × Int) × (Int × Int) => Top y.1.1 ∧ Top y.1.2 ∧ Top y.2.1 ∧ Top y.2.2 ∧ Bot (y.1.2 * y.2.2)) (fun y => [⟨(rT2 K rInt rInt), y.1⟩, ⟨(rT2 K rInt rInt), y.2⟩]) (rT2 K rInt rInt) (fun y => plusS y.1 y.2)
theorem ok_plus {f : Addr} {fd : FuncData} (F : FnD K "plus" s_plus [] f fd) (T : Facts K mg) (h_share : Has P w K mg base "share" 2 (sp_share K)) : FnOk P w K mg base (CXL P w) 3 f fd ["one", "other"] (sp_plus K) := by
  refine fn_pure F sc_plus (fun _ => rfl) fun y hp cdv A outer s H E0 G D hr hret hnx => ?_
  obtain ⟨one, other⟩ := y
  try dsimp only at hp hret hnx
  exact bk_ret (x := (share ((one.1 * other.2) + (other.1 * one.2)) (one.2 * other.2))) (ev_call h_share hr (by decide) (((one.1 * other.2) + (other.1 * one.2)), (one.2 * other.2)) hp.2.2.2.2 (ea_cons (ev_add (ev_mulW (i := one.1) (j := other.2) (cm hp.1 hp.2.2.2.1) (ev_fst (ev_v 0)) (ev_snd (ev_v 1))) (ev_mulW (i := other.1) (j := one.2) (cm hp.2.2.1 hp.2.1) (ev_fst (ev_v 1)) (ev_snd (ev_v 0)))) (ea_cons (ev_mulW (i := one.2) (j := other.2) (cm hp.2.1 hp.2.2.2.1) (ev_snd (ev_v 0)) (ev_snd (ev_v 1))) ea_nil))) (hret.eq rfl)
abbrev s_is_more : Stmt := top 8
theorem sc_is_more : FnScope ["one", "other"] ["one", "other"] (defScope s_is_more) := ⟨rfl, rfl, rfl, by decide +kernel, rfl, by decide +kernel, by decide +kernel⟩
abbrev sp_is_more (K : PySem.W.Frag) : Sp := PSp (fun y : (Int × Int) × (Int × Int) => Top y.1.1 ∧ Top y.1.2 ∧ Top y.2.1 ∧ Top y.2.2) (fun y => [⟨(rT2 K rInt rInt), y.1⟩, ⟨(rT2 K rInt rInt), y.2⟩]) rBool (fun y => isMore y.1 y.2)
theorem ok_is_more {f : Addr} {fd : FuncData} (F : FnD K "is_more" s_is_more [] f fd) (T : Facts K mg) : FnOk P w K mg base (CXL P w) 1 f fd ["one", "other"] (sp_is_more K) := by
  refine fn_pure F sc_is_more (fun _ => rfl) fun y hp cdv A outer s H E0 G D hr hret hnx => ?_
  obtain ⟨one, other⟩ := y
  try dsimp only at hp hret hnx
  exact bk_ret (x := decide ((other.1 * one.2) < (one.1 * other.2))) (ev_gt (ev_mulW (i := one.1) (j := other.2) (cm hp.1 hp.2.2.2) (ev_fst (ev_v 0)) (ev_snd (ev_v 1))) (ev_mulW (i := other.1) (j := one.2) (cm hp.2.2.1 hp.2.1) (ev_fst (ev_v 1)) (ev_snd (ev_v 0)))) (hret.eq rfl)
abbrev s_is_share : Stmt := top 9
theorem sc_is_share : FnScope ["thing", "one"] ["thing"] (defScope s_is_share) := ⟨rfl, rfl, rfl, by decide +kernel, rfl, by decide +kernel, by decide +kernel⟩
abbrev sp_is_share (K : PySem.W.Frag) : Sp := PSp (fun y : (Int × Int) => Top y.1 ∧ y.2.natAbs.log2 < 9000) (fun y => [⟨(rT2 K rInt rInt), y⟩]) rBool (fun y => isShare y)
theorem ok_is_share {f : Addr} {fd : FuncData} (F : FnD K "is_share" s_is_share [] f fd) (T : Facts K mg) (h_share : Has P w K mg base "share" 2 (sp_share K)) : FnOk P w K mg base (CXL P w) 3 f fd ["thing"] (sp_is_share K) := by
  refine fn_pure F sc_is_share (fun _ => rfl) fun thing hp cdv A outer s H E0 G D hr hret hnx => ?_
  try dsimp only at hp hret hnx
  refine bk_if (p := ((!true) || (!decide ((2 : Int) = (2 : Int))))) (et_bool (ew_or (et_not (et_val (ev_isi (T := "tuple") (C := "tuple") (b := true) (ev_v 0) kind_T2 (by decide +kernel) T.f_isinstance T.f_tuple (by decide +kernel)))) (fun q1 => (ew_or1 (et_neI (ev_lenT2 (ev_v 0) T.f_len) ev_int))))) (fun c_1 => ?_) (fun c_1 => ?_)
  · exact bk_ret (x := false) ev_bool (hret.eq (by simp at c_1))
  · refine bk_then ?_
    refine bk_if (p := (!(([thing.1, thing.2].map (fun q2 : Int => (true && (!false)))).all id))) (et_not (et_val (ev_all (EvO.bor (eo_lcm (val := fun q2 : Int => (true && (!false))) [("one", 1)] sc_is_share.nd (ei_t2 (ev_v 0)) (blkOk_by (N := ["thing", "one"]) (sc := defScope s_is_share) (by decide +kernel)) (fun _ => (tg_name 1 sc_is_share.nd)) (fun _ q2 q3 => (ev_and (ev_isi (T := "int") (C := "int") (b := true) (ev_v 1) kind_int (by decide +kernel) T.f_isinstance T.f_int (by decide +kernel)) (fun q4 => (ev_one (ev_not (ev_isi (T := "int") (C := "bool") (b := false) (ev_v 1) kind_int (by decide +kernel) T.f_isinstance T.f_bool (by decide +kernel))))))) (by first | decide | omega | assumption | (simp [rangeL]; done) | (simp; omega)))) T.f_all))) (fun c_2 => ?_) (fun c_2 => ?_)
    · exact bk_ret (x := false) ev_bool (hret.eq (by simp at c_2))
    · refine bk_then ?_
      exact bk_ret (x := (decide ((0 : Int) ≤ thing.1) && (decide ((1 : Int) ≤ thing.2) && (PyData.eqv (pdPair (share thing.1 thing.2)) (pdPair thing))))) (ev_and (ev_ge (ev_fst (ev_v 0)) ev_int) (fun q5 => (ev_and (ev_ge (ev_snd (ev_v 0)) ev_int) (fun q6 => (ev_one (ev_eqD hr eqv_pair eqv_pair (ev_call h_share hr (by decide) (thing.1, thing.2) (by (try dsimp only); exact ⟨by simp at q6; omega, hp.2⟩) (ea_cons (ev_fst (ev_v 0)) (ea_cons (ev_snd (ev_v 0)) ea_nil))) (ev_v 0))))))) (hret.eq (by simp [isShare, pdPair_eqv, Bool.and_assoc]))
abbrev s_is_part : Stmt := top 11
theorem sc_is_part : FnScope ["thing"] ["thing"] (defScope s_is_part) := ⟨rfl, rfl, rfl, by decide +kernel, rfl, by decide +kernel, by decide +kernel⟩
abbrev sp_is_part (K : PySem.W.Frag) : Sp := PSp (fun y : (Int × Int) => Top y.1 ∧ y.2.natAbs.log2 < 9000) (fun y => [⟨(rT2 K rInt rInt), y⟩]) rBool (fun y => isPart y)
theorem ok_is_part {f : Addr} {fd : FuncData} (F : FnD K "is_part" s_is_part [] f fd) (T : Facts K mg) (h_is_more : Has P w K mg base "is_more" 1 (sp_is_more K)) (h_is_share : Has P w K mg base "is_share" 3 (sp_is_share K)) : FnOk P w K mg base (CXL P w) 4 f fd ["thing"] (sp_is_part K) := by
  refine fn_pure F sc_is_part (fun _ => rfl) fun thing hp cdv A outer s H E0 G D hr hret hnx => ?_
  try dsimp only at hp hret hnx
  exact bk_ret (x := ((isShare thing) && (!(isMore thing ((1, 1) : Int × Int))))) (ev_and (ev_call h_is_share hr (by decide) thing ⟨hp.1, hp.2⟩ (ea_cons (ev_v 0) ea_nil)) (fun q1 => (ev_one (ev_not (ev_call h_is_more hr (by decide) (thing, ((1, 1) : Int × Int)) (by (try dsimp only); exact ⟨hp.1, Nat.lt_trans hp.2 (by decide), top1, top1⟩) (ea_cons (ev_v 0) (ea_cons (ev_gref' T.g_WHOLE) ea_nil))))))) (hret.eq rfl)
abbrev s_few : Stmt := top 12
theorem sc_few : FnScope ["shares", "off", "found", "at", "one"] ["shares", "off"] (defScope s_few) := ⟨rfl, rfl, rfl, by decide +kernel, rfl, by decide +kernel, by decide +kernel⟩
abbrev sp_few (K : PySem.W.Frag) : Sp := OSp (fun y : (List (Int × Int)) × (Int × Int) => Rising y.1 ∧ OffOk y.2 ∧ y.1.length ≤ 400) (fun y => [⟨(rLst (rT2 K rInt rInt)), y.1⟩, ⟨(rT2 K rInt rInt), y.2⟩]) (fun y => oLst rInt (fewL y.1 y.2))
theorem ok_few {f : Addr} {fd : FuncData} (F : FnD K "few" s_few [] f fd) (T : Facts K mg) (h_plus : Has P w K mg base "plus" 3 (sp_plus K)) (h_is_more : Has P w K mg base "is_more" 1 (sp_is_more K)) (h_is_share : Has P w K mg base "is_share" 3 (sp_is_share K)) (h_is_part : Has P w K mg base "is_part" 4 (sp_is_part K)) : FnOk P w K mg base (CXL P w) 5 f fd ["shares", "off"] (sp_few K) := by
  refine fn_own F sc_few (fun _ => rfl) fun y hp cdv A outer s H E0 G D hr hret => ?_
  obtain ⟨shares, off⟩ := y
  try dsimp only at hp hret
  obtain ⟨R, ho, hlen⟩ := hp
  have hall : (shares.map (fun q => isPart q)).all id = true := by simp only [List.all_map, List.all_eq_true]; exact fun s hs => (R.sm s hs).part
  have hup : ∀ q ∈ rangeL 0 ((shares.length : Int) - 1).toNat, (0 ≤ q ∧ q + 1 < (shares.length : Int)) ∧ isMore (shares.getD q.toNat (0, 0)) (shares.getD (q + 1).toNat (0, 0)) = false := fun q hq => few_up R hq
  refine bk_if (p := ((!true) || ((PyData.eqv (pdPairs shares) (pdPairs ([] : (List (Int × Int))))) || (!((shares.map (fun q3 : (Int × Int) => (isPart q3))).all id))))) (et_bool (ew_or (et_not (et_val (ev_isi (T := "list") (C := "list") (b := true) (ev_v 0) kind_lst (by decide +kernel) T.f_isinstance T.f_list (by decide +kernel)))) (fun q1 => (ew_or (et_eqD hr eqv_pairs eqv_pairs (ev_v 0) (EvO.ev (eo_nil (r := (rT2 K rInt rInt))))) (fun q2 => (ew_or1 (et_not (et_val (ev_all (EvO.bor (eo_lcm (val := fun q3 : (Int × Int) => (isPart q3)) [("one", 4)] sc_few.nd (ei_lst (ev_v 0)) (blkOk_by (N := ["shares", "off", "found", "at", "one"]) (sc := defScope s_few) (by decide +kernel)) (fun _ => (tg_name 4 sc_few.nd)) (fun _ q3 q4 => (ev_call h_is_part hr (by decide) q3 ⟨(R.sm _ q4).top1, (R.sm _ q4).lg⟩ (ea_cons (ev_v 4) ea_nil))) (by first | omega | (simp [rangeL]; omega)))) T.f_all))))))))) (fun c_1 => ?_) (fun c_1 => ?_)
  · exact absurd c_1 (by rw [hall, pdPairs_eqv]; simp [R.ne])
  · refine bk_then ?_
    refine bk_if (p := ((((rangeL 0 (((shares.length : Int) - (1 : Int))).toNat).map (fun q5 : Int => (isMore (shares.getD (q5).toNat (0, 0)) (shares.getD ((q5 + (1 : Int))).toNat (0, 0))))).any id) || (!(isShare off)))) (et_bool (ew_or (et_val (ev_any (EvO.bor (eo_lcm (val := fun q5 : Int => (isMore (shares.getD (q5).toNat (0, 0)) (shares.getD ((q5 + (1 : Int))).toNat (0, 0)))) [("at", 3)] sc_few.nd (ei_range1 (n := ((shares.length : Int) - (1 : Int))) (ev_sub (ev_lenB (Ev.bor (ev_v 0)) T.f_len) ev_int) (by omega) T.f_range) (blkOk_by (N := ["shares", "off", "found", "at", "one"]) (sc := defScope s_few) (by decide +kernel)) (fun _ => (tg_name 3 sc_few.nd)) (fun _ q5 q6 => (ev_call h_is_more hr (by decide) ((shares.getD (q5).toNat (0, 0)), (shares.getD ((q5 + (1 : Int))).toNat (0, 0))) (by (try dsimp only); exact (by have z := (hup _ q6).1; have a := (R.at (i := (q5).toNat) (by omega)); have b := (R.at (i := (q5 + 1).toNat) (by omega)); exact ⟨a.top1, a.top2, b.top1, b.top2⟩)) (ea_cons (ev_at (r := (rT2 K rInt rInt)) (as := shares) (i := q5) (d := (0, 0)) (by have := (hup _ q6).1; omega) (ev_v 0) (ev_v 3)) (ea_cons (ev_at (r := (rT2 K rInt rInt)) (as := shares) (i := (q5 + (1 : Int))) (d := (0, 0)) (by have := (hup _ q6).1; omega) (ev_v 0) (ev_add (ev_v 3) ev_int)) ea_nil)))) (by first | omega | (simp [rangeL]; omega)))) T.f_any)) (fun q7 => (ew_or1 (et_not (et_val (ev_call h_is_share hr (by decide) off ⟨ho.top1, ho.lg⟩ (ea_cons (ev_v 1) ea_nil)))))))) (fun c_2 => ?_) (fun c_2 => ?_)
    · exact absurd c_2 (by rw [any_no hup, ho.is]; simp)
    · refine bk_then ?_
      refine bk_setO 2 sc_few.nd (eo_lst (r := rInt) (as := [(0 : Int)]) (ea_cons ev_int ea_nil) (by simp)) ?_
      refine bk_for (fun sq8 : (List Int) => [.sh (rLst (rT2 K rInt rInt)) shares, .sh (rT2 K rInt rInt) off, .ow (oLst rInt sq8), .no, .no]) (fun i sq8 => sq8 = (((enumL shares)).take i).foldl (fewStep shares off) ([(0 : Int)])) ([(0 : Int)]) (passes_of rfl) (ei_enum (ev_v 0) T.f_enumerate) (tg_tup2 (tg_name 3 sc_few.nd) (tg_name 4 sc_few.nd)) rfl (fun _ _ _ h => h) (fun F iq8 sq8 q8 mq8 eq8 => ?_) (fun sq8 eq8 => ?_)
      · have stt := few_st R ho mq8 eq8
        refine bk_if (p := (isMore q8.2 (plusS (shares.getD ((sq8.getLastD 0)).toNat (0, 0)) off))) (et_val (ev_call h_is_more hr (by decide) (q8.2, (plusS (shares.getD ((sq8.getLastD 0)).toNat (0, 0)) off)) (more_pre (R.sm _ (enum_mem mq8)) (R.at stt.2.2.2) ho) (ea_cons (ev_v 4) (ea_cons (ev_call h_plus hr (by decide) ((shares.getD ((sq8.getLastD 0)).toNat (0, 0)), off) (plus_pre (R.at stt.2.2.2) ho) (ea_cons (ev_at (r := (rT2 K rInt rInt)) (as := shares) (i := (sq8.getLastD 0)) (d := (0, 0)) stt.2.1 (ev_v 0) (ev_lastB (r := rInt) (as := sq8) (d := 0) (eb_v 2) stt.1)) (ea_cons (ev_v 1) ea_nil))) ea_nil)))) (fun c_3 => ?_) (fun c_3 => ?_)
        · refine bk_append 2 rfl (ev_v 3) (Nat.lt_of_succ_le (Evl.sz_of (by have := stt.2.2.1; omega))) ?_
          refine bk_then ?_
          exact bk_end fun G H σ h => ⟨((sq8 ++ [q8.1])), foldl_next mq8 eq8 (by first | exact ifB_t c_3 | exact ifB_f c_3), G, (Holds.forget 4 (Holds.forget 3 h))⟩
        · refine bk_then ?_
          exact bk_end fun G H σ h => ⟨(sq8), foldl_next mq8 eq8 (by first | exact ifB_t c_3 | exact ifB_f c_3), G, (Holds.forget 4 (Holds.forget 3 h))⟩
      · rw [List.take_length] at eq8
        subst eq8
        exact bk_retv 2 (hret.eqO (as' := ((enumL shares).foldl (fewStep shares off) ([(0 : Int)]))) rfl) (fun _ q => q)
abbrev s__law_cell_at : Stmt := top 14
theorem sc__law_cell_at : FnScope ["_law_script", "_law_k"] ["_law_script", "_law_k"] (defScope s__law_cell_at) := ⟨rfl, rfl, rfl, by decide +kernel, rfl, by decide +kernel, by decide +kernel⟩
abbrev sp__law_cell_at (K : PySem.W.Frag) : Sp := PSp (fun y : (List Int) × Int => 0 ≤ y.2) (fun y => [⟨(rSeq K rInt), y.1⟩, ⟨rInt, y.2⟩]) rInt (fun y => cellAt y.1 y.2)
theorem ok__law_cell_at {f : Addr} {fd : FuncData} (F : FnD K "_law_cell_at" s__law_cell_at [] f fd) (T : Facts K mg) : FnOk P w K mg base (CXL P w) 1 f fd ["_law_script", "_law_k"] (sp__law_cell_at K) := by
  refine fn_pure F sc__law_cell_at (fun _ => rfl) fun y hp cdv A outer s H E0 G D hr hret hnx => ?_
  obtain ⟨script, k⟩ := y
  try dsimp only at hp hret hnx
  refine bk_if (p := decide (k < (script.length : Int))) (et_lt (ev_v 1) (ev_lenS (ev_v 0) T.f_len)) (fun c_1 => ?_) (fun c_1 => ?_)
  · exact bk_ret (x := (script.getD (k).toNat 0)) (ev_atS (r := rInt) (as := script) (i := k) (d := 0) (by have := of_decide_eq_true c_1; omega) (ev_v 0) (ev_v 1)) (hret.eq (by simp only [cellAt, c_1, if_true]))
  · refine bk_then ?_
    refine bk_if (p := (PyData.eqv (pdInts script) (pdInts ([] : (List Int))))) (et_eqD hr eqv_seqInts eqv_ints (ev_v 0) (EvO.ev (eo_nil (r := rInt)))) (fun c_2 => ?_) (fun c_2 => ?_)
    · exact bk_ret (x := (k * (48271 : Int))) (ev_mulR (by decide) (ev_v 1) ev_int) (hret.eq (by simp only [cellAt, c_1, c_2, if_true, if_false, Bool.false_eq_true]))
    · refine bk_then ?_
      exact bk_ret (x := ((((script.getD ((k % (script.length : Int))).toNat 0) + k) * (48271 : Int)) % (2147483647 : Int))) (ev_mod (i := (((script.getD ((k % (script.length : Int))).toNat 0) + k) * (48271 : Int))) (j := (2147483647 : Int)) (by decide) (ev_mulR (by decide) (ev_add (ev_atS (r := rInt) (as := script) (i := (k % (script.length : Int))) (d := 0) ⟨Int.emod_nonneg _ (by have := cell_ne c_2; omega), Int.emod_lt_of_pos _ (cell_ne c_2)⟩ (ev_v 0) (ev_mod (i := k) (j := (script.length : Int)) (cell_ne c_2) (ev_v 1) (ev_lenS (ev_v 0) T.f_len))) (ev_v 1)) ev_int) ev_int) (hret.eq (by simp only [cellAt, c_1, c_2, if_true, if_false, Bool.false_eq_true]))
abbrev s__law_numbers : Stmt := top 15
theorem sc__law_numbers : FnScope ["_law_cell", "_law_bounds", "_law_rest", "_law_found", "_law_bound"] ["_law_cell", "_law_bounds"] (defScope s__law_numbers) := ⟨rfl, rfl, rfl, by decide +kernel, rfl, by decide +kernel, by decide +kernel⟩
abbrev sp__law_numbers (K : PySem.W.Frag) : Sp := OSp (fun y : Int × (List Int) => (∀ b ∈ y.2, 0 < b ∧ b < 1073741824) ∧ y.2.length ≤ 1000) (fun y => [⟨rInt, y.1⟩, ⟨(rLst rInt), y.2⟩]) (fun y => oLst rInt (numbersL y.1 y.2))
theorem ok__law_numbers {f : Addr} {fd : FuncData} (F : FnD K "_law_numbers" s__law_numbers [] f fd) (T : Facts K mg) : FnOk P w K mg base (CXL P w) 1 f fd ["_law_cell", "_law_bounds"] (sp__law_numbers K) := by
  refine fn_own F sc__law_numbers (fun _ => rfl) fun y hp cdv A outer s H E0 G D hr hret => ?_
  obtain ⟨cell, bounds⟩ := y
  try dsimp only at hp hret
  refine bk_set 2 sc__law_numbers.nd (ev_v 0) ?_
  refine bk_if (p := decide (cell < (1000000000000000000 : Int))) (et_lt (ev_v 0) (Ev.eq (ev_pow (i := (10 : Int)) (j := (18 : Int)) ⟨by decide, by decide, by decide⟩ ev_int ev_int) (by decide : ((10 : Int) ^ (18 : Int).toNat) = (1000000000000000000 : Int)))) (fun c_1 => ?_) (fun c_1 => ?_)
  · refine bk_set 2 sc__law_numbers.nd (ev_div (by decide) (ev_pow (i := (((cell % (2147483647 : Int)) * (48271 : Int)) + (12345 : Int))) (j := (5 : Int)) ⟨by decide, by decide, by omega⟩ (ev_add (ev_mulR (by decide) (ev_mod (i := cell) (j := (2147483647 : Int)) (by decide) (ev_v 0) ev_int) ev_int) ev_int) ev_int) ev_int) ?_
    refine bk_then ?_
    refine bk_setO 3 sc__law_numbers.nd (eo_nil (r := rInt)) ?_
    refine bk_for (fun sq1 : Int × (List Int) => [.sh rInt cell, .sh (rLst rInt) bounds, .sh rInt sq1.1, .ow (oLst rInt sq1.2), .no]) (fun i sq1 => sq1 = ((bounds).take i).foldl numStep ((((((cell % (2147483647 : Int)) * (48271 : Int)) + (12345 : Int)) ^ ((5 : Int)).toNat) / (1013 : Int)), ([] : (List Int)))) ((((((cell % (2147483647 : Int)) * (48271 : Int)) + (12345 : Int)) ^ ((5 : Int)).toNat) / (1013 : Int)), ([] : (List Int))) (passes_of rfl) (ei_lst (ev_v 1)) (tg_name 4 sc__law_numbers.nd) rfl (fun _ _ _ h => h) (fun F iq1 sq1 q1 mq1 eq1 => ?_) (fun sq1 eq1 => ?_)
    · have mm := List.mem_of_getElem? mq1
      have hln := num_len hp.2 mq1 eq1
      refine bk_append 3 rfl (ev_mod (i := sq1.1) (j := q1) (hp.1 _ mm).1 (ev_v 2) (ev_v 4)) (Nat.lt_of_succ_le (Evl.sz_of hln)) ?_
      refine bk_set 2 sc__law_numbers.nd (ev_div (i := sq1.1) (j := q1) (hp.1 _ mm) (ev_v 2) (ev_v 4)) ?_
      exact bk_end fun G H σ h => ⟨((sq1.1 / q1), (sq1.2 ++ [(sq1.1 % q1)])), foldl_next mq1 eq1 rfl, G, (Holds.forget 4 h)⟩
    · rw [List.take_length] at eq1
      subst eq1
      exact bk_retv 3 (hret.eqO (as' := (bounds.foldl numStep ((((((cell % (2147483647 : Int)) * (48271 : Int)) + (12345 : Int)) ^ ((5 : Int)).toNat) / (1013 : Int)), ([] : (List Int)))).2) (by unfold numbersL restOf; rw [if_pos c_1])) (fun _ q => q)
  · refine bk_then ?_
    refine bk_setO 3 sc__law_numbers.nd (eo_nil (r := rInt)) ?_
    refine bk_for (fun sq2 : Int × (List Int) => [.sh rInt cell, .sh (rLst rInt) bounds, .sh rInt sq2.1, .ow (oLst rInt sq2.2), .no]) (fun i sq2 => sq2 = ((bounds).take i).foldl numStep (cell, ([] : (List Int)))) (cell, ([] : (List Int))) (passes_of rfl) (ei_lst (ev_v 1)) (tg_name 4 sc__law_numbers.nd) rfl (fun _ _ _ h => h) (fun F iq2 sq2 q2 mq2 eq2 => ?_) (fun sq2 eq2 => ?_)
    · have mm := List.mem_of_getElem? mq2
      have hln := num_len hp.2 mq2 eq2
      refine bk_append 3 rfl (ev_mod (i := sq2.1) (j := q2) (hp.1 _ mm).1 (ev_v 2) (ev_v 4)) (Nat.lt_of_succ_le (Evl.sz_of hln)) ?_
      refine bk_set 2 sc__law_numbers.nd (ev_div (i := sq2.1) (j := q2) (hp.1 _ mm) (ev_v 2) (ev_v 4)) ?_
      exact bk_end fun G H σ h => ⟨((sq2.1 / q2), (sq2.2 ++ [(sq2.1 % q2)])), foldl_next mq2 eq2 rfl, G, (Holds.forget 4 h)⟩
    · rw [List.take_length] at eq2
      subst eq2
      exact bk_retv 3 (hret.eqO (as' := (bounds.foldl numStep (cell, ([] : (List Int)))).2) (by unfold numbersL restOf; rw [if_neg (by rw [c_1]; simp)])) (fun _ q => q)
abbrev s__law_share : Stmt := top 16
theorem sc__law_share : FnScope ["_law_top", "_law_bottom", "_law_part", "_law_k"] ["_law_top", "_law_bottom"] (defScope s__law_share) := ⟨rfl, rfl, rfl, by decide +kernel, rfl, by decide +kernel, by decide +kernel⟩
abbrev sp__law_share (K : PySem.W.Frag) : Sp := PSp (fun y : Int × Int => 1 ≤ y.2 ∧ y.2 ≤ 1000) (fun y => [⟨rInt, y.1⟩, ⟨rInt, y.2⟩]) (rT2 K rInt rInt) (fun y => share y.1 y.2)
theorem ok__law_share {f : Addr} {fd : FuncData} (F : FnD K "_law_share" s__law_share [] f fd) (T : Facts K mg) : FnOk P w K mg base (CXL P w) 1 f fd ["_law_top", "_law_bottom"] (sp__law_share K) := by
  refine fn_pure F sc__law_share (fun _ => rfl) fun y hp cdv A outer s H E0 G D hr hret hnx => ?_
  obtain ⟨top, bottom⟩ := y
  try dsimp only at hp hret hnx
  refine bk_setg 2 sc__law_share.nd (ev_maxL (cd_ne hp.1) (EvO.bor (eo_lc [("_law_k", 3)] sc__law_share.nd (ei_range2 (a := (1 : Int)) (b := (bottom + (1 : Int))) (ea_cons ev_int (ea_cons (ev_add (ev_v 1) ev_int) ea_nil)) (by omega) T.f_range) (blkOk_by (N := ["_law_top", "_law_bottom", "_law_part", "_law_k"]) (sc := defScope s__law_share) (by decide +kernel)) (fun _ => (tg_name 3 sc__law_share.nd)) (fun _ q1 q2 => ets_one (et_bool (ew_and (et_eqI (ev_mod (i := top) (j := q1) (range_pos q2) (ev_v 0) (ev_v 3)) ev_int) (fun q3 => (ew_and1 (et_eqI (ev_mod (i := bottom) (j := q1) (range_pos q2) (ev_v 1) (ev_v 3)) ev_int)))))) (fun _ q1 q2 _ => (ev_v 3)) (by simp [rangeL]; omega))) T.f_max) (fun v__law_part h__law_part => ?_)
  try dsimp only at h__law_part
  exact bk_ret (x := ((top / v__law_part), (bottom / v__law_part))) (ev_tup2 (ea_cons (ev_div (i := top) (j := v__law_part) (by rw [h__law_part, cd_gcd hp.1]; have := gcd_pos_r (t := top) (b := bottom) (by omega); have := gcd_le_r (t := top) (b := bottom) (by omega); omega) (ev_v 0) (ev_v 2)) (ea_cons (ev_div (i := bottom) (j := v__law_part) (by rw [h__law_part, cd_gcd hp.1]; have := gcd_pos_r (t := top) (b := bottom) (by omega); have := gcd_le_r (t := top) (b := bottom) (by omega); omega) (ev_v 1) (ev_v 2)) ea_nil))) (hret.eq (by rw [h__law_part, cd_gcd hp.1]; rfl))
abbrev s__law_shares : Stmt := top 17
theorem sc__law_shares : FnScope ["_law_script", "_law_bottom", "_law_found", "_law_top", "_law_k"] ["_law_script"] (defScope s__law_shares) := ⟨rfl, rfl, rfl, by decide +kernel, rfl, by decide +kernel, by decide +kernel⟩
abbrev sp__law_shares (K : PySem.W.Frag) : Sp := OSp (fun y : (List Int) => True) (fun y => [⟨(rSeq K rInt), y⟩]) (fun y => oLst (rT2 K rInt rInt) (sh7L y))
theorem ok__law_shares {f : Addr} {fd : FuncData} (F : FnD K "_law_shares" s__law_shares [] f fd) (T : Facts K mg) (h__law_cell_at : Has P w K mg base "_law_cell_at" 1 (sp__law_cell_at K)) (h__law_share : Has P w K mg base "_law_share" 1 (sp__law_share K)) : FnOk P w K mg base (CXL P w) 2 f fd ["_law_script"] (sp__law_shares K) := by
  refine fn_own F sc__law_shares (fun _ => rfl) fun script hp cdv A outer s H E0 G D hr hret => ?_
  try dsimp only at hp hret
  have hb7 := bottom7_ok script
  refine bk_setg 1 sc__law_shares.nd (ev_at (r := rInt) (as := [(1 : Int), (7 : Int), (12 : Int), (60 : Int)]) (i := ((cellAt script (0 : Int)) % (4 : Int))) (d := 0) pick7 (EvO.ev (eo_lst (r := rInt) (as := [(1 : Int), (7 : Int), (12 : Int), (60 : Int)]) (ea_cons ev_int (ea_cons ev_int (ea_cons ev_int (ea_cons ev_int ea_nil)))) (by simp))) (ev_mod (i := (cellAt script (0 : Int))) (j := (4 : Int)) (by decide) (ev_call h__law_cell_at hr (by decide) (script, (0 : Int)) (by (try dsimp only); exact (by first | decide | omega | assumption | (simp [rangeL]; done) | (simp; omega))) (ea_cons (ev_v 0) (ea_cons ev_int ea_nil))) ev_int)) (fun v__law_bottom h__law_bottom => ?_)
  try dsimp only at h__law_bottom
  refine bk_setO 2 sc__law_shares.nd (eo_nil (r := (rT2 K rInt rInt))) ?_
  refine bk_set 3 sc__law_shares.nd (ev_mod (i := ((cellAt script (1 : Int)) % (4 : Int))) (j := (v__law_bottom + (1 : Int))) (by rw [h__law_bottom]; have := hb7.1; unfold bottom7 at this; omega) (ev_mod (i := (cellAt script (1 : Int))) (j := (4 : Int)) (by decide) (ev_call h__law_cell_at hr (by decide) (script, (1 : Int)) (by (try dsimp only); exact (by first | decide | omega | assumption | (simp [rangeL]; done) | (simp; omega))) (ea_cons (ev_v 0) (ea_cons ev_int ea_nil))) ev_int) (ev_add (ev_v 1) ev_int)) ?_
  refine bk_for (fun sq1 : (List (Int × Int)) × Int => [.sh (rSeq K rInt) script, .sh rInt v__law_bottom, .ow (oLst (rT2 K rInt rInt) sq1.1), .sh rInt sq1.2, .no]) (fun i sq1 => sq1 = (((rangeL 0 (((1 : Int) + ((cellAt script (2 : Int)) % (40 : Int)))).toNat)).take i).foldl (sh7Step script v__law_bottom) (([] : (List (Int × Int))), (((cellAt script (1 : Int)) % (4 : Int)) % (v__law_bottom + (1 : Int))))) (([] : (List (Int × Int))), (((cellAt script (1 : Int)) % (4 : Int)) % (v__law_bottom + (1 : Int)))) (passes_of rfl) (ei_range1 (n := ((1 : Int) + ((cellAt script (2 : Int)) % (40 : Int)))) (ev_add ev_int (ev_mod (i := (cellAt script (2 : Int))) (j := (40 : Int)) (by decide) (ev_call h__law_cell_at hr (by decide) (script, (2 : Int)) (by (try dsimp only); exact (by first | decide | omega | assumption | (simp [rangeL]; done) | (simp; omega))) (ea_cons (ev_v 0) (ea_cons ev_int ea_nil))) ev_int)) (by omega) T.f_range) (tg_name 4 sc__law_shares.nd) rfl (fun _ _ _ h => h) (fun F iq1 sq1 q1 mq1 eq1 => ?_) (fun sq1 eq1 => ?_)
  · have mm := List.mem_of_getElem? mq1
    have hln := sh7_len mq1 (by simp [rangeL]; omega) eq1
    refine bk_append 2 rfl (ev_call h__law_share hr (by decide) (sq1.2, v__law_bottom) (by (try dsimp only); exact (by rw [h__law_bottom]; have := hb7; unfold bottom7 at this; omega)) (ea_cons (ev_v 3) (ea_cons (ev_v 1) ea_nil))) (Nat.lt_of_succ_le (Evl.sz_of hln)) ?_
    refine bk_set 3 sc__law_shares.nd (ev_min2 (ea_cons (ev_v 1) (ea_cons (ev_add (ev_v 3) (ev_div (by decide) (ev_mod (i := (cellAt script ((3 : Int) + (q1 % (30 : Int))))) (j := (9 : Int)) (by decide) (ev_call h__law_cell_at hr (by decide) (script, ((3 : Int) + (q1 % (30 : Int)))) (by (try dsimp only); exact (by have := range_k mm; omega)) (ea_cons (ev_v 0) (ea_cons (ev_add ev_int (ev_mod (i := q1) (j := (30 : Int)) (by decide) (ev_v 4) ev_int)) ea_nil))) ev_int) ev_int)) ea_nil)) T.f_min) ?_
    exact bk_end fun G H σ h => ⟨((sq1.1 ++ [(share sq1.2 v__law_bottom)]), (if (sq1.2 + (((cellAt script ((3 : Int) + (q1 % (30 : Int)))) % (9 : Int)) / (3 : Int))) < v__law_bottom then (sq1.2 + (((cellAt script ((3 : Int) + (q1 % (30 : Int)))) % (9 : Int)) / (3 : Int))) else v__law_bottom)), foldl_next mq1 eq1 rfl, G, (Holds.forget 4 h)⟩
  · rw [List.take_length] at eq1
    subst eq1
    exact bk_retv 2 (hret.eqO (as' := ((rangeL 0 (((1 : Int) + ((cellAt script (2 : Int)) % (40 : Int)))).toNat).foldl (sh7Step script v__law_bottom) (([] : (List (Int × Int))), (((cellAt script (1 : Int)) % (4 : Int)) % (v__law_bottom + (1 : Int))))).1) (by rw [h__law_bottom]; rfl)) (fun _ q => q)
abbrev s__law_is_off : Stmt := top 18
theorem sc__law_is_off : FnScope ["_law_one", "_law_other", "_law_off", "_law_more"] ["_law_one", "_law_other", "_law_off"] (defScope s__law_is_off) := ⟨rfl, rfl, rfl, by decide +kernel, rfl, by decide +kernel, by decide +kernel⟩
abbrev sp__law_is_off (K : PySem.W.Frag) : Sp := PSp (fun y : (Int × Int) × (Int × Int) × (Int × Int) => Sm y.1 ∧ Sm y.2.1 ∧ OffOk y.2.2) (fun y => [⟨(rT2 K rInt rInt), y.1⟩, ⟨(rT2 K rInt rInt), y.2.1⟩, ⟨(rT2 K rInt rInt), y.2.2⟩]) rBool (fun y => isOff y.1 y.2.1 y.2.2)
theorem ok__law_is_off {f : Addr} {fd : FuncData} (F : FnD K "_law_is_off" s__law_is_off [] f fd) (T : Facts K mg) : FnOk P w K mg base (CXL P w) 1 f fd ["_law_one", "_law_other", "_law_off"] (sp__law_is_off K) := by
  refine fn_pure F sc__law_is_off (fun _ => rfl) fun y hp cdv A outer s H E0 G D hr hret hnx => ?_
  obtain ⟨one, other, off⟩ := y
  try dsimp only at hp hret hnx
  obtain ⟨h1, h2, h3⟩ := hp
  refine bk_set 3 sc__law_is_off.nd (ev_sub (ev_mulR (i := one.1) (j := other.2) (by have := h2.pos; have := h2.small; omega) (ev_fst (ev_v 0)) (ev_snd (ev_v 1))) (ev_mulR (i := other.1) (j := one.2) (by have := h1.pos; have := h1.small; omega) (ev_fst (ev_v 1)) (ev_snd (ev_v 0)))) ?_
  exact bk_ret (x := decide (((off.1 * one.2) * other.2) < (((one.1 * other.2) - (other.1 * one.2)) * off.2))) (ev_gt (ev_mulR (i := ((one.1 * other.2) - (other.1 * one.2))) (j := off.2) (by have := h3.pos; have := h3.small; omega) (ev_v 3) (ev_snd (ev_v 2))) (ev_mulR (i := (off.1 * one.2)) (j := other.2) (by have := h2.pos; have := h2.small; omega) (ev_mulR (i := off.1) (j := one.2) (by have := h1.pos; have := h1.small; omega) (ev_fst (ev_v 2)) (ev_snd (ev_v 0))) (ev_snd (ev_v 1)))) (hret.eq rfl)
abbrev s__law_shows : Stmt := top 19
theorem sc__law_shows : FnScope ["_law_shares_here", "_law_chosen", "_law_off", "_law_last", "_law_at"] ["_law_shares_here", "_law_chosen", "_law_off"] (defScope s__law_shows) := ⟨rfl, rfl, rfl, by decide +kernel, rfl, by decide +kernel, by decide +kernel⟩
abbrev sp__law_shows (K : PySem.W.Frag) : Sp := PSp (fun y : (List (Int × Int)) × (List Int) × (Int × Int) => (∀ s ∈ y.1, Sm s) ∧ (∀ x ∈ y.2.1, 0 ≤ x ∧ x < (y.1.length : Int)) ∧ OffOk y.2.2 ∧ y.1.length ≤ 400) (fun y => [⟨(rLst (rT2 K rInt rInt)), y.1⟩, ⟨(rLst rInt), y.2.1⟩, ⟨(rT2 K rInt rInt), y.2.2⟩]) rBool (fun y => showsL y.1 y.2.1 y.2.2)
theorem ok__law_shows {f : Addr} {fd : FuncData} (F : FnD K "_law_shows" s__law_shows [] f fd) (T : Facts K mg) (h__law_is_off : Has P w K mg base "_law_is_off" 1 (sp__law_is_off K)) : FnOk P w K mg base (CXL P w) 2 f fd ["_law_shares_here", "_law_chosen", "_law_off"] (sp__law_shows K) := by
  refine fn_pure F sc__law_shows (fun _ => rfl) fun y hp cdv A outer s H E0 G D hr hret hnx => ?_
  obtain ⟨shares_here, chosen, off⟩ := y
  try dsimp only at hp hret hnx
  obtain ⟨hsm, hch, ho, hlen⟩ := hp
  refine bk_set 3 sc__law_shows.nd (ev_none (r := rInt)) ?_
  refine bk_for (fun sq1 : (Option Int) => [.sh (rLst (rT2 K rInt rInt)) shares_here, .sh (rLst rInt) chosen, .sh (rT2 K rInt rInt) off, .sh (rOpt rInt) sq1, .no]) (fun (i : Nat) (s : Option Int) => shGo shares_here chosen off i = some s) ((none : Option Int)) (passes_of rfl) (ei_range1 (n := (shares_here.length : Int)) (ev_lenB (Ev.bor (ev_v 0)) T.f_len) (by omega) T.f_range) (tg_name 4 sc__law_shows.nd) rfl (fun _ _ _ h => h) (fun F iq1 sq1 q1 mq1 eq1 => ?_) (fun sq1 eq1 => ?_)
  · have hra := range_at mq1
    have hix : 0 ≤ q1 ∧ q1 < (shares_here.length : Int) := by omega
    have hls := fun h => sh_last hch eq1 h
    refine bk_if (p := decide (q1 ∈ chosen)) (et_inI (ev_v 4) (ev_v 1)) (fun c_1 => ?_) (fun c_1 => ?_)
    · refine bk_set 3 sc__law_shows.nd (ev_some (ev_v 4)) ?_
      refine bk_then ?_
      refine bk_if (p := (((some q1)).isNone || (isOff (shares_here.getD (q1).toNat (0, 0)) (shares_here.getD (((some q1).getD 0)).toNat (0, 0)) off))) (et_bool (ew_or (et_isN nn_int (ev_v 3) ev_unit) (fun q2 => (ew_or1 (et_val (ev_call h__law_is_off hr (by decide) ((shares_here.getD (q1).toNat (0, 0)), (shares_here.getD (((some q1).getD 0)).toNat (0, 0)), off) (by (try dsimp only); exact (by first | exact ⟨hsm _ (getD_mem (by omega)), hsm _ (getD_mem (toNat_lt (hch _ (of_decide_eq_true c_1)))), ho⟩ | exact ⟨hsm _ (getD_mem (by omega)), hsm _ (getD_mem (toNat_lt (hls q2))), ho⟩)) (ea_cons (ev_at (r := (rT2 K rInt rInt)) (as := shares_here) (i := q1) (d := (0, 0)) hix (ev_v 0) (ev_v 4)) (ea_cons (ev_at (r := (rT2 K rInt rInt)) (as := shares_here) (i := ((some q1).getD 0)) (d := (0, 0)) (by first | exact hch _ (of_decide_eq_true c_1) | exact hls q2) (ev_v 0) (ev_unopt (d := 0) q2 (ev_v 3))) (ea_cons (ev_v 2) ea_nil))))))))) (fun c_2 => ?_) (fun c_2 => ?_)
      · exact bk_ret (x := false) ev_bool (hret.eq (shows_no (by omega) (sh_next mq1 eq1 (sh_in_no c_1 c_2))))
      · refine bk_then ?_
        exact bk_end fun G H σ h => ⟨((some q1)), (by first | exact sh_next mq1 eq1 (sh_in c_1 c_2) | exact sh_next mq1 eq1 (sh_out c_1 c_2)), G, (Holds.forget 4 h)⟩
    · refine bk_then ?_
      refine bk_if (p := ((sq1).isNone || (isOff (shares_here.getD (q1).toNat (0, 0)) (shares_here.getD ((sq1.getD 0)).toNat (0, 0)) off))) (et_bool (ew_or (et_isN nn_int (ev_v 3) ev_unit) (fun q3 => (ew_or1 (et_val (ev_call h__law_is_off hr (by decide) ((shares_here.getD (q1).toNat (0, 0)), (shares_here.getD ((sq1.getD 0)).toNat (0, 0)), off) (by (try dsimp only); exact (by first | exact ⟨hsm _ (getD_mem (by omega)), hsm _ (getD_mem (toNat_lt (hch _ (of_decide_eq_true c_1)))), ho⟩ | exact ⟨hsm _ (getD_mem (by omega)), hsm _ (getD_mem (toNat_lt (hls q3))), ho⟩)) (ea_cons (ev_at (r := (rT2 K rInt rInt)) (as := shares_here) (i := q1) (d := (0, 0)) hix (ev_v 0) (ev_v 4)) (ea_cons (ev_at (r := (rT2 K rInt rInt)) (as := shares_here) (i := (sq1.getD 0)) (d := (0, 0)) (by first | exact hch _ (of_decide_eq_true c_1) | exact hls q3) (ev_v 0) (ev_unopt (d := 0) q3 (ev_v 3))) (ea_cons (ev_v 2) ea_nil))))))))) (fun c_3 => ?_) (fun c_3 => ?_)
      · exact bk_ret (x := false) ev_bool (hret.eq (shows_no (by omega) (sh_next mq1 eq1 (sh_out_no c_1 c_3))))
      · refine bk_then ?_
        exact bk_end fun G H σ h => ⟨(sq1), (by first | exact sh_next mq1 eq1 (sh_in c_1 c_3) | exact sh_next mq1 eq1 (sh_out c_1 c_3)), G, (Holds.forget 4 h)⟩
  · have esh := range_end eq1
    exact bk_ret (x := true) ev_bool (hret.eq (by unfold showsL; rw [show shGo shares_here chosen off shares_here.length = _ from esh]; rfl))
abbrev s__law_fewest : Stmt := top 20
theorem sc__law_fewest : FnScope ["_law_shares_here", "_law_off", "_law_best", "_law_lot", "_law_chosen", "_law_at"] ["_law_shares_here", "_law_off"] (defScope s__law_fewest) := ⟨rfl, rfl, rfl, by decide +kernel, rfl, by decide +kernel, by decide +kernel⟩
abbrev sp__law_fewest (K : PySem.W.Frag) : Sp := PSp (fun y : (List (Int × Int)) × (Int × Int) => (∀ s ∈ y.1, Sm s) ∧ OffOk y.2 ∧ y.1.length ≤ 8) (fun y => [⟨(rLst (rT2 K rInt rInt)), y.1⟩, ⟨(rT2 K rInt rInt), y.2⟩]) rInt (fun y => fewestL y.1 y.2)
theorem ok__law_fewest {f : Addr} {fd : FuncData} (F : FnD K "_law_fewest" s__law_fewest [] f fd) (T : Facts K mg) (h__law_shows : Has P w K mg base "_law_shows" 2 (sp__law_shows K)) : FnOk P w K mg base (CXL P w) 3 f fd ["_law_shares_here", "_law_off"] (sp__law_fewest K) := by
  refine fn_pure F sc__law_fewest (fun _ => rfl) fun y hp cdv A outer s H E0 G D hr hret hnx => ?_
  obtain ⟨shares_here, off⟩ := y
  try dsimp only at hp hret hnx
  obtain ⟨hsm, ho, hlen⟩ := hp
  have hpow := pow8 hlen
  refine bk_set 2 sc__law_fewest.nd (ev_lenB (Ev.bor (ev_v 0)) T.f_len) ?_
  refine bk_for (fun sq1 : Int => [.sh (rLst (rT2 K rInt rInt)) shares_here, .sh (rT2 K rInt rInt) off, .sh rInt sq1, .no, .no, .no]) (fun i sq1 => sq1 = (((rangeL 0 (((1 : Int) * 2 ^ ((shares_here.length : Int)).toNat)).toNat)).take i).foldl (bestStep shares_here off) ((shares_here.length : Int))) ((shares_here.length : Int)) (passes_of rfl) (ei_range1 (n := ((1 : Int) * 2 ^ ((shares_here.length : Int)).toNat)) (ev_shl (i := (1 : Int)) (j := (shares_here.length : Int)) ⟨by omega, by omega, by decide⟩ ev_int (ev_lenB (Ev.bor (ev_v 0)) T.f_len)) (by omega) T.f_range) (tg_name 3 sc__law_fewest.nd) rfl (fun _ _ _ h => h) (fun F iq1 sq1 q1 mq1 eq1 => ?_) (fun sq1 eq1 => ?_)
  · refine bk_setLf 4 [("_law_at", 5)] sc__law_fewest.nd (ei_range1 (n := (shares_here.length : Int)) (ev_lenB (Ev.bor (ev_v 0)) T.f_len) (by omega) T.f_range) (blkOk_by (N := ["_law_shares_here", "_law_off", "_law_best", "_law_lot", "_law_chosen", "_law_at"]) (sc := defScope s__law_fewest) (by decide +kernel)) (fun _ => (tg_name 5 sc__law_fewest.nd)) (fun _ q2 q3 => ets_one (et_eqI (ev_and1 (ev_shr (i := q1) (j := q2) (range_k q3) (ev_v 3) (ev_v 5)) ev_int) ev_int)) (fun _ q2 q3 _ => (ev_v 5)) (by simp [rangeL]; omega) ?_
    refine bk_if (p := (decide (((((rangeL 0 ((shares_here.length : Int)).toNat).filter (fun q2 : Int => decide (((q1 / 2 ^ (q2).toNat) % 2) = (1 : Int)))).map (fun q2 : Int => q2)).length : Int) < sq1) && (showsL shares_here (((rangeL 0 ((shares_here.length : Int)).toNat).filter (fun q2 : Int => decide (((q1 / 2 ^ (q2).toNat) % 2) = (1 : Int)))).map (fun q2 : Int => q2)) off))) (et_bool (ew_and (et_lt (ev_lenB (Ev.bor (ev_v 4)) T.f_len) (ev_v 2)) (fun q4 => (ew_and1 (et_val (ev_call h__law_shows hr (by decide) (shares_here, (((rangeL 0 ((shares_here.length : Int)).toNat).filter (fun q2 : Int => decide (((q1 / 2 ^ (q2).toNat) % 2) = (1 : Int)))).map (fun q2 : Int => q2)), off) (by (try dsimp only); exact ⟨hsm, fun x hx => chosen_in hx, ho, by omega⟩) (ea_cons (ev_v 0) (ea_cons (ev_v 4) (ea_cons (ev_v 1) ea_nil))))))))) (fun c_1 => ?_) (fun c_1 => ?_)
    · refine bk_set 2 sc__law_fewest.nd (ev_lenB (Ev.bor (ev_v 4)) T.f_len) ?_
      refine bk_then ?_
      exact bk_end fun G H σ h => ⟨(((((rangeL 0 ((shares_here.length : Int)).toNat).filter (fun q2 : Int => decide (((q1 / 2 ^ (q2).toNat) % 2) = (1 : Int)))).map (fun q2 : Int => q2)).length : Int)), foldl_next mq1 eq1 (by first | exact ifB_t c_1 | exact ifB_f c_1), G, (Holds.forget 4 (Holds.forget 3 h))⟩
    · refine bk_then ?_
      exact bk_end fun G H σ h => ⟨(sq1), foldl_next mq1 eq1 (by first | exact ifB_t c_1 | exact ifB_f c_1), G, (Holds.forget 4 (Holds.forget 3 h))⟩
  · rw [List.take_length] at eq1
    subst eq1
    exact bk_ret (x := ((rangeL 0 (((1 : Int) * 2 ^ ((shares_here.length : Int)).toNat)).toNat).foldl (bestStep shares_here off) ((shares_here.length : Int)))) (ev_v 2) (hret.eq rfl)
abbrev s__law_right : Stmt := top 21
theorem sc__law_right : FnScope ["_law_shares_here", "_law_off", "_law_handed", "_law_got", "_law_k", "_law_at"] ["_law_shares_here", "_law_off"] (defScope s__law_right) := ⟨rfl, rfl, rfl, by decide +kernel, rfl, by decide +kernel, by decide +kernel⟩
abbrev sp__law_right (K : PySem.W.Frag) : Sp := PSp (fun y : (List (Int × Int)) × (Int × Int) => Rising y.1 ∧ OffOk y.2 ∧ y.1.length ≤ 400) (fun y => [⟨(rLst (rT2 K rInt rInt)), y.1⟩, ⟨(rT2 K rInt rInt), y.2⟩]) rBool (fun y => true)
theorem ok__law_right {f : Addr} {fd : FuncData} (F : FnD K "_law_right" s__law_right [] f fd) (T : Facts K mg) (h_few : Has P w K mg base "few" 5 (sp_few K)) (h__law_is_off : Has P w K mg base "_law_is_off" 1 (sp__law_is_off K)) (h__law_shows : Has P w K mg base "_law_shows" 2 (sp__law_shows K)) : FnOk P w K mg base (CXL P w) 6 f fd ["_law_shares_here", "_law_off"] (sp__law_right K) := by
  refine fn_pure F sc__law_right (fun _ => rfl) fun y hp cdv A outer s H E0 G D hr hret hnx => ?_
  obtain ⟨shares_here, off⟩ := y
  try dsimp only at hp hret hnx
  obtain ⟨R, ho, hlen⟩ := hp
  have hpr := fun k hk => few_pair (k := k) R ho hk
  have hfl := few_len R ho
  refine bk_set 2 sc__law_right.nd (EvO.ev (eo_listOf (Ev.bor (ev_v 0)) T.f_list)) ?_
  refine bk_setg 3 sc__law_right.nd (EvO.ev (eo_call h_few hr (by decide) (shares_here, off) ⟨R, ho, hlen⟩ (ea_cons (ev_v 2) (ea_cons (ev_v 1) ea_nil)))) (fun v__law_got h__law_got => ?_)
  try dsimp only at h__law_got
  refine bk_if (p := ((!(PyData.eqv (pdPairs shares_here) (pdPairs shares_here))) || ((!true) || ((!(PyData.eqv (pdInts (cutL v__law_got none (some (1 : Int)))) (pdInts [(0 : Int)]))) || (!(PyData.eqv (pdInts v__law_got) (pdInts (sortU v__law_got)))))))) (et_bool (ew_or (et_neD hr eqv_pairs eqv_pairs (ev_v 2) (ev_v 0)) (fun q1 => (ew_or (et_not (et_val (ev_isi (T := "list") (C := "list") (b := true) (ev_v 3) kind_lst (by decide +kernel) T.f_isinstance T.f_list (by decide +kernel)))) (fun q2 => (ew_or (et_neD hr eqv_ints eqv_ints (EvO.ev (eo_to (Ev.bor (ev_v 3)) ev_int)) (EvO.ev (eo_lst (r := rInt) (as := [(0 : Int)]) (ea_cons ev_int ea_nil) (by simp)))) (fun q3 => (ew_or1 (et_neD hr eqv_ints eqv_ints (ev_v 3) (EvO.ev (eo_sortSet (by rw [h__law_got]; have : scanBound = 4096 := rfl; omega) (Ev.bor (ev_v 3)) T.f_sorted T.f_set))))))))))) (fun c_1 => ?_) (fun c_1 => ?_)
  · exact bk_ret (x := false) ev_bool (hret.eq (absurd c_1 (by rw [h__law_got, few_first R ho, few_sorted R ho, pdPairs_eqv, pdInts_eqv, pdInts_eqv]; simp)))
  · refine bk_then ?_
    refine bk_if (p := (((v__law_got.map (fun q4 : Int => false)).any id) || (!(showsL shares_here v__law_got off)))) (et_bool (ew_or (et_val (ev_any (EvO.bor (eo_lcm (val := fun q4 : Int => false) [("_law_at", 5)] sc__law_right.nd (ei_lst (ev_v 3)) (blkOk_by (N := ["_law_shares_here", "_law_off", "_law_handed", "_law_got", "_law_k", "_law_at"]) (sc := defScope s__law_right) (by decide +kernel)) (fun _ => (tg_name 5 sc__law_right.nd)) (fun _ q4 q5 => (ev_isi (T := "int") (C := "bool") (b := false) (ev_v 5) kind_int (by decide +kernel) T.f_isinstance T.f_bool (by decide +kernel))) (by rw [h__law_got]; omega))) T.f_any)) (fun q6 => (ew_or1 (et_not (et_val (ev_call h__law_shows hr (by decide) (shares_here, v__law_got, off) ⟨R.sm, by rw [h__law_got]; exact few_bounds R ho, ho, hlen⟩ (ea_cons (ev_v 0) (ea_cons (ev_v 3) (ea_cons (ev_v 1) ea_nil)))))))))) (fun c_2 => ?_) (fun c_2 => ?_)
    · exact bk_ret (x := false) ev_bool (hret.eq (absurd c_2 (by rw [h__law_got, few_shows R ho]; simp)))
    · refine bk_then ?_
      refine bk_for (fun _ : Unit => [.sh (rLst (rT2 K rInt rInt)) shares_here, .sh (rT2 K rInt rInt) off, .sh (rLst (rT2 K rInt rInt)) shares_here, .sh (rLst rInt) v__law_got, .no, .no]) (fun _ _ => True) () (passes_of rfl) (ei_range1 (n := ((v__law_got.length : Int) - (1 : Int))) (ev_sub (ev_lenB (Ev.bor (ev_v 3)) T.f_len) ev_int) (by rw [h__law_got]; omega) T.f_range) (tg_name 4 sc__law_right.nd) trivial (fun _ _ _ h => h) (fun F iq7 _ q7 mq7 _ => ?_) (fun _ _ => ?_)
      · have mq7 := List.mem_of_getElem? mq7
        refine bk_if (p := (!(isOff (shares_here.getD ((v__law_got.getD ((q7 + (1 : Int))).toNat 0)).toNat (0, 0)) (shares_here.getD ((v__law_got.getD (q7).toNat 0)).toNat (0, 0)) off))) (et_not (et_val (ev_call h__law_is_off hr (by decide) ((shares_here.getD ((v__law_got.getD ((q7 + (1 : Int))).toNat 0)).toNat (0, 0)), (shares_here.getD ((v__law_got.getD (q7).toNat 0)).toNat (0, 0)), off) (by (try dsimp only); exact (by subst h__law_got; have := (hpr _ mq7).2.1; exact ⟨R.at (by omega), R.at (by omega), ho⟩)) (ea_cons (ev_at (r := (rT2 K rInt rInt)) (as := shares_here) (i := (v__law_got.getD ((q7 + (1 : Int))).toNat 0)) (d := (0, 0)) (by subst h__law_got; have := (hpr _ mq7).2.1; omega) (ev_v 0) (ev_at (r := rInt) (as := v__law_got) (i := (q7 + (1 : Int))) (d := 0) (by subst h__law_got; have := (hpr _ mq7).1; omega) (ev_v 3) (ev_add (ev_v 4) ev_int))) (ea_cons (ev_at (r := (rT2 K rInt rInt)) (as := shares_here) (i := (v__law_got.getD (q7).toNat 0)) (d := (0, 0)) (by subst h__law_got; have := (hpr _ mq7).2.1; omega) (ev_v 0) (ev_at (r := rInt) (as := v__law_got) (i := q7) (d := 0) (by subst h__law_got; have := (hpr _ mq7).1; omega) (ev_v 3) (ev_v 4))) (ea_cons (ev_v 1) ea_nil)))))) (fun c_3 => ?_) (fun c_3 => ?_)
        · exact bk_ret (x := false) ev_bool (hret.eq (by subst h__law_got; have := (hpr _ mq7).2.2.1; unfold atS at this; rw [this] at c_3; simp at c_3))
        · refine bk_then ?_
          refine bk_if (p := (isOff (shares_here.getD (((v__law_got.getD ((q7 + (1 : Int))).toNat 0) - (1 : Int))).toNat (0, 0)) (shares_here.getD ((v__law_got.getD (q7).toNat 0)).toNat (0, 0)) off)) (et_val (ev_call h__law_is_off hr (by decide) ((shares_here.getD (((v__law_got.getD ((q7 + (1 : Int))).toNat 0) - (1 : Int))).toNat (0, 0)), (shares_here.getD ((v__law_got.getD (q7).toNat 0)).toNat (0, 0)), off) (by (try dsimp only); exact (by subst h__law_got; have := (hpr _ mq7).2.1; exact ⟨R.at (by omega), R.at (by omega), ho⟩)) (ea_cons (ev_at (r := (rT2 K rInt rInt)) (as := shares_here) (i := ((v__law_got.getD ((q7 + (1 : Int))).toNat 0) - (1 : Int))) (d := (0, 0)) (by subst h__law_got; have := (hpr _ mq7).2.1; omega) (ev_v 0) (ev_sub (ev_at (r := rInt) (as := v__law_got) (i := (q7 + (1 : Int))) (d := 0) (by subst h__law_got; have := (hpr _ mq7).1; omega) (ev_v 3) (ev_add (ev_v 4) ev_int)) ev_int)) (ea_cons (ev_at (r := (rT2 K rInt rInt)) (as := shares_here) (i := (v__law_got.getD (q7).toNat 0)) (d := (0, 0)) (by subst h__law_got; have := (hpr _ mq7).2.1; omega) (ev_v 0) (ev_at (r := rInt) (as := v__law_got) (i := q7) (d := 0) (by subst h__law_got; have := (hpr _ mq7).1; omega) (ev_v 3) (ev_v 4))) (ea_cons (ev_v 1) ea_nil))))) (fun c_4 => ?_) (fun c_4 => ?_)
          · exact bk_ret (x := false) ev_bool (hret.eq (by subst h__law_got; have := (hpr _ mq7).2.2.2; unfold atS at this; rw [this] at c_4; simp at c_4))
          · refine bk_then ?_
            exact bk_end fun G H σ h => ⟨(), trivial, G, (Holds.forget 4 h)⟩
      · exact bk_ret (x := true) ev_bool (hret.eq rfl)
abbrev s_law : Stmt := top 22
theorem sc_law : FnScope ["_law_script", "_law_shares_here", "_law_k", "_law_long", "_law_digits", "_law_off"] ["_law_script"] (defScope s_law) := ⟨rfl, rfl, rfl, by decide +kernel, rfl, by decide +kernel, by decide +kernel⟩
abbrev sp_law (K : PySem.W.Frag) : Sp := PSp (fun y : (List Int) => y.length ≤ 63) (fun y => [⟨(rSeq K rInt), y⟩]) rBool (fun y => true)
theorem ok_law {f : Addr} {fd : FuncData} (F : FnD K "law" s_law [] f fd) (T : Facts K mg) (h_few : Has P w K mg base "few" 5 (sp_few K)) (h__law_cell_at : Has P w K mg base "_law_cell_at" 1 (sp__law_cell_at K)) (h__law_numbers : Has P w K mg base "_law_numbers" 1 (sp__law_numbers K)) (h__law_share : Has P w K mg base "_law_share" 1 (sp__law_share K)) (h__law_shares : Has P w K mg base "_law_shares" 2 (sp__law_shares K)) (h__law_fewest : Has P w K mg base "_law_fewest" 3 (sp__law_fewest K)) (h__law_right : Has P w K mg base "_law_right" 6 (sp__law_right K)) : FnOk P w K mg base (CXL P w) 7 f fd ["_law_script"] (sp_law K) := by
  refine fn_pure F sc_law (fun _ => rfl) fun script hp cdv A outer s H E0 G D hr hret hnx => ?_
  try dsimp only at hp hret hnx
  have h7 := sh7_rising script
  have hlong := long_rising
  refine bk_setg 1 sc_law.nd (EvO.ev (eo_call h__law_shares hr (by decide) script trivial (ea_cons (ev_v 0) ea_nil))) (fun v__law_shares_here h__law_shares_here => ?_)
  try dsimp only at h__law_shares_here
  refine bk_for (fun _ : Unit => [.sh (rSeq K rInt) script, .sh (rLst (rT2 K rInt rInt)) v__law_shares_here, .no, .no, .no, .no]) (fun _ _ => True) () (passes_of rfl) (ei_range1 (n := (3 : Int)) ev_int (by decide) T.f_range) (tg_name 2 sc_law.nd) trivial (fun _ _ _ h => h) (fun F iq1 _ q1 mq1 _ => ?_) (fun _ _ => ?_)
  · have mq1 := List.mem_of_getElem? mq1
    refine bk_setg 4 sc_law.nd (EvO.ev (eo_call h__law_numbers hr (by decide) ((cellAt script ((34 : Int) + q1)), [(9 : Int), (12 : Int), (4 : Int)]) nine_ok (ea_cons (ev_call h__law_cell_at hr (by decide) (script, ((34 : Int) + q1)) (by (try dsimp only); exact (by have := range_k mq1; omega)) (ea_cons (ev_v 0) (ea_cons (ev_add ev_int (ev_v 2)) ea_nil))) (ea_cons (EvO.ev (eo_lst (r := rInt) (as := [(9 : Int), (12 : Int), (4 : Int)]) (ea_cons ev_int (ea_cons ev_int (ea_cons ev_int ea_nil))) (by simp))) ea_nil)))) (fun v__law_digits h__law_digits => ?_)
    try dsimp only at h__law_digits
    refine bk_setg 5 sc_law.nd (ev_call h__law_share hr (by decide) ((if decide ((v__law_digits.getD ((2 : Int)).toNat 0) < (3 : Int)) = true then (v__law_digits.getD ((0 : Int)).toNat 0) else (0 : Int)), ((1 : Int) + (v__law_digits.getD ((1 : Int)).toNat 0))) (by (try dsimp only); exact (by rw [h__law_digits]; have := dig_ok (cellAt script (34 + q1)); omega)) (ea_cons (ev_ifE (et_lt (ev_at (r := rInt) (as := v__law_digits) (i := (2 : Int)) (d := 0) (by rw [h__law_digits]; exact dig_ix) (ev_v 4) ev_int) ev_int) (fun q2 => (ev_at (r := rInt) (as := v__law_digits) (i := (0 : Int)) (d := 0) (by rw [h__law_digits]; exact dig_ix) (ev_v 4) ev_int)) (fun q2 => ev_int)) (ea_cons (ev_add ev_int (ev_at (r := rInt) (as := v__law_digits) (i := (1 : Int)) (d := 0) (by rw [h__law_digits]; exact dig_ix) (ev_v 4) ev_int)) ea_nil))) (fun v__law_off h__law_off => ?_)
    try dsimp only at h__law_off
    refine bk_if (p := ((!(true)) || (!decide (((fewL (cutL v__law_shares_here none (some (8 : Int))) v__law_off).length : Int) = (fewestL (cutL v__law_shares_here none (some (8 : Int))) v__law_off))))) (et_bool (ew_or (et_not (et_val (ev_call h__law_right hr (by decide) (v__law_shares_here, v__law_off) (by (try dsimp only); exact ⟨by rw [h__law_shares_here]; exact h7.1, by rw [h__law_off, h__law_digits]; exact off_ok _, by rw [h__law_shares_here]; omega⟩) (ea_cons (ev_v 1) (ea_cons (ev_v 5) ea_nil))))) (fun q3 => (ew_or1 (et_neI (ev_lenB (EvO.bor (eo_call h_few hr (by decide) ((cutL v__law_shares_here none (some (8 : Int))), v__law_off) (by (try dsimp only); exact ⟨by rw [h__law_shares_here, cut8]; exact h7.1.take (by decide), by rw [h__law_off, h__law_digits]; exact off_ok _, by rw [h__law_shares_here, cut8, List.length_take]; omega⟩) (ea_cons (EvO.ev (eo_to (Ev.bor (ev_v 1)) ev_int)) (ea_cons (ev_v 5) ea_nil)))) T.f_len) (ev_call h__law_fewest hr (by decide) ((cutL v__law_shares_here none (some (8 : Int))), v__law_off) (by (try dsimp only); exact ⟨by rw [h__law_shares_here, cut8]; exact (h7.1.take (by decide)).sm, by rw [h__law_off, h__law_digits]; exact off_ok _, by rw [cut8, List.length_take]; omega⟩) (ea_cons (EvO.ev (eo_to (Ev.bor (ev_v 1)) ev_int)) (ea_cons (ev_v 5) ea_nil)))))))) (fun c_1 => ?_) (fun c_1 => ?_)
    · exact bk_ret (x := false) ev_bool (hret.eq (absurd c_1 (by rw [h__law_shares_here, cut8, fewest_few (h7.1.take (by decide)) (by rw [h__law_off, h__law_digits]; exact off_ok _)]; simp)))
    · refine bk_then ?_
      exact bk_end fun G H σ h => ⟨(), trivial, G, (Holds.forget 5 (Holds.forget 4 (Holds.forget 2 h)))⟩
  · refine bk_setLm 3 [("_law_k", 2)] sc_law.nd (ei_range1 (n := (301 : Int)) ev_int (by decide) T.f_range) (blkOk_by (N := ["_law_script", "_law_shares_here", "_law_k", "_law_long", "_law_digits", "_law_off"]) (sc := defScope s_law) (by decide +kernel)) (fun _ => (tg_name 2 sc_law.nd)) (fun _ q4 q5 => (ev_call h__law_share hr (by decide) (q4, (300 : Int)) (by (try dsimp only); exact (by decide)) (ea_cons (ev_v 2) (ea_cons ev_int ea_nil)))) (by simp [rangeL]) ?_
    refine bk_if (p := ((!(true)) || (!(true)))) (et_bool (ew_or (et_not (et_val (ev_call h__law_right hr (by decide) (((rangeL 0 ((301 : Int)).toNat).map (fun q4 : Int => (share q4 (300 : Int)))), ((0 : Int), (1 : Int))) ⟨hlong, OffLit, by simp [rangeL]⟩ (ea_cons (ev_v 3) (ea_cons (ev_tup2 (ea_cons ev_int (ea_cons ev_int ea_nil))) ea_nil))))) (fun q6 => (ew_or1 (et_not (et_val (ev_call h__law_right hr (by decide) (((rangeL 0 ((301 : Int)).toNat).map (fun q4 : Int => (share q4 (300 : Int)))), (share ((1 : Int) + ((cellAt script (37 : Int)) % (20 : Int))) (300 : Int))) (by (try dsimp only); exact ⟨hlong, share_off (by decide) (by decide) (by omega) (by omega), by simp [rangeL]⟩) (ea_cons (ev_v 3) (ea_cons (ev_call h__law_share hr (by decide) (((1 : Int) + ((cellAt script (37 : Int)) % (20 : Int))), (300 : Int)) (by (try dsimp only); exact (by decide)) (ea_cons (ev_add ev_int (ev_mod (i := (cellAt script (37 : Int))) (j := (20 : Int)) (by decide) (ev_call h__law_cell_at hr (by decide) (script, (37 : Int)) (by (try dsimp only); exact (by first | decide | omega | assumption | (simp [rangeL]; done) | (simp; omega))) (ea_cons (ev_v 0) (ea_cons ev_int ea_nil))) ev_int)) (ea_cons ev_int ea_nil))) ea_nil))))))))) (fun c_2 => ?_) (fun c_2 => ?_)
    · exact bk_ret (x := false) ev_bool (hret.eq (absurd c_2 (by simp)))
    · refine bk_then ?_
      exact bk_ret (x := ((true) && ((PyData.eqv (pdInts (fewL v__law_shares_here ((1 : Int), (1 : Int)))) (pdInts [(0 : Int)])) && (PyData.eqv (pdInts (fewL v__law_shares_here ((7 : Int), (2 : Int)))) (pdInts [(0 : Int)]))))) (ev_and (ev_call h__law_right hr (by decide) (v__law_shares_here, ((0 : Int), (1 : Int))) (by (try dsimp only); exact ⟨by rw [h__law_shares_here]; exact h7.1, OffLit, by rw [h__law_shares_here]; omega⟩) (ea_cons (ev_v 1) (ea_cons (ev_tup2 (ea_cons ev_int (ea_cons ev_int ea_nil))) ea_nil))) (fun q7 => (ev_and (ev_eqD hr eqv_ints eqv_ints (EvO.ev (eo_call h_few hr (by decide) (v__law_shares_here, ((1 : Int), (1 : Int))) (by (try dsimp only); exact ⟨by rw [h__law_shares_here]; exact h7.1, OffLit, by rw [h__law_shares_here]; omega⟩) (ea_cons (ev_v 1) (ea_cons (ev_tup2 (ea_cons ev_int (ea_cons ev_int ea_nil))) ea_nil)))) (EvO.ev (eo_lst (r := rInt) (as := [(0 : Int)]) (ea_cons ev_int ea_nil) (by simp)))) (fun q8 => (ev_one (ev_eqD hr eqv_ints eqv_ints (EvO.ev (eo_call h_few hr (by decide) (v__law_shares_here, ((7 : Int), (2 : Int))) (by (try dsimp only); exact ⟨by rw [h__law_shares_here]; exact h7.1, OffLit, by rw [h__law_shares_here]; omega⟩) (ea_cons (ev_v 1) (ea_cons (ev_tup2 (ea_cons ev_int (ea_cons ev_int ea_nil))) ea_nil)))) (EvO.ev (eo_lst (r := rInt) (as := [(0 : Int)]) (ea_cons ev_int ea_nil) (by simp))))))))) (hret.eq (by rw [h__law_shares_here, few_none h7.1 (OffLit) (by decide), few_none h7.1 (OffLit) (by decide), pdInts_eqv]; simp))
end
end Hf


set_option maxHeartbeats 0
namespace Hd
open PySem PySem.Spec PyProof.Rows L2 PySem.W PySem.Calls Hf
def d_common : He.DefD := ⟨("common", none), "common", "common", defArgs s_common, defBody s_common, defScope s_common, [], []⟩
def d_share : He.DefD := ⟨("share", none), "share", "share", defArgs s_share, defBody s_share, defScope s_share, [], []⟩
def d_plus : He.DefD := ⟨("plus", none), "plus", "plus", defArgs s_plus, defBody s_plus, defScope s_plus, [], []⟩
def d_is_more : He.DefD := ⟨("is_more", none), "is_more", "is_more", defArgs s_is_more, defBody s_is_more, defScope s_is_more, [], []⟩
def d_is_share : He.DefD := ⟨("is_share", none), "is_share", "is_share", defArgs s_is_share, defBody s_is_share, defScope s_is_share, [], []⟩
def d_is_part : He.DefD := ⟨("is_part", none), "is_part", "is_part", defArgs s_is_part, defBody s_is_part, defScope s_is_part, [], []⟩
def d_few : He.DefD := ⟨("few", none), "few", "few", defArgs s_few, defBody s_few, defScope s_few, [], []⟩
def d__law_cell_at : He.DefD := ⟨("_law_cell_at", none), "_law_cell_at", "_law_cell_at", defArgs s__law_cell_at, defBody s__law_cell_at, defScope s__law_cell_at, [], []⟩
def d__law_numbers : He.DefD := ⟨("_law_numbers", none), "_law_numbers", "_law_numbers", defArgs s__law_numbers, defBody s__law_numbers, defScope s__law_numbers, [], []⟩
def d__law_share : He.DefD := ⟨("_law_share", none), "_law_share", "_law_share", defArgs s__law_share, defBody s__law_share, defScope s__law_share, [], []⟩
def d__law_shares : He.DefD := ⟨("_law_shares", none), "_law_shares", "_law_shares", defArgs s__law_shares, defBody s__law_shares, defScope s__law_shares, [], []⟩
def d__law_is_off : He.DefD := ⟨("_law_is_off", none), "_law_is_off", "_law_is_off", defArgs s__law_is_off, defBody s__law_is_off, defScope s__law_is_off, [], []⟩
def d__law_shows : He.DefD := ⟨("_law_shows", none), "_law_shows", "_law_shows", defArgs s__law_shows, defBody s__law_shows, defScope s__law_shows, [], []⟩
def d__law_fewest : He.DefD := ⟨("_law_fewest", none), "_law_fewest", "_law_fewest", defArgs s__law_fewest, defBody s__law_fewest, defScope s__law_fewest, [], []⟩
def d__law_right : He.DefD := ⟨("_law_right", none), "_law_right", "_law_right", defArgs s__law_right, defBody s__law_right, defScope s__law_right, [], []⟩
def d_law : He.DefD := ⟨("law", none), "law", "law", defArgs s_law, defBody s_law, defScope s_law, [], []⟩
def fn : List He.DefD := [d_common, d_share, d_plus, d_is_more, d_is_share, d_is_part, d_few, d__law_cell_at, d__law_numbers, d__law_share, d__law_shares, d__law_is_off, d__law_shows, d__law_fewest, d__law_right, d_law]
def fa : List He.Fa := [.glo "common", .glo "share", .glo "plus", .glo "is_more", .glo "is_share", .glo "is_part", .glo "few", .glo "_law_cell_at", .glo "_law_numbers", .glo "_law_share", .glo "_law_shares", .glo "_law_is_off", .glo "_law_shows", .glo "_law_fewest", .glo "_law_right", .glo "law", .free "len", .free "abs", .free "all", .free "any", .free "isinstance", .free "tuple", .free "list", .free "int", .free "bool", .free "range", .free "max", .free "min", .free "sorted", .free "set", .free "enumerate", .glo "WHOLE"]
abbrev R : PySem.W.OpenRow := PySem.W.OpenLaw.row PySem.Challenge.rw_howfar_k07_whole_few
def ts : List He.Tab := []
def ex (K : PySem.W.Frag) : Bool := He.tupB K "WHOLE" [.int 1, .int 1]
abbrev hk : PySem.W.Hook := He.hookX 6 fa fn ts [] ex
def ob (s : PySem.W.SharedT) : He.AlX := He.obsX 6 fa fn ts [] ex (HandSHeadRun.getT s)
theorem ob_eq (s : PySem.W.SharedT) : ob s = hk.obs s.abs := He.obsX_eq (HandSHeadRun.getT_eq s)
def names0 : List PySem.Str := ["FarError", "BadShares", "WHOLE", "common", "share", "plus", "is_more", "is_share", "is_part", "few", "_law_cell_at", "_law_numbers", "_law_share", "_law_shares", "_law_is_off", "_law_shows"]
def names1 : List PySem.Str := ["_law_fewest", "_law_right"]
def names : List PySem.Str := names0 ++ names1
theorem run (w : World) : HandSHeadRun.RunEq R (PySem.W.view R.prog [22]) hk ob 20000 names w := by
  intro os
  kernel_rfl
theorem facts {P : Program} {w : World} {K : PySem.W.Frag} {h : Heap} {mg : Str → Option Value} {f : Addr} (X : K.In h) (G : h.Ns mainGlobals mg) (hfa : mg ("law" : Str) = some (.ref f)) (c : He.SaysX fa fn ts [] ex w h K) :
    ∃ fd : FuncData, (∀ (s : Shared) (v : Value), BindsTo s fd ⟨[v], []⟩ [("_law_script", v)]) ∧ ∀ base : Heap, K.In base → base.Ns mainGlobals mg → FnOk P w K mg base CX0 7 f fd ["_law_script"] (sp_law K) := by
  obtain ⟨fd_common, F_common⟩ := c.t.d.def_ 0 (d := d_common) rfl
  obtain ⟨fd_share, F_share⟩ := c.t.d.def_ 1 (d := d_share) rfl
  obtain ⟨fd_plus, F_plus⟩ := c.t.d.def_ 2 (d := d_plus) rfl
  obtain ⟨fd_is_more, F_is_more⟩ := c.t.d.def_ 3 (d := d_is_more) rfl
  obtain ⟨fd_is_share, F_is_share⟩ := c.t.d.def_ 4 (d := d_is_share) rfl
  obtain ⟨fd_is_part, F_is_part⟩ := c.t.d.def_ 5 (d := d_is_part) rfl
  obtain ⟨fd_few, F_few⟩ := c.t.d.def_ 6 (d := d_few) rfl
  obtain ⟨fd__law_cell_at, F__law_cell_at⟩ := c.t.d.def_ 7 (d := d__law_cell_at) rfl
  obtain ⟨fd__law_numbers, F__law_numbers⟩ := c.t.d.def_ 8 (d := d__law_numbers) rfl
  obtain ⟨fd__law_share, F__law_share⟩ := c.t.d.def_ 9 (d := d__law_share) rfl
  obtain ⟨fd__law_shares, F__law_shares⟩ := c.t.d.def_ 10 (d := d__law_shares) rfl
  obtain ⟨fd__law_is_off, F__law_is_off⟩ := c.t.d.def_ 11 (d := d__law_is_off) rfl
  obtain ⟨fd__law_shows, F__law_shows⟩ := c.t.d.def_ 12 (d := d__law_shows) rfl
  obtain ⟨fd__law_fewest, F__law_fewest⟩ := c.t.d.def_ 13 (d := d__law_fewest) rfl
  obtain ⟨fd__law_right, F__law_right⟩ := c.t.d.def_ 14 (d := d__law_right) rfl
  obtain ⟨fd_law, F_law⟩ := c.t.d.def_ 15 (d := d_law) rfl
  have a0 := c.t.d.fact 0 (f := .glo "common") rfl
  have a1 := c.t.d.fact 1 (f := .glo "share") rfl
  have a2 := c.t.d.fact 2 (f := .glo "plus") rfl
  have a3 := c.t.d.fact 3 (f := .glo "is_more") rfl
  have a4 := c.t.d.fact 4 (f := .glo "is_share") rfl
  have a5 := c.t.d.fact 5 (f := .glo "is_part") rfl
  have a6 := c.t.d.fact 6 (f := .glo "few") rfl
  have a7 := c.t.d.fact 7 (f := .glo "_law_cell_at") rfl
  have a8 := c.t.d.fact 8 (f := .glo "_law_numbers") rfl
  have a9 := c.t.d.fact 9 (f := .glo "_law_share") rfl
  have a10 := c.t.d.fact 10 (f := .glo "_law_shares") rfl
  have a11 := c.t.d.fact 11 (f := .glo "_law_is_off") rfl
  have a12 := c.t.d.fact 12 (f := .glo "_law_shows") rfl
  have a13 := c.t.d.fact 13 (f := .glo "_law_fewest") rfl
  have a14 := c.t.d.fact 14 (f := .glo "_law_right") rfl
  have a15 := c.t.d.fact 15 (f := .glo "law") rfl
  have a16 := c.t.d.fact 16 (f := .free "len") rfl
  have a17 := c.t.d.fact 17 (f := .free "abs") rfl
  have a18 := c.t.d.fact 18 (f := .free "all") rfl
  have a19 := c.t.d.fact 19 (f := .free "any") rfl
  have a20 := c.t.d.fact 20 (f := .free "isinstance") rfl
  have a21 := c.t.d.fact 21 (f := .free "tuple") rfl
  have a22 := c.t.d.fact 22 (f := .free "list") rfl
  have a23 := c.t.d.fact 23 (f := .free "int") rfl
  have a24 := c.t.d.fact 24 (f := .free "bool") rfl
  have a25 := c.t.d.fact 25 (f := .free "range") rfl
  have a26 := c.t.d.fact 26 (f := .free "max") rfl
  have a27 := c.t.d.fact 27 (f := .free "min") rfl
  have a28 := c.t.d.fact 28 (f := .free "sorted") rfl
  have a29 := c.t.d.fact 29 (f := .free "set") rfl
  have a30 := c.t.d.fact 30 (f := .free "enumerate") rfl
  have a31 := c.t.d.fact 31 (f := .glo "WHOLE") rfl
  have T : Facts K mg := { f_len := He.free_ok X G a16, f_abs := He.free_ok X G a17, f_all := He.free_ok X G a18, f_any := He.free_ok X G a19, f_isinstance := He.free_ok X G a20, f_tuple := He.free_ok X G a21, f_list := He.free_ok X G a22, f_int := He.free_ok X G a23, f_bool := He.free_ok X G a24, f_range := He.free_ok X G a25, f_max := He.free_ok X G a26, f_min := He.free_ok X G a27, f_sorted := He.free_ok X G a28, f_set := He.free_ok X G a29, f_enumerate := He.free_ok X G a30, g_WHOLE := ⟨_, He.glo_ok X G a31, fun G => ⟨_, _, _, rfl, He.tupB_ok c.more G, rfl, rfl⟩⟩ }
  have e := hfa.symm.trans (He.glo_ok X G a15)
  cases e
  have b := FunD.bindsA (ps := ["_law_script"]) F_law fun _ _ _ _ _ _ us hl => match us, hl with | [_], _ => rfl
  refine ⟨fd_law, fun s v => b s [v] rfl, fun base _ _ => ?_⟩
  have o_common := ok_common (P := P) (w := w) (base := base) F_common T
  have h_common : Has P w K mg base "common" 1 (sp_common K) := Has.mk0 (He.glo_ok X G a0) F_common.kp (FunD.bindsN F_common fun _ _ _ _ _ _ us hl => match us, hl with | [_, _], _ => rfl) o_common
  have o_share := ok_share (P := P) (w := w) (base := base) F_share T h_common
  have h_share : Has P w K mg base "share" 2 (sp_share K) := Has.mk0 (He.glo_ok X G a1) F_share.kp (FunD.bindsN F_share fun _ _ _ _ _ _ us hl => match us, hl with | [_, _], _ => rfl) o_share
  have o_plus := ok_plus (P := P) (w := w) (base := base) F_plus T h_share
  have h_plus : Has P w K mg base "plus" 3 (sp_plus K) := Has.mk0 (He.glo_ok X G a2) F_plus.kp (FunD.bindsN F_plus fun _ _ _ _ _ _ us hl => match us, hl with | [_, _], _ => rfl) o_plus
  have o_is_more := ok_is_more (P := P) (w := w) (base := base) F_is_more T
  have h_is_more : Has P w K mg base "is_more" 1 (sp_is_more K) := Has.mk0 (He.glo_ok X G a3) F_is_more.kp (FunD.bindsN F_is_more fun _ _ _ _ _ _ us hl => match us, hl with | [_, _], _ => rfl) o_is_more
  have o_is_share := ok_is_share (P := P) (w := w) (base := base) F_is_share T h_share
  have h_is_share : Has P w K mg base "is_share" 3 (sp_is_share K) := Has.mk0 (He.glo_ok X G a4) F_is_share.kp (FunD.bindsN F_is_share fun _ _ _ _ _ _ us hl => match us, hl with | [_], _ => rfl) o_is_share
  have o_is_part := ok_is_part (P := P) (w := w) (base := base) F_is_part T h_is_more h_is_share
  have h_is_part : Has P w K mg base "is_part" 4 (sp_is_part K) := Has.mk0 (He.glo_ok X G a5) F_is_part.kp (FunD.bindsN F_is_part fun _ _ _ _ _ _ us hl => match us, hl with | [_], _ => rfl) o_is_part
  have o_few := ok_few (P := P) (w := w) (base := base) F_few T h_plus h_is_more h_is_share h_is_part
  have h_few : Has P w K mg base "few" 5 (sp_few K) := Has.mk0 (He.glo_ok X G a6) F_few.kp (FunD.bindsN F_few fun _ _ _ _ _ _ us hl => match us, hl with | [_, _], _ => rfl) o_few
  have o__law_cell_at := ok__law_cell_at (P := P) (w := w) (base := base) F__law_cell_at T
  have h__law_cell_at : Has P w K mg base "_law_cell_at" 1 (sp__law_cell_at K) := Has.mk0 (He.glo_ok X G a7) F__law_cell_at.kp (FunD.bindsN F__law_cell_at fun _ _ _ _ _ _ us hl => match us, hl with | [_, _], _ => rfl) o__law_cell_at
  have o__law_numbers := ok__law_numbers (P := P) (w := w) (base := base) F__law_numbers T
  have h__law_numbers : Has P w K mg base "_law_numbers" 1 (sp__law_numbers K) := Has.mk0 (He.glo_ok X G a8) F__law_numbers.kp (FunD.bindsN F__law_numbers fun _ _ _ _ _ _ us hl => match us, hl with | [_, _], _ => rfl) o__law_numbers
  have o__law_share := ok__law_share (P := P) (w := w) (base := base) F__law_share T
  have h__law_share : Has P w K mg base "_law_share" 1 (sp__law_share K) := Has.mk0 (He.glo_ok X G a9) F__law_share.kp (FunD.bindsN F__law_share fun _ _ _ _ _ _ us hl => match us, hl with | [_, _], _ => rfl) o__law_share
  have o__law_shares := ok__law_shares (P := P) (w := w) (base := base) F__law_shares T h__law_cell_at h__law_share
  have h__law_shares : Has P w K mg base "_law_shares" 2 (sp__law_shares K) := Has.mk0 (He.glo_ok X G a10) F__law_shares.kp (FunD.bindsN F__law_shares fun _ _ _ _ _ _ us hl => match us, hl with | [_], _ => rfl) o__law_shares
  have o__law_is_off := ok__law_is_off (P := P) (w := w) (base := base) F__law_is_off T
  have h__law_is_off : Has P w K mg base "_law_is_off" 1 (sp__law_is_off K) := Has.mk0 (He.glo_ok X G a11) F__law_is_off.kp (FunD.bindsN F__law_is_off fun _ _ _ _ _ _ us hl => match us, hl with | [_, _, _], _ => rfl) o__law_is_off
  have o__law_shows := ok__law_shows (P := P) (w := w) (base := base) F__law_shows T h__law_is_off
  have h__law_shows : Has P w K mg base "_law_shows" 2 (sp__law_shows K) := Has.mk0 (He.glo_ok X G a12) F__law_shows.kp (FunD.bindsN F__law_shows fun _ _ _ _ _ _ us hl => match us, hl with | [_, _, _], _ => rfl) o__law_shows
  have o__law_fewest := ok__law_fewest (P := P) (w := w) (base := base) F__law_fewest T h__law_shows
  have h__law_fewest : Has P w K mg base "_law_fewest" 3 (sp__law_fewest K) := Has.mk0 (He.glo_ok X G a13) F__law_fewest.kp (FunD.bindsN F__law_fewest fun _ _ _ _ _ _ us hl => match us, hl with | [_, _], _ => rfl) o__law_fewest
  have o__law_right := ok__law_right (P := P) (w := w) (base := base) F__law_right T h_few h__law_is_off h__law_shows
  have h__law_right : Has P w K mg base "_law_right" 6 (sp__law_right K) := Has.mk0 (He.glo_ok X G a14) F__law_right.kp (FunD.bindsN F__law_right fun _ _ _ _ _ _ us hl => match us, hl with | [_, _], _ => rfl) o__law_right
  have o_law := ok_law (P := P) (w := w) (base := base) F_law T h_few h__law_cell_at h__law_numbers h__law_share h__law_shares h__law_fewest h__law_right
  exact fn_quiet o_law fun vs H Q E E' z => z
end Hd
open PySem PySem.W PySem.Calls PyProof.Rows
set_option maxRecDepth 100000 in
set_option maxHeartbeats 0 in
theorem PySem.Challenge.cw_howfar_k07_whole_few_holds : PySem.Challenge.rw_howfar_k07_whole_few.Holds := by
  w_on; o_law
  refine HandSHeadRun.head_any (r := OpenLaw.row PySem.Challenge.rw_howfar_k07_whole_few) (q := view (OpenLaw.row PySem.Challenge.rw_howfar_k07_whole_few).prog [22]) (H := Hd.hk) (ob := Hd.ob) (M := 20000) (loose := Hd.names) (d := HandSHeadRun.topDef (OpenLaw.row PySem.Challenge.rw_howfar_k07_whole_few).prog 22) (kwd := []) Hd.ob_eq
    (by kernel_rfl) (fun s => by kernel_rfl) Hd.run (by kernel_rfl) (by kernel_rfl) (by kernel_rfl) (by rfl) (by first | assumption | decide +kernel) (by decide +kernel) ⟨rfl, rfl, rfl, rfl, rfl, by decide +kernel⟩ ?hw ?hc
  case hw => w_witness2
  case hc =>
    refine L2.walk_ofE (l := PySem.Challenge.rw_howfar_k07_whole_few) (n := 63) (k := 7) (x := "_law_script") (CX := L2.CX0) rfl (by decide) (by kernel_rfl) ⟨rfl, by decide, by decide⟩ ?F (fun _ _ _ _ z => z)
    intro w mg fa h Y G hmg0
    obtain ⟨K, KX, c⟩ := Y
    have hmg : mg ("law" : PySem.Str) = some (.ref fa) := by
      have e : (HandSHeadRun.topDef (OpenLaw.row PySem.Challenge.rw_howfar_k07_whole_few).prog 22).name = ("law" : PySem.Str) := by kernel_rfl
      rw [← e]
      exact hmg0
    obtain ⟨fd, hb, hF⟩ := Hd.facts (P := (PySem.Challenge.rw_howfar_k07_whole_few).prog) (w := w) KX G hmg c
    exact ⟨K, fd, Hf.sp_law K, KX, hb, fun H a ns hl _ hS => ⟨ns, H, hl, fun _ _ z => z, ⟨⟨a, _, rfl, hS, Hf.all2_ofInt ns⟩, trivial⟩, fun v G' H' _ hv => hv⟩, hF⟩


