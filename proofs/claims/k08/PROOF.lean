import PyProof.Rows.All
import Wide.All
import OpenK.AllK
import Wide.FinOn
import HandS.ForMost
import HandS.ForExc
import HandS.IsInst
import HandS.Evl
import HandS.Wide
import HandS.Defaults
import HandS.Text
import PySem.Challenge.RW_howfar_k08_whole_shown
import KE.KStateDown
import Lean
import HandS.Head0
import HandS.Head1
import HandS.Head2
import HandS.HeadEnd
import HandS.HeadHook1
import HandS.HeadHook2
import HandS.HeadHook3
import HandS.HeadHook4
set_option Elab.async false
set_option linter.all false
set_option maxRecDepth 100000
/-! Hf: typed data over the abstract heap: what a value stands for, in a part of the heap that never changes; wp rules for expressions and statements over typed slots. -/
namespace Hf
open PySem PySem.Spec PyProof.Rows L2

abbrev Ex := Evl.Ex

/-- what a value stands for, by the frozen part of the heap -/
structure Rp (α : Type) where
  rel : Hp → V → α → Prop
  mono : ∀ {G G' : Hp} {v : V} {a : α}, Ex G G' → rel G v a → rel G' v a

def rInt : Rp Int := ⟨fun _ v i => v = .int i, fun _ h => h⟩
def rBool : Rp Bool := ⟨fun _ v i => v = .bl i, fun _ h => h⟩
def rStr : Rp Str := ⟨fun _ v i => v = .str i, fun _ h => h⟩
def rNon : Rp Unit := ⟨fun _ v _ => v = .non, fun _ h => h⟩
/-- any value, told as it is -/
def rV : Rp V := ⟨fun _ v w => v = w, fun _ h => h⟩
def rOpt {α : Type} (r : Rp α) : Rp (Option α) := ⟨fun G v o => match o with
  | none => v = .non
  | some a => r.rel G v a, fun {G G' v a} e h => by
    cases a with
    | none => exact h
    | some a => exact r.mono e h⟩
/-- items one by one -/
inductive All2 {α : Type} (r : Rp α) (G : Hp) : List V → List α → Prop
  | nil : All2 r G [] []
  | cons {v : V} {vs : List V} {a : α} {as : List α} : r.rel G v a → All2 r G vs as → All2 r G (v :: vs) (a :: as)
section
variable {α : Type} {r : Rp α} {G G' : Hp}
theorem All2.mono (e : Ex G G') : ∀ {vs : List V} {as : List α}, All2 r G vs as → All2 r G' vs as
  | _, _, .nil => .nil
  | _, _, .cons h t => .cons (r.mono e h) (All2.mono e t)
theorem All2.length : ∀ {vs : List V} {as : List α}, All2 r G vs as → vs.length = as.length
  | _, _, .nil => rfl
  | _, _, .cons _ t => congrArg (· + 1) (All2.length t)
theorem All2.get : ∀ {vs : List V} {as : List α} {i : Nat} {a : α}, All2 r G vs as → as[i]? = some a → ∃ v, vs[i]? = some v ∧ r.rel G v a
  | _, _, i, a, .nil, e => by cases e
  | _, _, 0, a, .cons h _, e => ⟨_, rfl, by cases e; exact h⟩
  | _, _, i + 1, a, .cons _ t, e => All2.get (i := i) t e
theorem All2.getV : ∀ {vs : List V} {as : List α} {i : Nat} {v : V}, All2 r G vs as → vs[i]? = some v → ∃ a, as[i]? = some a ∧ r.rel G v a
  | _, _, i, a, .nil, e => by cases e
  | _, _, 0, a, .cons h _, e => ⟨_, rfl, by cases e; exact h⟩
  | _, _, i + 1, a, .cons _ t, e => All2.getV (i := i) t e
theorem All2.append : ∀ {vs ws : List V} {as bs : List α}, All2 r G vs as → All2 r G ws bs → All2 r G (vs ++ ws) (as ++ bs)
  | _, _, _, _, .nil, h => h
  | _, _, _, _, .cons h t, k => .cons h (All2.append t k)
theorem All2.one {v : V} {a : α} (h : r.rel G v a) : All2 r G [v] [a] := .cons h .nil
theorem All2.drop : ∀ {vs : List V} {as : List α} (n : Nat), All2 r G vs as → All2 r G (vs.drop n) (as.drop n)
  | _, _, 0, h => h
  | _, _, _ + 1, .nil => .nil
  | _, _, n + 1, .cons _ t => All2.drop n t
theorem All2.take : ∀ {vs : List V} {as : List α} (n : Nat), All2 r G vs as → All2 r G (vs.take n) (as.take n)
  | _, _, 0, _ => .nil
  | _, _, _ + 1, .nil => .nil
  | _, _, n + 1, .cons h t => .cons h (All2.take n t)
theorem All2.set {v : V} {a : α} (h : r.rel G v a) : ∀ {vs : List V} {as : List α} (n : Nat), All2 r G vs as → All2 r G (vs.set n v) (as.set n a)
  | _, _, _, .nil => .nil
  | _, _, 0, .cons _ t => .cons h t
  | _, _, n + 1, .cons k t => .cons k (All2.set h n t)
theorem All2.reverse : ∀ {vs : List V} {as : List α}, All2 r G vs as → All2 r G vs.reverse as.reverse
  | _, _, .nil => .nil
  | _, _, .cons h t => by
    rw [List.reverse_cons, List.reverse_cons]
    exact (All2.reverse t).append (.one h)
theorem all2_int : ∀ {vs : List V} {as : List Int}, All2 rInt G vs as → vs = as.map V.int
  | _, _, .nil => rfl
  | _, _, .cons h t => by rw [h, all2_int t]; rfl
theorem all2_bool : ∀ {vs : List V} {as : List Bool}, All2 rBool G vs as → vs = as.map V.bl
  | _, _, .nil => rfl
  | _, _, .cons h t => by rw [h, all2_bool t]; rfl
theorem all2_str : ∀ {vs : List V} {as : List Str}, All2 rStr G vs as → vs = as.map V.str
  | _, _, .nil => rfl
  | _, _, .cons h t => by rw [h, all2_str t]; rfl
theorem all2_ofInt : ∀ (as : List Int), All2 rInt G (as.map V.int) as
  | [] => .nil
  | _ :: r => .cons rfl (all2_ofInt r)
theorem all2_ofStr : ∀ (as : List Str), All2 rStr G (as.map V.str) as
  | [] => .nil
  | _ :: r => .cons rfl (all2_ofStr r)
end
/-- a list of the frozen part -/
def rLst {α : Type} (r : Rp α) : Rp (List α) := ⟨fun G v as => ∃ p vs, v = .ref p ∧ G p = some (.lst vs) ∧ All2 r G vs as, fun {G G' v a} e ⟨p, vs, h1, h2, h3⟩ => ⟨p, vs, h1, e _ _ h2, h3.mono e⟩⟩
/-- a list that may be the script or of the written part: read only -/
def rSeq (K : PySem.W.Frag) {α : Type} (r : Rp α) : Rp (List α) := ⟨fun G v as => ∃ p vs, v = .ref p ∧ SqL K G p vs ∧ All2 r G vs as, fun {G G' v a} e ⟨p, vs, h1, h2, h3⟩ => ⟨p, vs, h1, Evl.ex_l e h2, h3.mono e⟩⟩
/-- tuples -/
def rT2 (K : PySem.W.Frag) {α β : Type} (r : Rp α) (s : Rp β) : Rp (α × β) := ⟨fun G v a => ∃ p x y, v = .ref p ∧ SqT K G p [x, y] ∧ r.rel G x a.1 ∧ s.rel G y a.2, fun {G G' v a} e ⟨p, x, y, h1, h2, h3, h4⟩ => ⟨p, x, y, h1, Evl.ex_t e h2, r.mono e h3, s.mono e h4⟩⟩
def rT3 (K : PySem.W.Frag) {α β γ : Type} (r : Rp α) (s : Rp β) (t : Rp γ) : Rp (α × β × γ) := ⟨fun G v a => ∃ p x y z, v = .ref p ∧ SqT K G p [x, y, z] ∧ r.rel G x a.1 ∧ s.rel G y a.2.1 ∧ t.rel G z a.2.2, fun {G G' v a} e ⟨p, x, y, z, h1, h2, h3, h4, h5⟩ => ⟨p, x, y, z, h1, Evl.ex_t e h2, r.mono e h3, s.mono e h4, t.mono e h5⟩⟩

/-! ### steps of the two heaps -/
/-- from (G, H) to (G', H'): what is frozen stays, all that was tracked stays; what is frozen anew is new -/
structure Le (G H G' H' : Hp) : Prop where
  g : Ex G G'
  h : Ex H H'
  gh : Ex G' H'
  new : ∀ a o, G' a = some o → G a = none → H a = none
theorem Le.refl {G H : Hp} (e : Ex G H) : Le G H G H := ⟨Evl.Ex.refl _, Evl.Ex.refl _, e, fun a o h1 h2 => by rw [h1] at h2; cases h2⟩
theorem Le.trans {G H G1 H1 G2 H2 : Hp} (a : Le G H G1 H1) (b : Le G1 H1 G2 H2) : Le G H G2 H2 :=
  ⟨a.g.trans b.g, a.h.trans b.h, b.gh, fun x o h1 h2 => by
    cases q : G1 x with
    | some u => exact a.new x u q h2
    | none => exact Evl.fresh_back a.h (b.new x o h1 q)⟩
/-- a new frozen object -/
theorem Le.add {G H G1 H1 : Hp} (a : Le G H G1 H1) {p : Addr} {o : HO} (n : H1 p = none) : Le G H (upd G1 p o) (upd H1 p o) :=
  have n1 : G1 p = none := Evl.fresh_back a.gh n
  ⟨a.g.trans (Evl.Ex.new n1), a.h.trans (Evl.Ex.new n), fun x u h => by
    by_cases e : x = p
    · subst e; rw [upd_same] at h ⊢; exact h
    · rw [upd_ne e] at h ⊢; exact a.gh x u h, fun x u h1 h2 => by
    by_cases e : x = p
    · subst e; exact Evl.fresh_back a.h n
    · rw [upd_ne e] at h1; exact a.new x u h1 h2⟩
/-- a new object that may change -/
theorem Le.addO {G H G1 H1 : Hp} (a : Le G H G1 H1) {p : Addr} {o : HO} (n : H1 p = none) : Le G H G1 (upd H1 p o) :=
  ⟨a.g, a.h.trans (Evl.Ex.new n), a.gh.trans (Evl.Ex.new n), a.new⟩
/-- an object that may change is frozen -/
theorem Le.frz {G H G1 H1 : Hp} (a : Le G H G1 H1) {p : Addr} {o : HO} (hp : H1 p = some o) (n : H p = none) (g1 : G1 p = none) : Le G H (upd G1 p o) H1 :=
  ⟨a.g.trans (Evl.Ex.new g1), a.h, fun x u h => by
    by_cases e : x = p
    · subst e; rw [upd_same] at h; cases h; exact hp
    · rw [upd_ne e] at h; exact a.gh x u h, fun x u h1 h2 => by
    by_cases e : x = p
    · subst e; exact n
    · rw [upd_ne e] at h1; exact a.new x u h1 h2⟩

/-! ### slots -/
/-- what an object that may change holds, by the frozen part -/
structure Oc where
  rel : Hp → HO → Prop
  mono : ∀ {G G' : Hp} {o : HO}, Ex G G' → rel G o → rel G' o
def oLst {α : Type} (r : Rp α) (as : List α) : Oc := ⟨fun G o => ∃ vs, o = .lst vs ∧ All2 r G vs as, fun e ⟨vs, h1, h2⟩ => ⟨vs, h1, h2.mono e⟩⟩
inductive Slot : Type 1 where
  | no
  | sh {α : Type} (r : Rp α) (a : α)
  | ow (c : Oc)
/-- the entry: frozen part, heap, what may be changed of it; F: a frozen part that still stands -/
structure Ent where
  G : Hp
  H : Hp
  M : Addr → Prop := fun _ => False
  F : Hp := fun _ => none
structure LeE (G0 H0 : Hp) (M : Addr → Prop) (G H : Hp) : Prop where
  g : Ex G0 G
  h : ∀ a o, H0 a = some o → (¬ M a ∧ H a = some o) ∨ (M a ∧ ∃ u, H a = some u)
  gh : Ex G H
  new : ∀ a o, G a = some o → G0 a = none → H0 a = none
  m : ∀ a, M a → G0 a = none ∧ ∃ o, H0 a = some o
theorem LeE.step {G0 H0 : Hp} {M : Addr → Prop} {G H G' H' : Hp} (a : LeE G0 H0 M G H) (b : Le G H G' H') : LeE G0 H0 M G' H' := by
  refine ⟨a.g.trans b.g, fun x o e => ?_, b.gh, fun x o h1 h2 => ?_, a.m⟩
  · rcases a.h x o e with ⟨n, h⟩ | ⟨n, u, h⟩
    · exact .inl ⟨n, b.h _ _ h⟩
    · exact .inr ⟨n, u, b.h _ _ h⟩
  · cases q : G x with
    | some u => exact a.new x u q h2
    | none =>
      have z := b.new x o h1 q
      cases w : H0 x with
      | none => rfl
      | some u =>
        rcases a.h x u w with ⟨_, h⟩ | ⟨_, u, h⟩ <;> (rw [z] at h; cases h)
/-- nothing of the entry may change: a plain step -/
theorem LeE.le {G0 H0 : Hp} {M : Addr → Prop} {G H : Hp} (a : LeE G0 H0 M G H) (n : ∀ x, ¬ M x) : Le G0 H0 G H :=
  ⟨a.g, fun x o e => by
    rcases a.h x o e with ⟨_, h⟩ | ⟨m, _⟩
    · exact h
    · exact absurd m (n x), a.gh, a.new⟩
theorem LeE.fresh {G0 H0 : Hp} {M : Addr → Prop} {G H : Hp} (a : LeE G0 H0 M G H) {p : Addr} (n : H p = none) : H0 p = none := by
  cases w : H0 p with
  | none => rfl
  | some u =>
    rcases a.h p u w with ⟨_, h⟩ | ⟨_, u, h⟩ <;> (rw [n] at h; cases h)
theorem LeE.start {G H : Hp} (e : Ex G H) : LeE G H (fun _ => False) G H := ⟨.refl _, fun a o h => .inl ⟨fun q => q, h⟩, e, fun a o h1 h2 => (by rw [h1] at h2; cases h2), fun a q => False.elim q⟩
def Slot.ok (E : Ent) (G H : Hp) (x : Option (Option V)) : Slot → Prop
  | .no => True
  | .sh r a => ∃ v, x = some (some v) ∧ r.rel G v a
  | .ow c => ∃ p o, x = some (some (.ref p)) ∧ G p = none ∧ (E.M p ∨ E.H p = none) ∧ H p = some o ∧ c.rel G o
def Slot.isOw : Slot → Bool
  | .ow _ => true
  | _ => false
structure Holds (E : Ent) (G H : Hp) (σ : L2.St) (Γ : List Slot) : Prop where
  le : LeE E.G E.H E.M G H
  fl : Ex E.F G
  len : σ.length = Γ.length
  ok : ∀ (i : Nat) (s : Slot), Γ[i]? = some s → s.ok E G H σ[i]?
  sep : ∀ (i j : Nat) (s t : Slot), Γ[i]? = some s → Γ[j]? = some t → s.isOw = true → t.isOw = true → σ[i]? = σ[j]? → i = j
section
variable {E : Ent} {G H G' H' : Hp} {σ : L2.St} {Γ : List Slot}
theorem Holds.step (h : Holds E G H σ Γ) (b : Le G H G' H') : Holds E G' H' σ Γ := by
  refine ⟨h.le.step b, h.fl.trans b.g, h.len, fun i s e => ?_, h.sep⟩
  · have k := h.ok i s e
    cases s with
    | no => trivial
    | sh r a =>
      obtain ⟨v, h1, h2⟩ := k
      exact ⟨v, h1, r.mono b.g h2⟩
    | ow c =>
      obtain ⟨p, o, h1, h2, h3, h4, h5⟩ := k
      refine ⟨p, o, h1, ?_, h3, b.h _ _ h4, c.mono b.g h5⟩
      cases q : G' p with
      | none => rfl
      | some u =>
        have z := b.new p u q h2
        rw [z] at h4
        cases h4
theorem Holds.sh {α : Type} {r : Rp α} {a : α} {i : Nat} (h : Holds E G H σ Γ) (e : Γ[i]? = some (.sh r a)) : ∃ v, σ[i]? = some (some v) ∧ r.rel G v a := h.ok i _ e
theorem Holds.ow {c : Oc} {i : Nat} (h : Holds E G H σ Γ) (e : Γ[i]? = some (.ow c)) : ∃ p o, σ[i]? = some (some (.ref p)) ∧ G p = none ∧ (E.M p ∨ E.H p = none) ∧ H p = some o ∧ c.rel G o := h.ok i _ e
theorem get_set.{u} {α : Type u} {l : List α} {i j : Nat} {x y : α} (h : (l.set i x)[j]? = some y) : (i = j ∧ y = x) ∨ (i ≠ j ∧ l[j]? = some y) := by
  rw [List.getElem?_set] at h
  split at h
  · rename_i e
    split at h
    · exact .inl ⟨e, by cases h; rfl⟩
    · cases h
  · rename_i e
    exact .inr ⟨e, h⟩
theorem Holds.set_no {x : Option V} {i : Nat} (h : Holds E G H σ Γ) : Holds E G H (σ.set i x) (Γ.set i .no) :=
  ⟨h.le, h.fl, by rw [List.length_set, List.length_set]; exact h.len, fun j s e => by
    rcases get_set e with ⟨rfl, rfl⟩ | ⟨n, e⟩
    · trivial
    · rw [List.getElem?_set_ne n]
      exact h.ok j s e, fun j k s t e1 e2 o1 o2 q => by
    rcases get_set e1 with ⟨rfl, rfl⟩ | ⟨n1, e1⟩
    · cases o1
    · rcases get_set e2 with ⟨rfl, rfl⟩ | ⟨n2, e2⟩
      · cases o2
      · rw [List.getElem?_set_ne n1, List.getElem?_set_ne n2] at q
        exact h.sep j k s t e1 e2 o1 o2 q⟩
theorem Holds.set_sh {α : Type} {r : Rp α} {a : α} {v : V} {i : Nat} (h : Holds E G H σ Γ) (hv : r.rel G v a) : Holds E G H (σ.set i (some v)) (Γ.set i (.sh r a)) :=
  ⟨h.le, h.fl, by rw [List.length_set, List.length_set]; exact h.len, fun j s e => by
    rcases get_set e with ⟨rfl, rfl⟩ | ⟨n, e⟩
    · refine ⟨v, ?_, hv⟩
      have lt : i < σ.length := by
        rw [h.len]
        have z := (List.getElem?_eq_some_iff.mp e).1
        rw [List.length_set] at z
        exact z
      rw [List.getElem?_set_self lt]
    · rw [List.getElem?_set_ne n]
      exact h.ok j s e, fun j k s t e1 e2 o1 o2 q => by
    rcases get_set e1 with ⟨rfl, rfl⟩ | ⟨n1, e1⟩
    · cases o1
    · rcases get_set e2 with ⟨rfl, rfl⟩ | ⟨n2, e2⟩
      · cases o2
      · rw [List.getElem?_set_ne n1, List.getElem?_set_ne n2] at q
        exact h.sep j k s t e1 e2 o1 o2 q⟩
/-- a new object that may change, in a slot -/
theorem Holds.set_ow {c : Oc} {p : Addr} {o : HO} {i : Nat} (h : Holds E G H σ Γ) (b : Le G H G' H') (n : H p = none) (g : G' p = none) (hp : H' p = some o) (hc : c.rel G' o) : Holds E G' H' (σ.set i (some (.ref p))) (Γ.set i (.ow c)) := by
  have h1 := h.step b
  have other : ∀ (j : Nat) (s : Slot), Γ[j]? = some s → s.isOw = true → σ[j]? ≠ some (some (V.ref p)) := fun j s e w q => by
    cases s with
    | no => cases w
    | sh r a => cases w
    | ow c2 =>
      obtain ⟨p2, o2, k1, _, _, k4, _⟩ := h.ow e
      rw [k1] at q
      cases q
      rw [n] at k4
      cases k4
  have lt : ∀ s : Slot, (Γ.set i (.ow c))[i]? = some s → i < σ.length := fun s e => by
    rw [h.len]
    have z := (List.getElem?_eq_some_iff.mp e).1
    rw [List.length_set] at z
    exact z
  refine ⟨h1.le, h1.fl, by rw [List.length_set, List.length_set]; exact h.len, fun j s e => ?_, fun j k s t e1 e2 o1 o2 q => ?_⟩
  · rcases get_set e with ⟨rfl, rfl⟩ | ⟨nj, e'⟩
    · exact ⟨p, o, by rw [List.getElem?_set_self (lt _ e)], g, .inr (h.le.fresh n), hp, hc⟩
    · rw [List.getElem?_set_ne nj]
      exact h1.ok j s e'
  · rcases get_set e1 with ⟨rfl, rfl⟩ | ⟨n1, e1'⟩
    · rcases get_set e2 with ⟨rfl, rfl⟩ | ⟨n2, e2'⟩
      · rfl
      · rw [List.getElem?_set_self (lt _ e1), List.getElem?_set_ne n2] at q
        exact absurd q.symm (other k t e2' o2)
    · rcases get_set e2 with ⟨rfl, rfl⟩ | ⟨n2, e2'⟩
      · rw [List.getElem?_set_self (lt _ e2), List.getElem?_set_ne n1] at q
        exact absurd q (other j s e1' o1)
      · rw [List.getElem?_set_ne n1, List.getElem?_set_ne n2] at q
        exact h.sep j k s t e1' e2' o1 o2 q
/-- the object in a slot is changed -/
theorem Holds.mut {c c' : Oc} {p : Addr} {o' : HO} {i : Nat} (h : Holds E G H σ Γ) (e : Γ[i]? = some (.ow c)) (hp : σ[i]? = some (some (.ref p))) (hc : c'.rel G o') : Holds E G (upd H p o') σ (Γ.set i (.ow c')) := by
  obtain ⟨p1, o1, k1, k2, k3, k4, k5⟩ := h.ow e
  have ep : p1 = p := by
    rw [hp] at k1
    cases k1
    rfl
  subst ep
  refine ⟨⟨h.le.g, fun a u q => ?_, fun a u q => ?_, h.le.new, h.le.m⟩, h.fl, by rw [List.length_set]; exact h.len, fun j s q => ?_, fun j k s t e1 e2 w1 w2 q => ?_⟩
  · by_cases z : a = p1
    · subst z
      rcases k3 with m | m
      · exact .inr ⟨m, _, upd_same⟩
      · rw [m] at q
        cases q
    · rw [upd_ne z]
      exact h.le.h a u q
  · have z : a ≠ p1 := fun z => by
      subst z
      rw [k2] at q
      cases q
    rw [upd_ne z]
    exact h.le.gh a u q
  · rcases get_set q with ⟨rfl, rfl⟩ | ⟨n, q⟩
    · exact ⟨p1, o', hp, k2, k3, upd_same, hc⟩
    · have w := h.ok j s q
      cases s with
      | no => trivial
      | sh r a => exact w
      | ow c2 =>
        obtain ⟨p2, o2, w1, w2, w3, w4, w5⟩ := w
        have np : p2 ≠ p1 := fun z => by
          subst z
          exact n (h.sep i j _ _ e q rfl rfl (by rw [hp, w1]))
        exact ⟨p2, o2, w1, w2, w3, by rw [upd_ne np]; exact w4, w5⟩
  · have back : ∀ (j : Nat) (s : Slot), (Γ.set i (.ow c'))[j]? = some s → s.isOw = true → ∃ s', Γ[j]? = some s' ∧ s'.isOw = true := fun j s q w => by
      rcases get_set q with ⟨rfl, rfl⟩ | ⟨n, q⟩
      · exact ⟨_, e, rfl⟩
      · exact ⟨_, q, w⟩
    obtain ⟨s', q1, q2⟩ := back j s e1 w1
    obtain ⟨t', q3, q4⟩ := back k t e2 w2
    exact h.sep j k s' t' q1 q3 q2 q4 q
/-- another floor -/
theorem Holds.floor (h : Holds E G H σ Γ) {F : Hp} (e : Ex F G) : Holds { E with F := F } G H σ Γ := by
  refine ⟨h.le, e, h.len, fun i s q => ?_, h.sep⟩
  have k := h.ok i s q
  cases s with
  | no => trivial
  | sh r a => exact k
  | ow c => exact k
theorem Holds.unfloor {F : Hp} (h : Holds { E with F := F } G H σ Γ) (e : Ex E.F G) : Holds E G H σ Γ := by
  refine ⟨h.le, e, h.len, fun i s q => ?_, h.sep⟩
  have k := h.ok i s q
  cases s with
  | no => trivial
  | sh r a => exact k
  | ow c => exact k
/-- less is known of a slot -/
theorem Holds.weak {Γ' : List Slot} (h : Holds E G H σ Γ) (l : Γ'.length = Γ.length) (w : ∀ (i : Nat) (s : Slot), Γ'[i]? = some s → s = .no ∨ Γ[i]? = some s) : Holds E G H σ Γ' :=
  ⟨h.le, h.fl, by rw [l]; exact h.len, fun i s e => by
    rcases w i s e with rfl | q
    · trivial
    · exact h.ok i s q, fun i j s t e1 e2 w1 w2 q => by
    rcases w i s e1 with rfl | q1
    · cases w1
    · rcases w j t e2 with rfl | q2
      · cases w2
      · exact h.sep i j s t q1 q2 w1 w2 q⟩
end

/-! ### weakest preconditions -/
section
variable (X : Cx)
structure WE (e : Expr) (σ : L2.St) (H : Hp) (Q : VK) : Prop where
  run : ∀ (pins : List (Addr × Obj)) (s : Shared), Inv X pins σ H s → wpAny (model X.prog X.w) X.A (eval e X.env) (EP X pins σ Q) X.xe s
structure WT (e : Expr) (σ : L2.St) (H : Hp) (Q : Bool → Hp → Prop) : Prop where
  run : ∀ (pins : List (Addr × Obj)) (s : Shared), Inv X pins σ H s → wpAny (model X.prog X.w) X.A (isTrue e X.env (eval e X.env)) (TP X pins σ Q) X.xe s
structure WW (e : Expr) (σ : L2.St) (H : Hp) (Q : Bool → Hp → Prop) : Prop where
  run : ∀ (whole : Sem Value) (pins : List (Addr × Obj)) (s : Shared), Inv X pins σ H s → wpAny (model X.prog X.w) X.A (isTrue e X.env whole) (TP X pins σ Q) X.xe s
structure WA (es : List Expr) (σ : L2.St) (H : Hp) (Q : List V → Hp → Prop) : Prop where
  run : ∀ (pos : Pos) (pins : List (Addr × Obj)) (s : Shared), Inv X pins σ H s → wpAny (model X.prog X.w) X.A (spliced (backTo pos (starEach es X.env))) (AP X pins σ Q) X.xe s
structure WS (st : Stmt) (σ : L2.St) (H : Hp) (D : Ends) : Prop where
  run : ∀ (pins : List (Addr × Obj)) (s : Shared), Inv X pins σ H s → wpAny (model X.prog X.w) X.A (exec st X.env) (SP X pins D) X.xe s
structure WB (st : List Stmt) (σ : L2.St) (H : Hp) (D : Ends) : Prop where
  run : ∀ (pins : List (Addr × Obj)) (s : Shared), Inv X pins σ H s → wpAny (model X.prog X.w) X.A (execs st X.env) (SP X pins D) X.xe s
end
section
variable {X : Cx} {e : Expr} {es : List Expr} {st : Stmt} {sts : List Stmt} {σ : L2.St} {H : Hp}
theorem WE.pe : PE X e (WE X e) := ⟨fun pins s σ H Q I h => h.run pins s I⟩
theorem WT.pt : PT X e (WT X e) := ⟨fun pins s σ H Q I h => h.run pins s I⟩
theorem WW.pw : PW X e (WW X e) := ⟨fun w pins s σ H Q I h => h.run w pins s I⟩
theorem WA.pa : PA X es (WA X es) := ⟨fun pos pins s σ H Q I h => h.run pos pins s I⟩
theorem WS.ps : PS X st (fun D σ H => WS X st σ H D) := ⟨fun pins s σ H D I h => h.run pins s I⟩
theorem WB.pss : PSs X sts (fun D σ H => WB X sts σ H D) := ⟨fun pins s σ H D I h => h.run pins s I⟩
theorem WE.of {t : TE} {Q : VK} (p : PE X e t) (h : t σ H Q) : WE X e σ H Q := ⟨fun pins s I => p.run pins s σ H Q I h⟩
theorem WT.of {t : TT} {Q : Bool → Hp → Prop} (p : PT X e t) (h : t σ H Q) : WT X e σ H Q := ⟨fun pins s I => p.run pins s σ H Q I h⟩
theorem WW.of {t : TT} {Q : Bool → Hp → Prop} (p : PW X e t) (h : t σ H Q) : WW X e σ H Q := ⟨fun w pins s I => p.run w pins s σ H Q I h⟩
theorem WA.of {t : TA} {Q : List V → Hp → Prop} (p : PA X es t) (h : t σ H Q) : WA X es σ H Q := ⟨fun pos pins s I => p.run pos pins s σ H Q I h⟩
theorem WS.of {t : TS} {D : Ends} (p : PS X st t) (h : t D σ H) : WS X st σ H D := ⟨fun pins s I => p.run pins s σ H D I h⟩
theorem WB.of {t : TS} {D : Ends} (p : PSs X sts t) (h : t D σ H) : WB X sts σ H D := ⟨fun pins s I => p.run pins s σ H D I h⟩
theorem WE.mono {Q Q' : VK} (h : WE X e σ H Q) (k : ∀ v H', Q v H' → Q' v H') : WE X e σ H Q' := ⟨fun pins s I => thn (h.run pins s I) fun _ _ ⟨v, H', I', r, q⟩ => ⟨v, H', I', r, k v H' q⟩⟩
theorem WT.mono {Q Q' : Bool → Hp → Prop} (h : WT X e σ H Q) (k : ∀ v H', Q v H' → Q' v H') : WT X e σ H Q' := ⟨fun pins s I => thn (h.run pins s I) fun _ _ ⟨H', I', q⟩ => ⟨H', I', k _ H' q⟩⟩
end

/-! ### what an expression is worth -/
section
variable (X : Cx) (Γ : List Slot)
/-- worth a, told by r; nothing else changes -/
def Ev (e : Expr) {α : Type} (r : Rp α) (a : α) : Prop := ∀ (E : Ent) (G H : Hp) (σ : L2.St), Holds E G H σ Γ → ∀ Q : VK, (∀ v G' H', Le G H G' H' → r.rel G' v a → Q v H') → WE X e σ H Q
/-- a new object that may change -/
def EvO (e : Expr) (c : Oc) : Prop := ∀ (E : Ent) (G H : Hp) (σ : L2.St), Holds E G H σ Γ → ∀ Q : VK, (∀ p o G' H', H p = none → Le G H G' H' → G' p = none → H' p = some o → c.rel G' o → Q (.ref p) H') → WE X e σ H Q
/-- an object that may change, to be looked at -/
def EvB (e : Expr) (c : Oc) : Prop := ∀ (E : Ent) (G H : Hp) (σ : L2.St), Holds E G H σ Γ → ∀ Q : VK, (∀ p o G' H', Le G H G' H' → H' p = some o → c.rel G' o → Q (.ref p) H') → WE X e σ H Q
def EvT (e : Expr) (b : Bool) : Prop := ∀ (E : Ent) (G H : Hp) (σ : L2.St), Holds E G H σ Γ → ∀ Q : Bool → Hp → Prop, (∀ G' H', Le G H G' H' → Q b H') → WT X e σ H Q
def EvW (e : Expr) (b : Bool) : Prop := ∀ (E : Ent) (G H : Hp) (σ : L2.St), Holds E G H σ Γ → ∀ Q : Bool → Hp → Prop, (∀ G' H', Le G H G' H' → Q b H') → WW X e σ H Q
end
/-- a typed value -/
structure Ty : Type 1 where
  {α : Type}
  r : Rp α
  a : α
def Args (G : Hp) : List V → List Ty → Prop
  | [], [] => True
  | v :: vs, t :: ts => t.r.rel G v t.a ∧ Args G vs ts
  | _, _ => False
theorem Args.mono {G G' : Hp} (e : Ex G G') : ∀ {vs : List V} {ts : List Ty}, Args G vs ts → Args G' vs ts
  | [], [], h => h
  | _ :: _, t :: _, h => ⟨t.r.mono e h.1, Args.mono e h.2⟩
def EvA (X : Cx) (Γ : List Slot) (es : List Expr) (ts : List Ty) : Prop := ∀ (E : Ent) (G H : Hp) (σ : L2.St), Holds E G H σ Γ → ∀ Q : List V → Hp → Prop, (∀ vs G' H', Le G H G' H' → Args G' vs ts → Q vs H') → WA X es σ H Q
section
variable {X : Cx} {Γ : List Slot} {e a b c : Expr} {es : List Expr} {pos : Pos} {α β γ : Type} {r : Rp α} {x : α}
theorem Ev.eq {y : α} (h : Ev X Γ e r x) (q : x = y) : Ev X Γ e r y := q ▸ h
theorem EvT.eq {y z : Bool} (h : EvT X Γ e y) (q : y = z) : EvT X Γ e z := q ▸ h
theorem ea_nil : EvA X Γ [] [] := fun E G H σ h Q q => WA.of pa_nil (q [] G H (.refl h.le.gh) trivial)
theorem ea_cons {t : Ty} {ts : List Ty} (ha : Ev X Γ e t.r t.a) (hr : EvA X Γ es ts) (hs : starEach (e :: es) X.env = (false, eval e X.env) :: starEach es X.env := by rfl) : EvA X Γ (e :: es) (t :: ts) := fun E G H σ h Q q =>
  WA.of (pa_cons WE.pe WA.pa hs) (ha E G H σ h _ fun v G1 H1 l1 r1 => hr E G1 H1 σ (h.step l1) _ fun vs G2 H2 l2 r2 => q _ G2 H2 (l1.trans l2) ⟨t.r.mono l2.g r1, r2⟩)
theorem EvO.bor {c : Oc} (h : EvO X Γ e c) : EvB X Γ e c := fun E G H σ hh Q q => h E G H σ hh Q fun p o G' H' _ l _ h2 h3 => q p o G' H' l h2 h3
/-- a new list is frozen -/
theorem EvO.ev {as : List α} (h : EvO X Γ e (oLst r as)) : Ev X Γ e (rLst r) as := fun E G H σ hh Q q => h E G H σ hh Q fun p o G' H' n l g h2 ⟨vs, e1, h3⟩ => by
  subst e1
  exact q _ (upd G' p (.lst vs)) H' (l.frz h2 n g) ⟨p, vs, rfl, upd_same, h3.mono (Evl.Ex.new g)⟩
/-- a frozen list, looked at -/
theorem Ev.bor {as : List α} (h : Ev X Γ e (rLst r) as) : EvB X Γ e (oLst r as) := fun E G H σ hh Q q => h E G H σ hh Q fun v G' H' l ⟨p, vs, e1, h2, h3⟩ => by
  subst e1
  exact q p _ G' H' l (l.gh _ _ h2) ⟨vs, rfl, h3⟩
theorem ev_v (i : Nat) {y : Str} (hg : Γ[i]? = some (.sh r x) := by rfl) (hN : X.N[i]? = some y := by rfl) (hv : Vis X.env.scope y := by first | exact Or.inl rfl | exact Or.inr (Or.inl rfl) | exact Or.inr (Or.inr rfl)) (hd : (y == ("__debug__" : Str)) = false := by decide)
    (hcd : (y == ("__classdict__" : Str)) = false := by decide) : Ev X Γ (.Name y pos) r x := fun E G H σ h Q q => by
  obtain ⟨v, h1, h2⟩ := h.sh hg
  exact WE.of (pe_var hN hv hd hcd) ⟨v, h1, q v G H (.refl h.le.gh) h2⟩
theorem eb_v (i : Nat) {y : Str} {c : Oc} (hg : Γ[i]? = some (.ow c) := by rfl) (hN : X.N[i]? = some y := by rfl) (hv : Vis X.env.scope y := by first | exact Or.inl rfl | exact Or.inr (Or.inl rfl) | exact Or.inr (Or.inr rfl)) (hd : (y == ("__debug__" : Str)) = false := by decide)
    (hcd : (y == ("__classdict__" : Str)) = false := by decide) : EvB X Γ (.Name y pos) c := fun E G H σ h Q q => by
  obtain ⟨p, o, h1, h2, h3, h4, h5⟩ := h.ow hg
  exact WE.of (pe_var hN hv hd hcd) ⟨_, h1, q p o G H (.refl h.le.gh) h4 h5⟩
theorem ev_int {i : Int} {j : Nat} : Ev X Γ (.Constant (.int i) j pos) rInt i := fun E G H σ h Q q => WE.of pe_int (q _ G H (.refl h.le.gh) rfl)
theorem ev_bool {i : Bool} {j : Nat} : Ev X Γ (.Constant (.bool i) j pos) rBool i := fun E G H σ h Q q => WE.of pe_bl (q _ G H (.refl h.le.gh) rfl)
theorem ev_str {i : Str} {j : Nat} : Ev X Γ (.Constant (.str i) j pos) rStr i := fun E G H σ h Q q => WE.of pe_str (q _ G H (.refl h.le.gh) rfl)
theorem ev_none {j : Nat} : Ev X Γ (.Constant .none j pos) (rOpt r) none := fun E G H σ h Q q => WE.of pe_non (q _ G H (.refl h.le.gh) rfl)
theorem ev_unit {j : Nat} : Ev X Γ (.Constant .none j pos) rNon () := fun E G H σ h Q q => WE.of pe_non (q _ G H (.refl h.le.gh) rfl)
theorem ev_some (h : Ev X Γ e r x) : Ev X Γ e (rOpt r) (some x) := fun E G H σ hh Q q => h E G H σ hh Q fun v G' H' l k => q v G' H' l k
end
end Hf

namespace Hf
open PySem PySem.Spec PyProof.Rows L2

/-! ### operators -/
section
variable {X : Cx} {Γ : List Slot} {e f g : Expr} {es : List Expr} {pos : Pos} {α β γ δ : Type} {r : Rp α} {x : α} {s : Rp β} {y : β} {t : Rp γ} {z : γ} {i j : Int} {p q : Bool} {u v : Str}
/-- what an operator by values gives -/
def Gives (ρ : R2) (r : Rp α) (x : α) (s : Rp β) (y : β) (t : Rp γ) (z : γ) : Prop := ∀ (G H : Hp) (a b : V), Ex G H → r.rel G a x → s.rel G b y → ∀ Q : VK, (∀ c G' H', Le G H G' H' → t.rel G' c z → Q c H') → ρ a b H Q
theorem ev_bin {op : Operator} {ρ : R2} (ho : OpR X (binaryOp op) ρ) (ha : Ev X Γ e r x) (hb : Ev X Γ f s y) (hs : Gives ρ r x s y t z) : Ev X Γ (.BinOp e op f pos) t z := fun E G H σ h Q k =>
  WE.of (pe_op ho WE.pe WE.pe) (ha E G H σ h _ fun a G1 H1 l1 r1 => hb E G1 H1 σ (h.step l1) _ fun b G2 H2 l2 r2 => hs G2 H2 a b l2.gh (r.mono l2.g r1) r2 Q fun c G3 H3 l3 r3 => k c G3 H3 ((l1.trans l2).trans l3) r3)
theorem ev_cmpR {op : CmpOp} {ρ : R2} (ho : OpR X (compareOp op) ρ) (ha : Ev X Γ e r x) (hb : Ev X Γ f s y) (hs : Gives ρ r x s y t z) (hm : behindInMarks op f = false := by first | exact nobehind _ (by decide) (by decide) | rfl) : Ev X Γ (.Compare e [op] [f] pos) t z := fun E G H σ h Q k =>
  WE.of (pe_cmpR ho WE.pe WE.pe hm) (ha E G H σ h _ fun a G1 H1 l1 r1 => hb E G1 H1 σ (h.step l1) _ fun b G2 H2 l2 r2 => hs G2 H2 a b l2.gh (r.mono l2.g r1) r2 Q fun c G3 H3 l3 r3 => k c G3 H3 ((l1.trans l2).trans l3) r3)
theorem et_cmpR {op : CmpOp} {ρ : R2} (ho : OpR X (compareOp op) ρ) (ha : Ev X Γ e r x) (hb : Ev X Γ f s y) (hs : Gives ρ r x s y rBool p) (hm : behindInMarks op f = false := by first | exact nobehind _ (by decide) (by decide) | rfl) : EvT X Γ (.Compare e [op] [f] pos) p := fun E G H σ h Q k =>
  WT.of (pt_cmpR ho WE.pe WE.pe hm) (ha E G H σ h _ fun a G1 H1 l1 r1 => hb E G1 H1 σ (h.step l1) _ fun b G2 H2 l2 r2 => hs G2 H2 a b l2.gh (r.mono l2.g r1) r2 _ fun c G3 H3 l3 r3 => ⟨p, r3, k G3 H3 ((l1.trans l2).trans l3)⟩)
theorem gv_I0 {F : Int → Int → V} {k : Rp γ} (h : ∀ G, k.rel G (F i j) z) : Gives (rI0 F) rInt i rInt j k z := fun G H a b e h1 h2 Q q => ⟨i, j, h1, h2, q _ G H (.refl e) (h G)⟩
theorem gv_I {C : Int → Int → Prop} {F : Int → Int → V} {k : Rp γ} (c : C i j) (h : ∀ G, k.rel G (F i j) z) : Gives (rI C F) rInt i rInt j k z := fun G H a b e h1 h2 Q q => ⟨i, j, h1, h2, c, q _ G H (.refl e) (h G)⟩
theorem ev_add (ha : Ev X Γ e rInt i) (hb : Ev X Γ f rInt j) : Ev X Γ (.BinOp e .Add f pos) rInt (i + j) := ev_bin op_add ha hb (gv_I0 fun _ => rfl)
theorem ev_sub (ha : Ev X Γ e rInt i) (hb : Ev X Γ f rInt j) : Ev X Γ (.BinOp e .Sub f pos) rInt (i - j) := ev_bin op_sub ha hb (gv_I0 fun _ => rfl)
/-- a product: the left | the right one is small -/
theorem ev_mulL (hc : -(2 ^ 64) < i ∧ i < 2 ^ 64) (ha : Ev X Γ e rInt i) (hb : Ev X Γ f rInt j) : Ev X Γ (.BinOp e .Mult f pos) rInt (i * j) := ev_bin op_mul ha hb (gv_I (.inl hc) fun _ => rfl)
theorem ev_mulR (hc : -(2 ^ 64) < j ∧ j < 2 ^ 64) (ha : Ev X Γ e rInt i) (hb : Ev X Γ f rInt j) : Ev X Γ (.BinOp e .Mult f pos) rInt (i * j) := ev_bin op_mul ha hb (gv_I (.inr hc) fun _ => rfl)
theorem ev_mulW (hc : CMulW i j) (ha : Ev X Γ e rInt i) (hb : Ev X Γ f rInt j) : Ev X Γ (.BinOp e .Mult f pos) rInt (i * j) := ev_bin op_mulW ha hb (gv_I hc fun _ => rfl)
theorem ev_div (hc : 0 < j ∧ j < 1073741824) (ha : Ev X Γ e rInt i) (hb : Ev X Γ f rInt j) : Ev X Γ (.BinOp e .FloorDiv f pos) rInt (i / j) := ev_bin op_fdiv ha hb (gv_I hc fun _ => rfl)
theorem ev_divW (hc : CDivW i j) (ha : Ev X Γ e rInt i) (hb : Ev X Γ f rInt j) : Ev X Γ (.BinOp e .FloorDiv f pos) rInt (i / j) := ev_bin op_fdivW ha hb (gv_I hc fun _ => rfl)
theorem ev_mod (hc : 0 < j) (ha : Ev X Γ e rInt i) (hb : Ev X Γ f rInt j) : Ev X Γ (.BinOp e .Mod f pos) rInt (i % j) := ev_bin op_mod ha hb (gv_I hc fun _ => rfl)
theorem ev_pow (hc : CPow i j) (ha : Ev X Γ e rInt i) (hb : Ev X Γ f rInt j) : Ev X Γ (.BinOp e .Pow f pos) rInt (i ^ j.toNat) := ev_bin op_pow ha hb (gv_I hc fun _ => rfl)
theorem ev_neg (ha : Ev X Γ e rInt i) : Ev X Γ (.UnaryOp .USub e pos) rInt (-i) := fun E G H σ h Q k =>
  WE.of (pe_un un_neg WE.pe) (ha E G H σ h _ fun a G1 H1 l1 r1 => ⟨i, r1, k _ G1 H1 l1 rfl⟩)
theorem ev_cat (hl : u.length + v.length ≤ sizeLine) (ha : Ev X Γ e rStr u) (hb : Ev X Γ f rStr v) : Ev X Γ (.BinOp e .Add f pos) rStr (u ++ v) := ev_bin op_add_str ha hb fun G H a b e h1 h2 Q q => ⟨u, v, h1, h2, hl, q _ G H (.refl e) rfl⟩
/-- comparisons of ints -/
theorem ev_lt (ha : Ev X Γ e rInt i) (hb : Ev X Γ f rInt j) : Ev X Γ (.Compare e [.Lt] [f] pos) rBool (decide (i < j)) := ev_cmpR op_lt ha hb (gv_I0 fun _ => rfl)
theorem ev_le (ha : Ev X Γ e rInt i) (hb : Ev X Γ f rInt j) : Ev X Γ (.Compare e [.LtE] [f] pos) rBool (decide (i ≤ j)) := ev_cmpR op_le ha hb (gv_I0 fun _ => rfl)
theorem ev_gt (ha : Ev X Γ e rInt i) (hb : Ev X Γ f rInt j) : Ev X Γ (.Compare e [.Gt] [f] pos) rBool (decide (j < i)) := ev_cmpR op_gt ha hb (gv_I0 fun _ => rfl)
theorem ev_ge (ha : Ev X Γ e rInt i) (hb : Ev X Γ f rInt j) : Ev X Γ (.Compare e [.GtE] [f] pos) rBool (decide (j ≤ i)) := ev_cmpR op_ge ha hb (gv_I0 fun _ => rfl)
theorem et_lt (ha : Ev X Γ e rInt i) (hb : Ev X Γ f rInt j) : EvT X Γ (.Compare e [.Lt] [f] pos) (decide (i < j)) := et_cmpR op_lt ha hb (gv_I0 fun _ => rfl)
theorem et_le (ha : Ev X Γ e rInt i) (hb : Ev X Γ f rInt j) : EvT X Γ (.Compare e [.LtE] [f] pos) (decide (i ≤ j)) := et_cmpR op_le ha hb (gv_I0 fun _ => rfl)
theorem et_gt (ha : Ev X Γ e rInt i) (hb : Ev X Γ f rInt j) : EvT X Γ (.Compare e [.Gt] [f] pos) (decide (j < i)) := et_cmpR op_gt ha hb (gv_I0 fun _ => rfl)
theorem et_ge (ha : Ev X Γ e rInt i) (hb : Ev X Γ f rInt j) : EvT X Γ (.Compare e [.GtE] [f] pos) (decide (j ≤ i)) := et_cmpR op_ge ha hb (gv_I0 fun _ => rfl)
/-- == of flat things -/
theorem gv_eqI : Gives rEq rInt i rInt j rBool (decide (i = j)) := fun G H a b e h1 h2 Q q => by
  cases h1; cases h2
  refine ⟨rfl, q _ G H (.refl e) ?_⟩
  show V.bl _ = V.bl _
  congr 1
  exact decide_eq_decide.mpr (by constructor <;> (intro h; first | (cases h; rfl) | (rw [h])))
theorem gv_neI : Gives rNe rInt i rInt j rBool (!decide (i = j)) := fun G H a b e h1 h2 Q q => by
  cases h1; cases h2
  refine ⟨rfl, q _ G H (.refl e) ?_⟩
  show V.bl _ = V.bl _
  congr 2
  exact decide_eq_decide.mpr (by constructor <;> (intro h; first | (cases h; rfl) | (rw [h])))
theorem gv_eqS : Gives rEq rStr u rStr v rBool (decide (u = v)) := fun G H a b e h1 h2 Q q => by
  cases h1; cases h2
  refine ⟨rfl, q _ G H (.refl e) ?_⟩
  show V.bl _ = V.bl _
  congr 1
  exact decide_eq_decide.mpr (by constructor <;> (intro h; first | (cases h; rfl) | (rw [h])))
theorem gv_neS : Gives rNe rStr u rStr v rBool (!decide (u = v)) := fun G H a b e h1 h2 Q q => by
  cases h1; cases h2
  refine ⟨rfl, q _ G H (.refl e) ?_⟩
  show V.bl _ = V.bl _
  congr 2
  exact decide_eq_decide.mpr (by constructor <;> (intro h; first | (cases h; rfl) | (rw [h])))
theorem gv_eqB : Gives rEq rBool p rBool q rBool (p == q) := fun G H a b e h1 h2 Q k => by
  cases h1; cases h2
  refine ⟨rfl, k _ G H (.refl e) ?_⟩
  cases p <;> cases q <;> rfl
theorem gv_neB : Gives rNe rBool p rBool q rBool (p != q) := fun G H a b e h1 h2 Q k => by
  cases h1; cases h2
  refine ⟨rfl, k _ G H (.refl e) ?_⟩
  cases p <;> cases q <;> rfl
theorem ev_eqI (ha : Ev X Γ e rInt i) (hb : Ev X Γ f rInt j) : Ev X Γ (.Compare e [.Eq] [f] pos) rBool (decide (i = j)) := ev_cmpR op_eq ha hb gv_eqI
theorem ev_neI (ha : Ev X Γ e rInt i) (hb : Ev X Γ f rInt j) : Ev X Γ (.Compare e [.NotEq] [f] pos) rBool (!decide (i = j)) := ev_cmpR op_ne ha hb gv_neI
theorem et_eqI (ha : Ev X Γ e rInt i) (hb : Ev X Γ f rInt j) : EvT X Γ (.Compare e [.Eq] [f] pos) (decide (i = j)) := et_cmpR op_eq ha hb gv_eqI
theorem et_neI (ha : Ev X Γ e rInt i) (hb : Ev X Γ f rInt j) : EvT X Γ (.Compare e [.NotEq] [f] pos) (!decide (i = j)) := et_cmpR op_ne ha hb gv_neI
theorem ev_eqS (ha : Ev X Γ e rStr u) (hb : Ev X Γ f rStr v) : Ev X Γ (.Compare e [.Eq] [f] pos) rBool (decide (u = v)) := ev_cmpR op_eq ha hb gv_eqS
theorem ev_neS (ha : Ev X Γ e rStr u) (hb : Ev X Γ f rStr v) : Ev X Γ (.Compare e [.NotEq] [f] pos) rBool (!decide (u = v)) := ev_cmpR op_ne ha hb gv_neS
theorem et_eqS (ha : Ev X Γ e rStr u) (hb : Ev X Γ f rStr v) : EvT X Γ (.Compare e [.Eq] [f] pos) (decide (u = v)) := et_cmpR op_eq ha hb gv_eqS
theorem et_neS (ha : Ev X Γ e rStr u) (hb : Ev X Γ f rStr v) : EvT X Γ (.Compare e [.NotEq] [f] pos) (!decide (u = v)) := et_cmpR op_ne ha hb gv_neS
theorem ev_eqB (ha : Ev X Γ e rBool p) (hb : Ev X Γ f rBool q) : Ev X Γ (.Compare e [.Eq] [f] pos) rBool (p == q) := ev_cmpR op_eq ha hb gv_eqB
theorem ev_neB (ha : Ev X Γ e rBool p) (hb : Ev X Γ f rBool q) : Ev X Γ (.Compare e [.NotEq] [f] pos) rBool (p != q) := ev_cmpR op_ne ha hb gv_neB
theorem et_eqB (ha : Ev X Γ e rBool p) (hb : Ev X Γ f rBool q) : EvT X Γ (.Compare e [.Eq] [f] pos) (p == q) := et_cmpR op_eq ha hb gv_eqB
theorem et_neB (ha : Ev X Γ e rBool p) (hb : Ev X Γ f rBool q) : EvT X Γ (.Compare e [.NotEq] [f] pos) (p != q) := et_cmpR op_ne ha hb gv_neB
/-- two comparisons in a chain -/
theorem ev_chain {op op' : CmpOp} {ρ ρ' : R2} (ho : OpR X (compareOp op) ρ) (ho' : OpR X (compareOp op') ρ') (ha : Ev X Γ e r x) (hb : Ev X Γ f s y) (hc : p = true → Ev X Γ g t z) (h1 : Gives ρ r x s y rBool p) (h2 : p = true → Gives ρ' s y t z rBool q)
    (hm : lastMarks [op, op'] [f, g] = false := by with_unfolding_all rfl) : Ev X Γ (.Compare e [op, op'] [f, g] pos) rBool (p && q) := fun E G H σ h Q k =>
  WE.of (pe_chain ho ho' WE.pe WE.pe WE.pe hm) (ha E G H σ h _ fun a G1 H1 l1 r1 => hb E G1 H1 σ (h.step l1) _ fun b G2 H2 l2 r2 => h1 G2 H2 a b l2.gh (r.mono l2.g r1) r2 _ fun c G3 H3 l3 r3 => ⟨p, r3, by
    have l := (l1.trans l2).trans l3
    cases p with
    | false =>
      rw [if_neg Bool.false_ne_true]
      exact k _ G3 H3 l rfl
    | true =>
      rw [if_pos rfl]
      exact hc rfl E G3 H3 σ (h.step l) _ fun d G4 H4 l4 r4 => h2 rfl G4 H4 b d l4.gh (s.mono (l3.trans l4).g r2) r4 Q fun c G5 H5 l5 r5 => k c G5 H5 ((l.trans l4).trans l5) r5⟩)
theorem et_chain {op op' : CmpOp} {ρ ρ' : R2} (ho : OpR X (compareOp op) ρ) (ho' : OpR X (compareOp op') ρ') (ha : Ev X Γ e r x) (hb : Ev X Γ f s y) (hc : p = true → Ev X Γ g t z) (h1 : Gives ρ r x s y rBool p) (h2 : p = true → Gives ρ' s y t z rBool q)
    (hm : lastMarks [op, op'] [f, g] = false := by with_unfolding_all rfl) : EvT X Γ (.Compare e [op, op'] [f, g] pos) (p && q) := fun E G H σ h Q k =>
  WT.of (pt_chain ho ho' WE.pe WE.pe WE.pe hm) (ha E G H σ h _ fun a G1 H1 l1 r1 => hb E G1 H1 σ (h.step l1) _ fun b G2 H2 l2 r2 => h1 G2 H2 a b l2.gh (r.mono l2.g r1) r2 _ fun c G3 H3 l3 r3 => ⟨p, r3, by
    have l := (l1.trans l2).trans l3
    cases p with
    | false =>
      rw [if_neg Bool.false_ne_true]
      exact ⟨false, rfl, k G3 H3 l⟩
    | true =>
      rw [if_pos rfl]
      exact hc rfl E G3 H3 σ (h.step l) _ fun d G4 H4 l4 r4 => h2 rfl G4 H4 b d l4.gh (s.mono (l3.trans l4).g r2) r4 _ fun c G5 H5 l5 r5 => ⟨q, r5, k G5 H5 ((l.trans l4).trans l5)⟩⟩)
theorem gv_lt : Gives (rI0 fun i j => .bl (decide (i < j))) rInt i rInt j rBool (decide (i < j)) := gv_I0 fun _ => rfl
theorem gv_le : Gives (rI0 fun i j => .bl (decide (i ≤ j))) rInt i rInt j rBool (decide (i ≤ j)) := gv_I0 fun _ => rfl
theorem gv_gt : Gives (rI0 fun i j => .bl (decide (j < i))) rInt i rInt j rBool (decide (j < i)) := gv_I0 fun _ => rfl
theorem gv_ge : Gives (rI0 fun i j => .bl (decide (j ≤ i))) rInt i rInt j rBool (decide (j ≤ i)) := gv_I0 fun _ => rfl

/-! ### tests, and, or, not -/
theorem et_val (h : Ev X Γ e rBool p) (he : ∀ whole, isTrue e X.env whole = (do let v ← whole; standAt e.pos; holding [v] (truthy v)) := by intro _; rfl) : EvT X Γ e p := fun E G H σ hh Q k =>
  WT.of (pt_val WE.pe he) (h E G H σ hh _ fun a G1 H1 l1 r1 => ⟨p, r1, k G1 H1 l1⟩)
theorem et_not (h : EvT X Γ e p) : EvT X Γ (.UnaryOp .Not e pos) (!p) := fun E G H σ hh Q k => WT.of (pt_not WT.pt) (h E G H σ hh _ fun G1 H1 l1 => k G1 H1 l1)
theorem ev_not (h : Ev X Γ e rBool p) : Ev X Γ (.UnaryOp .Not e pos) rBool (!p) := fun E G H σ hh Q k => WE.of (pe_not WE.pe) (h E G H σ hh _ fun a G1 H1 l1 r1 => ⟨p, r1, k _ G1 H1 l1 rfl⟩)
theorem et_bool (h : EvW X Γ e p) : EvT X Γ e p := fun E G H σ hh Q k => WT.of WW.pw.pt (h E G H σ hh Q k)
theorem ew_and1 (h : EvT X Γ e p) : EvW X Γ (.BoolOp .And [e] pos) p := fun E G H σ hh Q k => WW.of (pw_and1 WT.pt) (h E G H σ hh Q k)
theorem ew_or1 (h : EvT X Γ e p) : EvW X Γ (.BoolOp .Or [e] pos) p := fun E G H σ hh Q k => WW.of (pw_or1 WT.pt) (h E G H σ hh Q k)
theorem ew_and (h : EvT X Γ e p) (h2 : p = true → EvW X Γ (.BoolOp .And (f :: es) pos) q) : EvW X Γ (.BoolOp .And (e :: f :: es) pos) (p && q) := fun E G H σ hh Q k => WW.of (pw_and WT.pt WW.pw) (h E G H σ hh _ fun G1 H1 l1 => by
  cases p with
  | false =>
    rw [if_neg Bool.false_ne_true]
    exact k G1 H1 l1
  | true =>
    rw [if_pos rfl]
    exact h2 rfl E G1 H1 σ (hh.step l1) Q fun G2 H2 l2 => k G2 H2 (l1.trans l2))
theorem ew_or (h : EvT X Γ e p) (h2 : p = false → EvW X Γ (.BoolOp .Or (f :: es) pos) q) : EvW X Γ (.BoolOp .Or (e :: f :: es) pos) (p || q) := fun E G H σ hh Q k => WW.of (pw_or WT.pt WW.pw) (h E G H σ hh _ fun G1 H1 l1 => by
  cases p with
  | true =>
    rw [if_pos rfl]
    exact k G1 H1 l1
  | false =>
    rw [if_neg Bool.false_ne_true]
    exact h2 rfl E G1 H1 σ (hh.step l1) Q fun G2 H2 l2 => k G2 H2 (l1.trans l2))
theorem ev_one {op : BoolOp} (h : Ev X Γ e r x) : Ev X Γ (.BoolOp op [e] pos) r x := fun E G H σ hh Q k => WE.of (pe_one WE.pe) (h E G H σ hh Q k)
theorem ev_and (h : Ev X Γ e rBool p) (h2 : p = true → Ev X Γ (.BoolOp .And (f :: es) pos) rBool q) : Ev X Γ (.BoolOp .And (e :: f :: es) pos) rBool (p && q) := fun E G H σ hh Q k => WE.of (pe_and WE.pe WE.pe) (h E G H σ hh _ fun a G1 H1 l1 r1 => ⟨p, r1, by
  cases p with
  | false =>
    rw [if_neg Bool.false_ne_true]
    exact k _ G1 H1 l1 rfl
  | true =>
    rw [if_pos rfl]
    exact h2 rfl E G1 H1 σ (hh.step l1) Q fun a G2 H2 l2 r2 => k a G2 H2 (l1.trans l2) r2⟩)
theorem ev_or (h : Ev X Γ e rBool p) (h2 : p = false → Ev X Γ (.BoolOp .Or (f :: es) pos) rBool q) : Ev X Γ (.BoolOp .Or (e :: f :: es) pos) rBool (p || q) := fun E G H σ hh Q k => WE.of (pe_or WE.pe WE.pe) (h E G H σ hh _ fun a G1 H1 l1 r1 => ⟨p, r1, by
  cases p with
  | true =>
    rw [if_pos rfl]
    exact k _ G1 H1 l1 rfl
  | false =>
    rw [if_neg Bool.false_ne_true]
    exact h2 rfl E G1 H1 σ (hh.step l1) Q fun a G2 H2 l2 r2 => k a G2 H2 (l1.trans l2) r2⟩)
theorem ev_ifE {x' : α} (h : EvT X Γ e p) (h1 : p = true → Ev X Γ f r x) (h2 : p = false → Ev X Γ g r x') : Ev X Γ (.IfExp e f g pos) r (if p = true then x else x') := fun E G H σ hh Q k => WE.of (pe_ifExp WT.pt WE.pe WE.pe) (h E G H σ hh _ fun G1 H1 l1 => by
  cases p with
  | true =>
    rw [if_pos rfl] at k ⊢
    exact h1 rfl E G1 H1 σ (hh.step l1) Q fun a G2 H2 l2 r2 => k a G2 H2 (l1.trans l2) r2
  | false =>
    rw [if_neg Bool.false_ne_true] at k ⊢
    exact h2 rfl E G1 H1 σ (hh.step l1) Q fun a G2 H2 l2 r2 => k a G2 H2 (l1.trans l2) r2)
/-- an arm that is taken for sure -/
theorem ev_ifT (h : EvT X Γ e true) (h1 : Ev X Γ f r x) : Ev X Γ (.IfExp e f g pos) r x := (ev_ifE (x' := x) (g := g) h (fun _ => h1) (fun q => by cases q)).eq (if_pos rfl)
theorem ev_ifF (h : EvT X Γ e false) (h1 : Ev X Γ g r x) : Ev X Γ (.IfExp e f g pos) r x := (ev_ifE (x := x) (f := f) h (fun q => by cases q) (fun _ => h1)).eq (if_neg Bool.false_ne_true)
end
end Hf

namespace Hf
open PySem PySem.Spec PyProof.Rows L2

/-! ### blocks of statements -/
/-- from any state that these slots tell, the block leads where D wants -/
def Bk (X : Cx) (E : Ent) (Γ : List Slot) (sts : List Stmt) (D : Ends) : Prop := ∀ (G H : Hp) (σ : L2.St), Holds E G H σ Γ → WB X sts σ H D
/-- some state that these slots tell -/
def At (E : Ent) (Γ : List Slot) (σ : L2.St) (H : Hp) : Prop := ∃ G, Holds E G H σ Γ
/-- what comes behind a block -/
abbrev thenD (X : Cx) (rest : List Stmt) (D : Ends) : Ends := { D with nx := fun σ H => WB X rest σ H D }
/-- an answer is told -/
def RetOk (E : Ent) (D : Ends) {α : Type} (r : Rp α) (a : α) : Prop := ∀ v G H, LeE E.G E.H E.M G H → r.rel G v a → D.rt v H
/-- an answer that is a new object -/
def RetO (E : Ent) (D : Ends) (c : Oc) : Prop := ∀ p o G H, LeE E.G E.H E.M G H → G p = none → E.H p = none → H p = some o → c.rel G o → D.rt (.ref p) H
section
variable {X : Cx} {E : Ent} {Γ Γ' : List Slot} {D : Ends} {e f g : Expr} {es : List Expr} {st : Stmt} {rest body : List Stmt} {pos : Pos} {α β γ : Type} {r : Rp α} {x : α} {s : Rp β} {y : β} {t : Rp γ} {z : γ}
theorem RetOk.eq {x' : α} (h : RetOk E D r x) (q : x = x') : RetOk E D r x' := q ▸ h
theorem bk_end (h : ∀ G H σ, Holds E G H σ Γ → D.nx σ H) : Bk X E Γ [] D := fun G H σ hh => WB.of pss_nil (h G H σ hh)
/-- the end of an inner block: on with what follows -/
theorem bk_then (h : Bk X E Γ rest D) : Bk X E Γ [] (thenD X rest D) := bk_end h
theorem bk_at (h : ∀ σ H, At E Γ σ H → D.nx σ H) : Bk X E Γ [] D := bk_end fun G H σ hh => h σ H ⟨G, hh⟩
theorem bk_of {t : TS} (p : PS X st t) (h : ∀ G H σ, Holds E G H σ Γ → t (thenD X rest D) σ H) : Bk X E Γ (st :: rest) D := fun G H σ hh => WB.of (pss_cons p WB.pss) (h G H σ hh)
theorem bk_weak (h : Bk X E Γ' rest D) (l : Γ'.length = Γ.length) (w : ∀ (i : Nat) (s : Slot), Γ'[i]? = some s → s = .no ∨ Γ[i]? = some s) : Bk X E Γ rest D := fun G H σ hh => h G H σ (hh.weak l w)
/-- x = e -/
theorem bk_set (i : Nat) {a : Str} {p : Pos} (nd : X.N.Nodup) (he : Ev X Γ e r x) (k : Bk X E (Γ.set i (.sh r x)) rest D) (hi : X.N[i]? = some a := by rfl) (hx : Loc X.env.scope a := by first | exact Or.inl rfl | exact Or.inr rfl)
    (hs : swapsWith e (some (.Name a p)) pos.line X.env = pure false := by rfl) (hf : X.fn a = true ∨ X.env.scope.names.lookup a = some .local := by first | exact .inl rfl | exact .inr rfl) : Bk X E Γ (.Assign [.Name a p] e pos :: rest) D :=
  bk_of (ps_set nd hi hx WE.pe hs hf) fun G H σ hh => he E G H σ hh _ fun v G1 H1 l1 r1 => k G1 H1 _ ((hh.step l1).set_sh r1)
/-- x = e, e a new object that will change -/
theorem bk_setO (i : Nat) {a : Str} {p : Pos} {c : Oc} (nd : X.N.Nodup) (he : EvO X Γ e c) (k : Bk X E (Γ.set i (.ow c)) rest D) (hi : X.N[i]? = some a := by rfl) (hx : Loc X.env.scope a := by first | exact Or.inl rfl | exact Or.inr rfl)
    (hs : swapsWith e (some (.Name a p)) pos.line X.env = pure false := by rfl) (hf : X.fn a = true ∨ X.env.scope.names.lookup a = some .local := by first | exact .inl rfl | exact .inr rfl) : Bk X E Γ (.Assign [.Name a p] e pos :: rest) D :=
  bk_of (ps_set nd hi hx WE.pe hs hf) fun G H σ hh => he E G H σ hh _ fun q o G1 H1 n l1 g1 h1 c1 => k G1 H1 _ (hh.set_ow l1 n g1 h1 c1)
theorem bk_ret (he : Ev X Γ e r x) (k : RetOk E D r x) : Bk X E Γ (.Return (some e) pos :: rest) D :=
  bk_of (ps_ret WE.pe) fun G H σ hh => he E G H σ hh _ fun v G1 H1 l1 r1 => k v G1 H1 (hh.step l1).le r1
theorem bk_retO {c : Oc} (he : EvO X Γ e c) (k : RetO E D c) : Bk X E Γ (.Return (some e) pos :: rest) D :=
  bk_of (ps_ret WE.pe) fun G H σ hh => he E G H σ hh _ fun q o G1 H1 n l1 g1 h1 c1 => k q o G1 H1 (hh.step l1).le g1 (hh.le.fresh n) h1 c1
/-- a list of one's own is handed back -/
theorem bk_retv (i : Nat) {a : Str} {c : Oc} {p : Pos} (k : RetO E D c) (hm : ∀ q, ¬ E.M q) (hg : Γ[i]? = some (.ow c) := by rfl) (hN : X.N[i]? = some a := by rfl) (hv : Vis X.env.scope a := by first | exact Or.inl rfl | exact Or.inr (Or.inl rfl) | exact Or.inr (Or.inr rfl))
    (hd : (a == ("__debug__" : Str)) = false := by decide) (hcd : (a == ("__classdict__" : Str)) = false := by decide) : Bk X E Γ (.Return (some (.Name a p)) pos :: rest) D :=
  bk_of (ps_ret (pe_var hN hv hd hcd)) fun G H σ hh => by
    obtain ⟨q, o, h1, h2, h3, h4, h5⟩ := hh.ow hg
    exact ⟨_, h1, k q o G H hh.le h2 (h3.elim (fun m => absurd m (hm q)) id) h4 h5⟩
theorem bk_if {c : Expr} {A B : List Stmt} {p : Bool} (hc : EvT X Γ c p) (ha : p = true → Bk X E Γ A (thenD X rest D)) (hb : p = false → Bk X E Γ B (thenD X rest D)) : Bk X E Γ (.If c A B pos :: rest) D :=
  bk_of (ps_if WT.pt WB.pss WB.pss) fun G H σ hh => hc E G H σ hh _ fun G1 H1 l1 => by
    cases p with
    | true =>
      rw [if_pos rfl]
      exact ha rfl G1 H1 σ (hh.step l1)
    | false =>
      rw [if_neg Bool.false_ne_true]
      exact hb rfl G1 H1 σ (hh.step l1)
theorem bk_expr (he : Ev X Γ e r x) (k : Bk X E Γ rest D) (hs : swapsWith e none pos.line X.env = pure false := by rfl) : Bk X E Γ (.Expr e pos :: rest) D :=
  bk_of (ps_expr WE.pe hs) fun G H σ hh => he E G H σ hh _ fun v G1 H1 l1 r1 => k G1 H1 _ (hh.step l1)
/-- x, y = a, b -/
theorem bk_par (i j : Nat) {a b : Str} {e1 e2 : Expr} {px py pt : Pos} {kt k2 : Nat} {pt2 : Pos} (nd : X.N.Nodup) (h1 : Ev X Γ e1 r x) (h2 : Ev X Γ e2 s y) (k : Bk X E ((Γ.set i (.sh r x)).set j (.sh s y)) rest D) (hc : X.calm = true := by rfl) (hi : X.N[i]? = some a := by rfl) (hj : X.N[j]? = some b := by rfl) (hij : i ≠ j := by decide)
    (hx : X.env.scope.names.lookup a = some .local := by rfl) (hy : X.env.scope.names.lookup b = some .local := by rfl) (hs1 : starEach (e1 :: [e2]) X.env = (false, eval e1 X.env) :: starEach [e2] X.env := by rfl) (hs2 : starEach (e2 :: []) X.env = (false, eval e2 X.env) :: starEach [] X.env := by rfl)
    (hw : swappedStores [.Tuple [.Name a px, .Name b py] kt pt] (.Tuple [e1, e2] k2 pt2) X.env = pure (some [a, b]) := by rfl)
    (hs : swapsWithSole [.Tuple [.Name a px, .Name b py] kt pt] (.Tuple [e1, e2] k2 pt2) pos.line X.env = pure false := by rfl) : Bk X E Γ (.Assign [.Tuple [.Name a px, .Name b py] kt pt] (.Tuple [e1, e2] k2 pt2) pos :: rest) D :=
  bk_of (ps_par hc nd hi hj hij hx hy (pa_cons WE.pe (pa_cons WE.pe pa_nil hs2) hs1) hw hs) fun G H σ hh => h1 E G H σ hh _ fun v G1 H1 l1 r1 => h2 E G1 H1 σ (hh.step l1) _ fun w G2 H2 l2 r2 =>
    ⟨v, w, rfl, k G2 H2 _ ((((hh.step l1).step l2).set_sh (r.mono l2.g r1)).set_sh r2)⟩

/-! ### where a value is stored -/
/-- alike but at these places -/
def SameBut (vs : List Nat) (σ σ' : L2.St) : Prop := σ'.length = σ.length ∧ ∀ i, i ∉ vs → σ'[i]? = σ[i]?
theorem SameBut.set {i : Nat} {x : Option V} {σ : L2.St} : SameBut [i] σ (σ.set i x) := ⟨by rw [List.length_set], fun j hj => by
  rw [List.getElem?_set_ne]
  intro e
  exact hj (by simp [e])⟩
theorem SameBut.trans {vs ws : List Nat} {σ σ' σ'' : L2.St} (a : SameBut vs σ σ') (b : SameBut ws σ' σ'') : SameBut (vs ++ ws) σ σ'' := ⟨b.1.trans a.1, fun i hi => by
  rw [List.mem_append, not_or] at hi
  rw [b.2 i hi.2, a.2 i hi.1]⟩
/-- a store by a rule -/
structure WG (X : Cx) (tg : Expr) (v : V) (σ : L2.St) (H : Hp) (Q : L2.St → Hp → Prop) : Prop where
  run : ∀ (pins : List (Addr × Obj)) (s : Shared) (u : Value), Inv X pins σ H s → RelV v u → wpAny (model X.prog X.w) X.A (assign tg X.env u) (fun _ s' => ∃ σ' H', Inv X pins σ' H' s' ∧ Q σ' H') X.xe s
theorem WG.pg {X : Cx} {tg : Expr} : PG X tg (WG X tg) := ⟨fun pins s σ H v u Q I r h => h.run pins s u I r⟩
theorem WG.of {X : Cx} {tg : Expr} {t : TG} {v : V} {σ : L2.St} {H : Hp} {Q : L2.St → Hp → Prop} (p : PG X tg t) (h : t v σ H Q) : WG X tg v σ H Q := ⟨fun pins s u I r => p.run pins s σ H v u Q I r h⟩
def TgOk (X : Cx) (tg : Expr) (r : Rp α) (U : α → List Slot → List Slot) (vs : List Nat) : Prop := ∀ (E : Ent) (G H : Hp) (σ : L2.St) (Γ : List Slot) (v : V) (a : α), Holds E G H σ Γ → r.rel G v a → ∀ Q : L2.St → Hp → Prop, (∀ σ', SameBut vs σ σ' → Holds E G H σ' (U a Γ) → Q σ' H) → WG X tg v σ H Q
theorem tg_name (i : Nat) {a : Str} (nd : X.N.Nodup) (hi : X.N[i]? = some a := by rfl) (hx : Loc X.env.scope a := by first | exact Or.inl rfl | exact Or.inr rfl) (hf : X.fn a = true ∨ X.env.scope.names.lookup a = some .local := by first | exact .inl rfl | exact .inr rfl) :
    TgOk X (.Name a pos) r (fun a Γ => Γ.set i (.sh r a)) [i] := fun E G H σ Γ v a hh hv Q q => WG.of (pg_name nd hi hx hf) (q _ .set (hh.set_sh hv))
theorem tg_tup2 {t1 t2 : Expr} {n : Nat} {U : α → List Slot → List Slot} {W : β → List Slot → List Slot} {vs ws : List Nat} (h1 : TgOk X t1 r U vs) (h2 : TgOk X t2 s W ws) (hc : X.calm = true := by rfl) (hs1 : (assignEach (t1 :: [t2]) X.env).map (·.2) = assign t1 X.env :: (assignEach [t2] X.env).map (·.2) := by rfl)
    (hs2 : (assignEach (t2 :: []) X.env).map (·.2) = assign t2 X.env :: (assignEach [] X.env).map (·.2) := by rfl) (hn : (assignEach [t1, t2] X.env).length = 2 := by rfl) (hst : (assignEach [t1, t2] X.env).findIdx? (·.1) = none := by rfl) :
    TgOk X (.Tuple [t1, t2] n pos) (rT2 X.K r s) (fun a Γ => W a.2 (U a.1 Γ)) (vs ++ ws) := fun E G H σ Γ v a hh hv Q q => by
  obtain ⟨p, v1, v2, e, hp, q1, q2⟩ := hv
  subst e
  refine WG.of (pg_tup hc (pgs_cons (t := WG X t1) WG.pg (pgs_cons (t := WG X t2) WG.pg pgs_nil hs2) hs1) hn hst) ⟨p, [v1, v2], rfl, Evl.ex_t hh.le.gh hp, rfl, v1, [v2], rfl, ?_⟩
  exact h1 E G H σ Γ v1 a.1 hh q1 _ fun σ1 b1 hh1 => ⟨v2, [], rfl, h2 E G H σ1 _ v2 a.2 hh1 q2 _ fun σ2 b2 hh2 => ⟨rfl, q σ2 (b1.trans b2) hh2⟩⟩

/-! ### what is walked -/
/-- the items that an iterator gives, one behind another, whatever else is done meanwhile -/
def ItOk (J : It) (G0 : Hp) (r : Rp α) (xs : List α) : Prop := ∀ (i : Nat) (G H : Hp), Ex G0 G → Ex G H →
  (∀ a, xs[i]? = some a → J.go i H ∧ ∀ x H', J.yld i H x H' → ∃ G', Le G H G' H' ∧ r.rel G' x a) ∧ (xs.length ≤ i → J.stop i H)
def EvI (X : Cx) (Γ : List Slot) (tg iter : Expr) (r : Rp α) (xs : List α) : Prop := ∃ wi : TI, PI X tg iter wi ∧ ∀ (E : Ent) (G H : Hp) (σ : L2.St), Holds E G H σ Γ → ∀ R : It → Hp → Prop, (∀ J G' H', Le G H G' H' → ItOk J G' r xs → R J H') → wi σ H R
theorem ei_seq {tg : Expr} {xs : List α} (h : Ev X Γ e (rSeq X.K r) xs) : EvI X Γ tg e r xs := ⟨_, pi_list WE.pe, fun E G H σ hh R q => h E G H σ hh _ fun v G1 H1 l1 ⟨p, vs, e1, hp, ha⟩ =>
  ⟨p, e1, ⟨vs, Evl.ex_l l1.gh hp⟩, q _ G1 H1 l1 fun i G2 H2 g1 g2 => ⟨fun a ea => by
    obtain ⟨v, ev, rv⟩ := ha.get ea
    have hp2 := Evl.ex_l (g1.trans g2) hp
    exact ⟨⟨vs, v, hp2, ev⟩, fun x H' y => by
      obtain ⟨e3, y2⟩ := y
      have e4 := y2 vs hp2
      rw [ev] at e4
      cases e4
      rw [e3]
      exact ⟨G2, .refl g2, r.mono g1 rv⟩⟩, fun le => ⟨vs, Evl.ex_l (g1.trans g2) hp, by rw [ha.length]; exact le⟩⟩⟩⟩
theorem Ev.seq {xs : List α} (h : Ev X Γ e (rLst r) xs) : Ev X Γ e (rSeq X.K r) xs := fun E G H σ hh Q q => h E G H σ hh Q fun v G1 H1 l1 ⟨p, vs, e1, hp, ha⟩ => q v G1 H1 l1 ⟨p, vs, e1, .inl (.inl hp), ha⟩
theorem ei_lst {tg : Expr} {xs : List α} (h : Ev X Γ e (rLst r) xs) : EvI X Γ tg e r xs := ei_seq h.seq
/-- range(n) -/
def rangeL (lo : Int) (n : Nat) : List Int := (List.range n).map fun i : Nat => lo + (i : Int)
theorem ei_range1 {tg : Expr} {p : Pos} {n : Int} (h : Ev X Γ e rInt n) (hn : -(2 ^ 62) ≤ n ∧ n < 2 ^ 62) (hm : X.mg "range" = none) (hg : Gl X "range" := by rfl) (hs : starEach [e] X.env = [(false, eval e X.env)] := by rfl) (hs2 : starEach (e :: []) X.env = (false, eval e X.env) :: starEach [] X.env := by rfl) :
    EvI X Γ tg (.Call (.Name "range" p) [e] [] pos) rInt (rangeL 0 n.toNat) := ⟨_, pi_range1 hg hm (pa_cons WE.pe pa_nil hs2) hs, fun E G H σ hh R q => h E G H σ hh _ fun v G1 H1 l1 r1 => by
  refine ⟨n, by rw [show v = _ from r1], hn.1, hn.2, q _ G1 H1 l1 fun i G2 H2 g1 g2 => ⟨fun a ea => ?_, fun le => ?_⟩⟩
  · have lt : i < n.toNat := by
      have z := (List.getElem?_eq_some_iff.mp ea).1
      simpa [rangeL] using z
    refine ⟨lt, fun x H' y => ?_⟩
    obtain ⟨e1, e2⟩ := y
    subst e1
    refine ⟨G2, .refl g2, ?_⟩
    have : a = 0 + (i : Int) := by
      rw [rangeL, List.getElem?_map, List.getElem?_range lt] at ea
      exact (Option.some.inj ea).symm
    rw [e2, this]
    rfl
  · have z : (rangeL 0 n.toNat).length = n.toNat := by simp [rangeL]
    rw [z] at le
    exact le⟩

/-! ### for -/
/-- for: I tells what holds of the data that the turns change, mk the slots -/
theorem bk_for {S : Type} {tg : Expr} {U : α → List Slot → List Slot} {vs : List Nat} {xs : List α} (mk : S → List Slot) (I : Nat → S → Prop) (s0 : S) (hp : PassesOwn (model X.prog X.w) X.A X.env X.xe) (hi : EvI X Γ tg e r xs) (ht : TgOk X tg r U vs)
    (h0 : I 0 s0) (hΓ : ∀ G H σ, Holds E G H σ Γ → Holds E G H σ (mk s0))
    (step : ∀ F i s a, xs[i]? = some a → I i s → Bk X { E with F := F } (U a (mk s)) body { D with nx := fun σ H => ∃ s', I (i + 1) s' ∧ At { E with F := F } (mk s') σ H, ct := fun σ H => ∃ s', I (i + 1) s' ∧ At { E with F := F } (mk s') σ H, bk := fun σ H => WB X rest σ H D })
    (done : ∀ s, I xs.length s → Bk X E (mk s) rest D) (hc : X.calm = true := by rfl) (hs : ∀ x, foldedSetIterable e X.env x = pure x := by intro _; rfl) : Bk X E Γ (.For tg e body [] pos :: rest) D := by
  obtain ⟨wi, pi, hwi⟩ := hi
  refine bk_of (ps_for hp hc pi (WG.pg (tg := tg)) WB.pss hs) fun G H σ hh => hwi E G H σ hh _ fun J G1 H1 l1 it => ?_
  refine ⟨fun i m σ H => m = xs.length - i ∧ i ≤ xs.length ∧ ∃ s G, I i s ∧ Holds { E with F := G1 } G H σ (mk s), ⟨xs.length, by simp, Nat.zero_le _, s0, G1, h0, (hΓ _ _ _ (hh.step l1)).floor (.refl _)⟩, ?_⟩
  rintro i m σ H ⟨rfl, hi, s, G2, hs, hh2⟩
  obtain ⟨go, stop⟩ := it i G2 H hh2.fl hh2.le.gh
  by_cases lt : i < xs.length
  · obtain ⟨g, y⟩ := go xs[i] (by simp [lt])
    refine .inr ⟨g, fun σ' H' => ∃ s', I (i + 1) s' ∧ At { E with F := G1 } (mk s') σ' H', fun σ' H' ⟨s', i', G', h'⟩ => ⟨xs.length - (i + 1), by omega, rfl, lt, s', G', i', h'⟩, fun x H' yy => ?_⟩
    obtain ⟨G3, l3, rx⟩ := y x H' yy
    refine ht { E with F := G1 } G3 H' σ (mk s) x _ (hh2.step l3) rx _ fun σ3 _ hh3 => ?_
    exact step G1 i s xs[i] (by simp [lt]) hs G3 H' σ3 hh3
  · have e : i = xs.length := by omega
    subst e
    exact .inl ⟨stop (Nat.le_refl _), done s hs G2 H σ (hh2.unfloor ((hh.step l1).fl.trans hh2.fl))⟩
/-- the end of a turn -/
theorem bk_next {S : Type} {mk : S → List Slot} {I : Nat → S → Prop} {i : Nat} (s' : S) (hI : I (i + 1) s') (l : (mk s').length = Γ.length) (w : ∀ (i : Nat) (s : Slot), (mk s')[i]? = some s → s = .no ∨ Γ[i]? = some s) {bk ct : L2.St → Hp → Prop} {rt : VK} :
    Bk X E Γ [] { nx := fun σ H => ∃ s', I (i + 1) s' ∧ At E (mk s') σ H, rt := rt, bk := bk, ct := ct } := bk_end fun G H σ hh => ⟨s', hI, G, hh.weak l w⟩
end
end Hf

namespace Hf
open PySem PySem.Spec PyProof.Rows L2

/-! ### what a def promises, by data -/
/-- a def that only reads: ι the data, Pre what is asked of it, args the arguments, the answer told by r -/
def PSp {ι : Type} (Pre : ι → Prop) (args : ι → List Ty) {α : Type} (r : Rp α) (res : ι → α) : Sp := fun vs H Q _ => ∃ (x : ι) (G : Hp), Pre x ∧ Ex G H ∧ Args G vs (args x) ∧ ∀ v G' H', Le G H G' H' → r.rel G' v (res x) → Q v H'
/-- the same, the answer a new object that may change -/
def OSp {ι : Type} (Pre : ι → Prop) (args : ι → List Ty) (c : ι → Oc) : Sp := fun vs H Q _ => ∃ (x : ι) (G : Hp), Pre x ∧ Ex G H ∧ Args G vs (args x) ∧ ∀ p o G' H', H p = none → Le G H G' H' → G' p = none → H' p = some o → (c x).rel G' o → Q (.ref p) H'
theorem args_length {G : Hp} : ∀ {vs : List V} {ts : List Ty}, Args G vs ts → vs.length = ts.length
  | [], [], _ => rfl
  | _ :: _, _ :: _, h => congrArg (· + 1) (args_length h.2)
/-- slots at the entry -/
def slots0 (ts : List Ty) (n : Nat) : List Slot := ts.map (fun t => Slot.sh t.r t.a) ++ List.replicate n .no
theorem args_get {G : Hp} : ∀ {vs : List V} {ts : List Ty} {i : Nat} {t : Ty}, Args G vs ts → ts[i]? = some t → ∃ v, vs[i]? = some v ∧ t.r.rel G v t.a
  | [], [], i, t, _, e => by cases e
  | _ :: _, _ :: _, 0, t, h, e => ⟨_, rfl, by cases e; exact h.1⟩
  | _ :: _, _ :: _, i + 1, t, h, e => args_get (i := i) h.2 e
theorem holds_start {G H : Hp} {N : List Str} {vs : List V} {ts : List Ty} (e : Ex G H) (a : Args G vs ts) (hn : ts.length ≤ N.length) : Holds { G := G, H := H } G H (L2.start N vs) (slots0 ts (N.length - ts.length)) := by
  have hl := args_length a
  refine ⟨.start e, (fun a o q => by cases q), ?_, fun i s q => ?_, fun i j s t q1 q2 w1 w2 => ?_⟩
  · unfold L2.start slots0
    simp only [List.length_append, List.length_map, List.length_replicate]
    omega
  · unfold slots0 at q
    by_cases lt : i < ts.length
    · rw [List.getElem?_append_left (by simpa using lt), List.getElem?_map] at q
      cases w : ts[i]? with
      | none =>
        rw [w] at q
        cases q
      | some t =>
        rw [w] at q
        cases q
        obtain ⟨v, h1, h2⟩ := args_get a w
        refine ⟨v, ?_, h2⟩
        unfold L2.start
        rw [List.getElem?_append_left (by rw [List.length_map, hl]; exact lt), List.getElem?_map, h1]
        rfl
    · rw [List.getElem?_append_right (by simpa using lt)] at q
      have z := List.mem_of_getElem? q
      rw [List.mem_replicate] at z
      rw [z.2]
      trivial
  · have none : ∀ (i : Nat) (s : Slot), (slots0 ts (N.length - ts.length))[i]? = some s → s.isOw = true → False := fun i s q w => by
      have z := List.mem_of_getElem? q
      unfold slots0 at z
      rcases List.mem_append.mp z with z | z
      · obtain ⟨t, _, e⟩ := List.mem_map.mp z
        rw [← e] at w
        cases w
      · rw [List.mem_replicate] at z
        rw [z.2] at w
        cases w
    exact (none i s q1 w1).elim

section
variable {P : Program} {w : World} {K : PySem.W.Frag} {mg : Str → Option Value} {base : Heap} {x qual : Str} {params : Arguments} {body : List Stmt} {scope : Scope} {dvs : List V} {kws : List (Str × V)} {f : Addr} {fd : FuncData}
abbrev CXL (P : Program) (w : World) : CXT := L2.CX P w
/-- a def that only reads keeps its promise -/
theorem fn_pure {N ps : List Str} {k : Nat} {ι : Type} {Pre : ι → Prop} {args : ι → List Ty} {α : Type} {r : Rp α} {res : ι → α} (F : FunD K x qual params body scope dvs kws f fd) (S : FnScope N ps scope) (hl : ∀ y, (args y).length = ps.length)
    (hb : ∀ (y : ι), Pre y → ∀ (cdv : Value) (A : Around) (outer : List Env) (s : Shared) (H : Hp) (E0 : XK) (G : Hp) (D : Ends), Room k (A.deeper (envOfC qual scope s.heap.objs.size f cdv)) → RetOk { G := G, H := H } D r (res y) → (∀ σ G' H', LeE G H (fun _ => False) G' H' → r.rel G' .non (res y) → D.nx σ H') →
      Bk (cxOf (CXL P w) P w K mg base N qual scope f cdv A outer s H E0) { G := G, H := H } (slots0 (args y) (N.length - ps.length)) body D) :
    FnOk P w K mg base (CXL P w) (k + 1) f fd ps (PSp Pre args r res) := by
  refine F.ok S (fun vs H Q E ⟨y, G, _, _, a, _⟩ => by rw [args_length a, hl]) fun cdv A outer s H vs Q E hr ⟨y, G, hp, e, a, hq⟩ => ⟨_, WB.pss, ?_⟩
  have h := holds_start (N := N) e a (by rw [hl]; have z := congrArg List.length S.pre; rw [List.length_take] at z; omega)
  rw [hl] at h
  exact hb y hp cdv A outer s H E G _ hr (fun v G' H' l rv => hq v G' H' (l.le fun _ z => z) rv) (fun σ G' H' l rv => hq _ G' H' (l.le fun _ z => z) rv) G H _ h
theorem fn_own {N ps : List Str} {k : Nat} {ι : Type} {Pre : ι → Prop} {args : ι → List Ty} {c : ι → Oc} (F : FunD K x qual params body scope dvs kws f fd) (S : FnScope N ps scope) (hl : ∀ y, (args y).length = ps.length)
    (hb : ∀ (y : ι), Pre y → ∀ (cdv : Value) (A : Around) (outer : List Env) (s : Shared) (H : Hp) (E0 : XK) (G : Hp) (D : Ends), Room k (A.deeper (envOfC qual scope s.heap.objs.size f cdv)) → RetO { G := G, H := H } D (c y) →
      Bk (cxOf (CXL P w) P w K mg base N qual scope f cdv A outer s H E0) { G := G, H := H } (slots0 (args y) (N.length - ps.length)) body D) :
    FnOk P w K mg base (CXL P w) (k + 1) f fd ps (OSp Pre args c) := by
  refine F.ok S (fun vs H Q E ⟨y, G, _, _, a, _⟩ => by rw [args_length a, hl]) fun cdv A outer s H vs Q E hr ⟨y, G, hp, e, a, hq⟩ => ⟨_, WB.pss, ?_⟩
  have h := holds_start (N := N) e a (by rw [hl]; have z := congrArg List.length S.pre; rw [List.length_take] at z; omega)
  rw [hl] at h
  exact hb y hp cdv A outer s H E G _ hr (fun p o G' H' l g n h1 h2 => hq p o G' H' n (l.le fun _ z => z) g h1 h2) G H _ h
end

/-! ### a def of the module, as callers see it -/
structure Has (P : Program) (w : World) (K : PySem.W.Frag) (mg : Str → Option Value) (base : Heap) (x : Str) (k : Nat) (sp : Sp) : Prop where
  ex : ∃ (f : Addr) (fd : FuncData) (ps : List Str) (spF : Sp) (dvs : List V) (ds : List Value), mg x = some (.ref f) ∧ PySem.W.keepIn K (.ref f) = true ∧ Binds K fd ps ds ∧ Vals dvs ds ∧ FnOk P w K mg base (CXL P w) k f fd ps spF ∧ ∀ vs H Q, sp vs H Q E0 → spF (vs ++ dvs) H Q E0
/-- all parameters written -/
theorem Has.mk0 {P : Program} {w : World} {K : PySem.W.Frag} {mg : Str → Option Value} {base : Heap} {x : Str} {k : Nat} {sp : Sp} {f : Addr} {fd : FuncData} {ps : List Str} (hm : mg x = some (.ref f)) (hk : PySem.W.keepIn K (.ref f) = true) (hb : Binds K fd ps []) (F : FnOk P w K mg base (CXL P w) k f fd ps sp) : Has P w K mg base x k sp :=
  ⟨f, fd, ps, sp, [], [], hm, hk, hb, .nil, F, fun vs H Q h => by rw [List.append_nil]; exact h⟩
section
variable {X : Cx} {Γ : List Slot} {e a : Expr} {es : List Expr} {pos p : Pos} {α ι : Type} {r : Rp α} {k j : Nat} {f : Str} {Pre : ι → Prop} {args : ι → List Ty} {res : ι → α} {c : ι → Oc}
theorem we_call {sp : Sp} {σ : L2.St} {H : Hp} {Q : VK} (h : Has X.prog X.w X.K X.mg X.base f k sp) (hr : Room j X.A) (hk : k ≤ j) (ha : WA X (e :: es) σ H fun vs H1 => sp vs H1 Q E0) (hg : Gl X f := by rfl) (hdb : (f == ("__debug__" : Str)) = false := by decide)
    (he : starEach (e :: es) X.env = (false, eval e X.env) :: starEach es X.env := by rfl) (hpl : (backTo pos (starEach es X.env)).any (·.1) = false := by rfl) : WE X (.Call (.Name f p) (e :: es) [] pos) σ H Q := by
  obtain ⟨f0, fd, ps, spF, dvs, ds, hm, hkp, hb, hd, F, hi⟩ := h.ex
  refine WE.of (pe_call F (hr.mono hk) hg hm hkp hb hd passL WA.pa hdb he hpl) ?_
  exact ⟨fun pos pins s I => thn (ha.run pos pins s I) fun us s1 ⟨vs, H1, I1, r1, q⟩ => ⟨vs, H1, I1, r1, hi vs H1 Q q⟩⟩
theorem we_call0 {sp : Sp} {σ : L2.St} {H : Hp} {Q : VK} (h : Has X.prog X.w X.K X.mg X.base f k sp) (hr : Room j X.A) (hk : k ≤ j) (ha : sp [] H Q E0) (hg : Gl X f := by rfl) (hdb : (f == ("__debug__" : Str)) = false := by decide) : WE X (.Call (.Name f p) [] [] pos) σ H Q := by
  obtain ⟨f0, fd, ps, spF, dvs, ds, hm, hkp, hb, hd, F, hi⟩ := h.ex
  exact WE.of (pe_call0 F (hr.mono hk) hg hm hkp hb hd passL hdb) (hi [] H Q ha)
/-- f(e, ..), a def that only reads -/
theorem ev_call {z : α} (h : Has X.prog X.w X.K X.mg X.base f k (PSp Pre args r res)) (hr : Room j X.A) (hk : k ≤ j) (y : ι) (hp : Pre y) (ha : EvA X Γ (e :: es) (args y)) (hz : res y = z := by rfl) (hg : Gl X f := by rfl) (hdb : (f == ("__debug__" : Str)) = false := by decide)
    (he : starEach (e :: es) X.env = (false, eval e X.env) :: starEach es X.env := by rfl) (hpl : (backTo pos (starEach es X.env)).any (·.1) = false := by rfl) : Ev X Γ (.Call (.Name f p) (e :: es) [] pos) r z := fun E G H σ hh Q q =>
  we_call h hr hk (ha E G H σ hh _ fun vs G1 H1 l1 a1 => ⟨y, G1, hp, l1.gh, a1, fun v G2 H2 l2 r2 => q v G2 H2 (l1.trans l2) (hz ▸ r2)⟩) hg hdb he hpl
theorem ev_call0 {z : α} (h : Has X.prog X.w X.K X.mg X.base f k (PSp Pre args r res)) (hr : Room j X.A) (hk : k ≤ j) (y : ι) (hp : Pre y) (ha : args y = []) (hz : res y = z := by rfl) (hg : Gl X f := by rfl) (hdb : (f == ("__debug__" : Str)) = false := by decide) : Ev X Γ (.Call (.Name f p) [] [] pos) r z := fun E G H σ hh Q q =>
  we_call0 h hr hk ⟨y, G, hp, hh.le.gh, by rw [ha]; trivial, fun v G2 H2 l2 r2 => q v G2 H2 l2 (hz ▸ r2)⟩ hg hdb
theorem eo_call {z : Oc} (h : Has X.prog X.w X.K X.mg X.base f k (OSp Pre args c)) (hr : Room j X.A) (hk : k ≤ j) (y : ι) (hp : Pre y) (ha : EvA X Γ (e :: es) (args y)) (hz : c y = z := by rfl) (hg : Gl X f := by rfl) (hdb : (f == ("__debug__" : Str)) = false := by decide)
    (he : starEach (e :: es) X.env = (false, eval e X.env) :: starEach es X.env := by rfl) (hpl : (backTo pos (starEach es X.env)).any (·.1) = false := by rfl) : EvO X Γ (.Call (.Name f p) (e :: es) [] pos) z := fun E G H σ hh Q q =>
  we_call h hr hk (ha E G H σ hh _ fun vs G1 H1 l1 a1 => ⟨y, G1, hp, l1.gh, a1, fun p o G2 H2 n l2 g h1 h2 => q p o G2 H2 (Evl.fresh_back l1.h n) (l1.trans l2) g h1 (hz ▸ h2)⟩) hg hdb he hpl
theorem eo_call0 {z : Oc} (h : Has X.prog X.w X.K X.mg X.base f k (OSp Pre args c)) (hr : Room j X.A) (hk : k ≤ j) (y : ι) (hp : Pre y) (ha : args y = []) (hz : c y = z := by rfl) (hg : Gl X f := by rfl) (hdb : (f == ("__debug__" : Str)) = false := by decide) : EvO X Γ (.Call (.Name f p) [] [] pos) z := fun E G H σ hh Q q =>
  we_call0 h hr hk ⟨y, G, hp, hh.le.gh, by rw [ha]; trivial, fun p o G2 H2 n l2 g h1 h2 => q p o G2 H2 n l2 g h1 (hz ▸ h2)⟩ hg hdb
end

/-! ### built-ins, displays, subscripts -/
def noSlice : Expr → Bool
  | .Slice .. => false
  | _ => true
theorem plain_of {f : Expr} (h : noSlice f = true) : PlainIx f := fun o i => by
  cases f <;> first | (cases h; done) | (unfold subscripted; rfl)
section
variable {X : Cx} {Γ : List Slot} {e f g : Expr} {es : List Expr} {pos p : Pos} {α β γ : Type} {r : Rp α} {x : α} {s : Rp β} {y : β} {t : Rp γ} {z : γ} {i j : Int} {as bs : List α} {u v : Str}
/-- [e, ..] -/
theorem eo_list {ts : List Ty} (h : EvA X Γ es ts) (hl : ts.length ≤ 100000) (hr : ∀ G vs, Args G vs ts → All2 r G vs as) : EvO X Γ (.List es pos) (oLst r as) := fun E G H σ hh Q q =>
  WE.of (pe_lst WA.pa) (h E G H σ hh _ fun vs G1 H1 l1 a1 => ⟨by rw [args_length a1]; exact Evl.sz_of hl, fun p n => q p _ G1 _ (Evl.fresh_back l1.h n) (l1.addO n) (Evl.fresh_back l1.gh n) upd_same ⟨vs, rfl, hr G1 vs a1⟩⟩)
/-- items of one kind -/
def tys (r : Rp α) (as : List α) : List Ty := as.map fun a => ⟨r, a⟩
theorem args_tys {G : Hp} : ∀ {vs : List V} {as : List α}, Args G vs (tys r as) → All2 r G vs as
  | [], [], _ => .nil
  | _ :: _, _ :: _, h => .cons h.1 (args_tys h.2)
theorem eo_lst (h : EvA X Γ es (tys r as)) (hl : as.length ≤ 100000) : EvO X Γ (.List es pos) (oLst r as) := eo_list h (by simpa [tys] using hl) fun _ _ => args_tys
theorem eo_nil : EvO X Γ (.List [] pos) (oLst r []) := eo_lst ea_nil (Nat.zero_le _)
/-- (a, b) -/
theorem ev_tup2 {n : Nat} (h : EvA X Γ es [⟨r, x⟩, ⟨s, y⟩]) : Ev X Γ (.Tuple es n pos) (rT2 X.K r s) (x, y) := fun E G H σ hh Q q =>
  WE.of (pe_tup WA.pa) (h E G H σ hh _ fun vs G1 H1 l1 a1 => by
    match vs, a1 with
    | [v1, v2], ⟨h1, h2, _⟩ =>
      exact ⟨by show 2 ≤ sizeLine; decide, fun p n => q _ (upd G1 p (.tup [v1, v2])) _ (l1.add n) ⟨p, v1, v2, rfl, .inl (.inl upd_same), r.mono (Evl.Ex.new (Evl.fresh_back l1.gh n)) h1, s.mono (Evl.Ex.new (Evl.fresh_back l1.gh n)) h2⟩⟩)
theorem ev_tup3 {n : Nat} (h : EvA X Γ es [⟨r, x⟩, ⟨s, y⟩, ⟨t, z⟩]) : Ev X Γ (.Tuple es n pos) (rT3 X.K r s t) (x, y, z) := fun E G H σ hh Q q =>
  WE.of (pe_tup WA.pa) (h E G H σ hh _ fun vs G1 H1 l1 a1 => by
    match vs, a1 with
    | [v1, v2, v3], ⟨h1, h2, h3, _⟩ =>
      exact ⟨by show 3 ≤ sizeLine; decide, fun p n => q _ (upd G1 p (.tup [v1, v2, v3])) _ (l1.add n) ⟨p, v1, v2, v3, rfl, .inl (.inl upd_same), r.mono (Evl.Ex.new (Evl.fresh_back l1.gh n)) h1, s.mono (Evl.Ex.new (Evl.fresh_back l1.gh n)) h2, t.mono (Evl.Ex.new (Evl.fresh_back l1.gh n)) h3⟩⟩)
/-- x[0], x[1] of a pair -/
theorem ev_fst {a : α × β} {k : Nat} {p2 : Pos} (h : Ev X Γ e (rT2 X.K r s) a) : Ev X Γ (.Subscript e (.Constant (.int 0) k p2) pos) r a.1 := fun E G H σ hh Q q =>
  WE.of (pe_ix ix_tup WE.pe pe_int (plain_of rfl)) (h E G H σ hh _ fun v G1 H1 l1 ⟨p, v1, v2, e1, hp, h1, h2⟩ => ⟨p, _, 0, v1, e1, rfl, Evl.ex_t l1.gh hp, rfl, q _ G1 H1 l1 h1⟩)
theorem ev_snd {a : α × β} {k : Nat} {p2 : Pos} (h : Ev X Γ e (rT2 X.K r s) a) : Ev X Γ (.Subscript e (.Constant (.int 1) k p2) pos) s a.2 := fun E G H σ hh Q q =>
  WE.of (pe_ix ix_tup WE.pe pe_int (plain_of rfl)) (h E G H σ hh _ fun v G1 H1 l1 ⟨p, v1, v2, e1, hp, h1, h2⟩ => ⟨p, _, 1, v2, e1, rfl, Evl.ex_t l1.gh hp, rfl, q _ G1 H1 l1 h2⟩)
/-- xs[i] -/
theorem ev_ixS {k : Nat} (h : Ev X Γ e (rSeq X.K r) as) (h2 : Ev X Γ f rInt (k : Int)) (hx : as[k]? = some x) (hs : PlainIx f := by exact plain_of rfl) : Ev X Γ (.Subscript e f pos) r x := fun E G H σ hh Q q =>
  WE.of (pe_ix ix_list WE.pe WE.pe hs) (h E G H σ hh _ fun v G1 H1 l1 ⟨p, vs, e1, hp, ha⟩ => h2 E G1 H1 σ (hh.step l1) _ fun w G2 H2 l2 r2 => by
    obtain ⟨a, ea, ra⟩ := ha.get hx
    exact ⟨p, vs, (k : Int), a, e1, r2, Evl.ex_l (l1.gh.trans l2.h) hp, atI_nat ea, q _ G2 H2 (l1.trans l2) (r.mono l2.g ra)⟩)
theorem ev_ix {k : Nat} (h : Ev X Γ e (rLst r) as) (h2 : Ev X Γ f rInt (k : Int)) (hx : as[k]? = some x) (hs : PlainIx f := by exact plain_of rfl) : Ev X Γ (.Subscript e f pos) r x := ev_ixS h.seq h2 hx hs
/-- of a list that may change -/
theorem ev_ixB {k : Nat} (h : EvB X Γ e (oLst r as)) (h2 : Ev X Γ f rInt (k : Int)) (hx : as[k]? = some x) (hs : PlainIx f := by exact plain_of rfl) : Ev X Γ (.Subscript e f pos) r x := fun E G H σ hh Q q =>
  WE.of (pe_ix ix_list WE.pe WE.pe hs) (h E G H σ hh _ fun p o G1 H1 l1 hp ⟨vs, e1, ha⟩ => h2 E G1 H1 σ (hh.step l1) _ fun w G2 H2 l2 r2 => by
    subst e1
    obtain ⟨a, ea, ra⟩ := ha.get hx
    exact ⟨p, vs, (k : Int), a, rfl, r2, .inl (.inl (l2.h _ _ hp)), atI_nat ea, q _ G2 H2 (l1.trans l2) (r.mono l2.g ra)⟩)
/-- len(xs) -/
theorem ev_lenS (h : Ev X Γ e (rSeq X.K r) as) (hm : X.mg "len" = none) (hg : Gl X "len" := by rfl) (he : starEach (e :: []) X.env = (false, eval e X.env) :: starEach [] X.env := by rfl) (hpl : (backTo pos (starEach [] X.env)).any (·.1) = false := by rfl) : Ev X Γ (.Call (.Name "len" p) [e] [] pos) rInt (as.length : Int) := fun E G H σ hh Q q =>
  WE.of (pe_callB call_len_seq hg hm PySem.boot_len (pa_cons WE.pe pa_nil he) (he := he) (hpl := hpl)) (h E G H σ hh _ fun v G1 H1 l1 ⟨p, vs, e1, hp, ha⟩ => ⟨p, vs, by rw [e1], .inl (Evl.ex_l l1.gh hp), by rw [ha.length]; exact q _ G1 H1 l1 rfl⟩)
theorem ev_len (h : Ev X Γ e (rLst r) as) (hm : X.mg "len" = none) (hg : Gl X "len" := by rfl) (he : starEach (e :: []) X.env = (false, eval e X.env) :: starEach [] X.env := by rfl) (hpl : (backTo pos (starEach [] X.env)).any (·.1) = false := by rfl) : Ev X Γ (.Call (.Name "len" p) [e] [] pos) rInt (as.length : Int) := ev_lenS h.seq hm hg he hpl
theorem ev_lenB (h : EvB X Γ e (oLst r as)) (hm : X.mg "len" = none) (hg : Gl X "len" := by rfl) (he : starEach (e :: []) X.env = (false, eval e X.env) :: starEach [] X.env := by rfl) (hpl : (backTo pos (starEach [] X.env)).any (·.1) = false := by rfl) : Ev X Γ (.Call (.Name "len" p) [e] [] pos) rInt (as.length : Int) := fun E G H σ hh Q q =>
  WE.of (pe_callB call_len_seq hg hm PySem.boot_len (pa_cons WE.pe pa_nil he) (he := he) (hpl := hpl)) (h E G H σ hh _ fun p o G1 H1 l1 hp ⟨vs, e1, ha⟩ => by
    subst e1
    exact ⟨p, vs, rfl, .inl (.inl (.inl hp)), by rw [ha.length]; exact q _ G1 H1 l1 rfl⟩)
/-- len of a text -/
theorem ev_lenT (h : Ev X Γ e rStr u) (hl : u.length ≤ sizeLine) (hm : X.mg "len" = none) (hg : Gl X "len" := by rfl) (he : starEach (e :: []) X.env = (false, eval e X.env) :: starEach [] X.env := by rfl) (hpl : (backTo pos (starEach [] X.env)).any (·.1) = false := by rfl) : Ev X Γ (.Call (.Name "len" p) [e] [] pos) rInt (u.length : Int) := fun E G H σ hh Q q =>
  WE.of (pe_callB call_len_str hg hm PySem.boot_len (pa_cons WE.pe pa_nil he) (he := he) (hpl := hpl)) (h E G H σ hh _ fun v G1 H1 l1 e1 => ⟨u, by rw [show v = _ from e1], hl, q _ G1 H1 l1 rfl⟩)
/-- xs + ys -/
theorem eo_cat (h : EvB X Γ e (oLst r as)) (h2 : EvB X Γ f (oLst r bs)) (hl : as.length + bs.length ≤ sizeLine) : EvO X Γ (.BinOp e .Add f pos) (oLst r (as ++ bs)) := fun E G H σ hh Q q =>
  WE.of (pe_op op_cat WE.pe WE.pe) (h E G H σ hh _ fun p o G1 H1 l1 hp ⟨vs, e1, ha⟩ => h2 E G1 H1 σ (hh.step l1) _ fun p2 o2 G2 H2 l2 hp2 ⟨ws, e2, hb⟩ => by
    subst e1 e2
    exact ⟨p, p2, vs, ws, rfl, rfl, l2.h _ _ hp, hp2, by rw [ha.length, hb.length]; exact hl, fun p3 n => q p3 _ G2 _ (Evl.fresh_back (l1.trans l2).h n) ((l1.trans l2).addO n) (Evl.fresh_back l2.gh n) upd_same ⟨vs ++ ws, rfl, (ha.mono l2.g).append hb⟩⟩)
/-- list(xs) -/
theorem eo_listOf (h : EvB X Γ e (oLst r as)) (hm : X.mg "list" = none) (hg : Gl X "list" := by rfl) (he : starEach (e :: []) X.env = (false, eval e X.env) :: starEach [] X.env := by rfl) (hpl : (backTo pos (starEach [] X.env)).any (·.1) = false := by rfl) : EvO X Γ (.Call (.Name "list" p) [e] [] pos) (oLst r as) := fun E G H σ hh Q q =>
  WE.of (pe_callTy call_list_of hg hm (by decide +kernel) (pa_cons WE.pe pa_nil he) (he := he) (hpl := hpl)) (h E G H σ hh _ fun p o G1 H1 l1 hp ⟨vs, e1, ha⟩ => by
    subst e1
    exact ⟨p, vs, rfl, .inl (.inl (.inl hp)), fun p3 n => q p3 _ G1 _ (Evl.fresh_back l1.h n) (l1.addO n) (Evl.fresh_back l1.gh n) upd_same ⟨vs, rfl, ha⟩⟩)
/-- abs(n) -/
theorem ev_abs (h : Ev X Γ e rInt i) (hm : X.mg "abs" = none) (hg : Gl X "abs" := by rfl) (he : starEach (e :: []) X.env = (false, eval e X.env) :: starEach [] X.env := by rfl) (hpl : (backTo pos (starEach [] X.env)).any (·.1) = false := by rfl) : Ev X Γ (.Call (.Name "abs" p) [e] [] pos) rInt (if i < 0 then -i else i) := fun E G H σ hh Q q =>
  WE.of (pe_callB call_abs hg hm (by decide +kernel) (pa_cons WE.pe pa_nil he) (he := he) (hpl := hpl)) (h E G H σ hh _ fun v G1 H1 l1 e1 => ⟨i, by rw [show v = _ from e1], q _ G1 H1 l1 rfl⟩)
/-- max(a, b), min(a, b) -/
theorem ev_max2 (h : EvA X Γ [e, f] [⟨rInt, i⟩, ⟨rInt, j⟩]) (hm : X.mg "max" = none) (hc : X.calm = true := by rfl) (hg : Gl X "max" := by rfl) (he : starEach (e :: [f]) X.env = (false, eval e X.env) :: starEach [f] X.env := by rfl) (hpl : (backTo pos (starEach [f] X.env)).any (·.1) = false := by rfl) : Ev X Γ (.Call (.Name "max" p) [e, f] [] pos) rInt (if j > i then j else i) := fun E G H σ hh Q q =>
  WE.of (pe_callB (call_max2 hc) hg hm (by decide +kernel) WA.pa (he := he) (hpl := hpl)) (h E G H σ hh _ fun vs G1 H1 l1 a1 => by
    match vs, a1 with
    | [v1, v2], ⟨h1, h2, _⟩ => exact ⟨i, j, by rw [show v1 = _ from h1, show v2 = _ from h2], q _ G1 H1 l1 rfl⟩)
theorem ev_min2 (h : EvA X Γ [e, f] [⟨rInt, i⟩, ⟨rInt, j⟩]) (hm : X.mg "min" = none) (hc : X.calm = true := by rfl) (hg : Gl X "min" := by rfl) (he : starEach (e :: [f]) X.env = (false, eval e X.env) :: starEach [f] X.env := by rfl) (hpl : (backTo pos (starEach [f] X.env)).any (·.1) = false := by rfl) : Ev X Γ (.Call (.Name "min" p) [e, f] [] pos) rInt (if j < i then j else i) := fun E G H σ hh Q q =>
  WE.of (pe_callB (call_min2 hc) hg hm (by decide +kernel) WA.pa (he := he) (hpl := hpl)) (h E G H σ hh _ fun vs G1 H1 l1 a1 => by
    match vs, a1 with
    | [v1, v2], ⟨h1, h2, _⟩ => exact ⟨i, j, by rw [show v1 = _ from h1, show v2 = _ from h2], q _ G1 H1 l1 rfl⟩)
/-- sum, all, any of a list -/
theorem ev_sum {ns : List Int} (h : EvB X Γ e (oLst rInt ns)) (hm : X.mg "sum" = none) (hc : X.calm = true := by rfl) (hg : Gl X "sum" := by rfl) (he : starEach (e :: []) X.env = (false, eval e X.env) :: starEach [] X.env := by rfl) (hpl : (backTo pos (starEach [] X.env)).any (·.1) = false := by rfl) : Ev X Γ (.Call (.Name "sum" p) [e] [] pos) rInt ns.sum := fun E G H σ hh Q q =>
  WE.of (pe_callB (cr_sum hc) hg hm (by decide +kernel) (pa_cons WE.pe pa_nil he) (he := he) (hpl := hpl)) (h E G H σ hh _ fun p o G1 H1 l1 hp ⟨vs, e1, ha⟩ => by
    subst e1
    rw [all2_int ha] at hp
    exact ⟨p, ns, rfl, .inl (.inl hp), q _ G1 H1 l1 rfl⟩)
theorem ev_all {ns : List Bool} (h : EvB X Γ e (oLst rBool ns)) (hm : X.mg "all" = none) (hc : X.calm = true := by rfl) (hg : Gl X "all" := by rfl) (he : starEach (e :: []) X.env = (false, eval e X.env) :: starEach [] X.env := by rfl) (hpl : (backTo pos (starEach [] X.env)).any (·.1) = false := by rfl) : Ev X Γ (.Call (.Name "all" p) [e] [] pos) rBool (ns.all id) := fun E G H σ hh Q q =>
  WE.of (pe_callB (cr_all hc) hg hm (by decide +kernel) (pa_cons WE.pe pa_nil he) (he := he) (hpl := hpl)) (h E G H σ hh _ fun p o G1 H1 l1 hp ⟨vs, e1, ha⟩ => by
    subst e1
    rw [all2_bool ha] at hp
    exact ⟨p, ns, rfl, .inl (.inl hp), q _ G1 H1 l1 rfl⟩)
theorem ev_any {ns : List Bool} (h : EvB X Γ e (oLst rBool ns)) (hm : X.mg "any" = none) (hc : X.calm = true := by rfl) (hg : Gl X "any" := by rfl) (he : starEach (e :: []) X.env = (false, eval e X.env) :: starEach [] X.env := by rfl) (hpl : (backTo pos (starEach [] X.env)).any (·.1) = false := by rfl) : Ev X Γ (.Call (.Name "any" p) [e] [] pos) rBool (ns.any id) := fun E G H σ hh Q q =>
  WE.of (pe_callB (cr_any hc) hg hm (by decide +kernel) (pa_cons WE.pe pa_nil he) (he := he) (hpl := hpl)) (h E G H σ hh _ fun p o G1 H1 l1 hp ⟨vs, e1, ha⟩ => by
    subst e1
    rw [all2_bool ha] at hp
    exact ⟨p, ns, rfl, .inl (.inl hp), q _ G1 H1 l1 rfl⟩)
/-- str(n) -/
theorem ev_strI (h : Ev X Γ e rInt i) (hz : i.natAbs.log2 < 1920) (hm : X.mg "str" = none) (hg : Gl X "str" := by rfl) (he : starEach (e :: []) X.env = (false, eval e X.env) :: starEach [] X.env := by rfl) (hpl : (backTo pos (starEach [] X.env)).any (·.1) = false := by rfl) : Ev X Γ (.Call (.Name "str" p) [e] [] pos) rStr (Str.ofString (toString i)) := fun E G H σ hh Q q =>
  WE.of (pe_callTy call_str_int hg hm (by decide +kernel) (pa_cons WE.pe pa_nil he) (he := he) (hpl := hpl)) (h E G H σ hh _ fun v G1 H1 l1 e1 => ⟨i, by rw [show v = _ from e1], hz, q _ G1 H1 l1 rfl⟩)
end

/-! ### statements that change a list of one's own -/
section
variable {X : Cx} {E : Ent} {Γ : List Slot} {D : Ends} {e f g : Expr} {es : List Expr} {rest : List Stmt} {pos p apos cpos : Pos} {α β : Type} {r : Rp α} {x : α} {as bs : List α}
theorem bk_append (i : Nat) {a : Str} (hg : Γ[i]? = some (.ow (oLst r as))) (he : Ev X Γ e r x) (hl : as.length < sizeLine) (k : Bk X E (Γ.set i (.ow (oLst r (as ++ [x])))) rest D)
    (hpe : PE X (.Call (.Attribute (.Name a p) "append" apos) [e] [] cpos) (tBM X.K "list" rAppend (tVar i) (tCons (WE X e) tNil)) := by exact pe_bm PySem.F.plainAttrs_list PySem.F.slot_list_append PySem.F.type_list_append mt_append (pv _) (pa_cons WE.pe pa_nil))
    (hs : swapsWith (.Call (.Attribute (.Name a p) "append" apos) [e] [] cpos) none pos.line X.env = pure false := by rfl) : Bk X E Γ (.Expr (.Call (.Attribute (.Name a p) "append" apos) [e] [] cpos) pos :: rest) D :=
  bk_of (ps_expr hpe hs) fun G H σ hh => by
    obtain ⟨q, o, h1, h2, h3, h4, vs, h5, h6⟩ := hh.ow hg
    subst h5
    refine ⟨_, h1, .inl ⟨rfl, vs, .inl (.inl h4)⟩, he E G H σ hh _ fun v G1 H1 l1 r1 => ?_⟩
    have hh1 := hh.step l1
    refine ⟨q, vs, v, rfl, rfl, l1.h _ _ h4, by rw [h6.length]; exact hl, ?_⟩
    exact k G1 _ σ (hh1.mut hg h1 ⟨_, rfl, (h6.mono l1.g).append (.one r1)⟩)
end
end Hf

namespace Hf
open PySem PySem.Spec PyProof.Rows L2

/-! ### list comprehensions -/
theorem Le.keepO {G H G' H' : Hp} (l : Le G H G' H') {p : Addr} {o : HO} (h : H p = some o) (g : G p = none) : G' p = none := by
  cases q : G' p with
  | none => rfl
  | some u =>
    have z := l.new p u q g
    rw [h] at z
    cases z
def wipeS (Γ : List Slot) : List Nat → List Slot
  | [] => Γ
  | v :: vs => (wipeS Γ vs).set v .no
theorem Holds.wipe {E : Ent} {G H : Hp} {σ : L2.St} {Γ : List Slot} (h : Holds E G H σ Γ) : ∀ vs : List Nat, Holds E G H (L2.wipe σ vs) (wipeS Γ vs)
  | [] => h
  | v :: vs => (Holds.wipe h vs).set_no
theorem wipe_get {σ : L2.St} {i : Nat} : ∀ vs : List Nat, (L2.wipe σ vs)[i]? = if i ∈ vs ∧ i < σ.length then some none else σ[i]?
  | [] => by simp [L2.wipe]
  | v :: vs => by
    unfold L2.wipe
    by_cases e : v = i
    · subst e
      by_cases lt : v < σ.length
      · rw [List.getElem?_set_self (by rw [wipe_length]; exact lt), if_pos ⟨List.mem_cons_self, lt⟩]
      · rw [if_neg (fun q => lt q.2), List.getElem?_eq_none (by rw [List.length_set, wipe_length]; omega), List.getElem?_eq_none (by omega)]
    · rw [List.getElem?_set_ne e, wipe_get vs]
      have z : i ∈ v :: vs ↔ i ∈ vs := ⟨fun q => (List.mem_cons.mp q).elim (fun w => absurd w.symm e) id, List.mem_cons_of_mem _⟩
      simp only [z]
theorem wipe_same {σ σ' : L2.St} {vs : List Nat} (h : SameBut vs (L2.wipe σ vs) σ') : L2.wipe σ' vs = L2.wipe σ vs := by
  apply List.ext_getElem?
  intro i
  have hl : σ'.length = σ.length := by rw [h.1, wipe_length]
  rw [wipe_get, wipe_get, hl]
  by_cases q : i ∈ vs ∧ i < σ.length
  · rw [if_pos q, if_pos q]
  · rw [if_neg q, if_neg q]
    by_cases m : i ∈ vs
    · have n : ¬ i < σ.length := fun z => q ⟨m, z⟩
      rw [List.getElem?_eq_none (by omega), List.getElem?_eq_none (by omega)]
    · rw [h.2 i m, wipe_get, if_neg q]
def WTs (X : Cx) (cs : List Expr) (σ : L2.St) (H : Hp) (Q : Bool → Hp → Prop) : Prop := ∃ t : TT, PTs X cs t ∧ t σ H Q
theorem PTs.all {X : Cx} {cs : List Expr} : PTs X cs (WTs X cs) := ⟨fun pins s σ H Q I h => by
  obtain ⟨t, p, h⟩ := h
  exact p.run pins s σ H Q I h⟩
/-- the tests of a comprehension -/
def EvTs (X : Cx) (Γ : List Slot) (cs : List Expr) (b : Bool) : Prop := ∀ (E : Ent) (G H : Hp) (σ : L2.St), Holds E G H σ Γ → ∀ Q : Bool → Hp → Prop, (∀ G' H', Le G H G' H' → Q b H') → WTs X cs σ H Q
theorem ets_nil {X : Cx} {Γ : List Slot} : EvTs X Γ [] true := fun E G H σ h Q q => ⟨_, pts_nil, q G H (.refl h.le.gh)⟩
theorem ets_one {X : Cx} {Γ : List Slot} {c : Expr} {b : Bool} (h : EvT X Γ c b) : EvTs X Γ [c] b := fun E G H σ hh Q q => ⟨_, pts_one WT.pt, h E G H σ hh Q q⟩
section
variable {X : Cx} {E : Ent} {Γ : List Slot} {D : Ends} {elt tg iter : Expr} {ifs : List Expr} {scope : Scope} {own : List (Str × Nat)} {pos spos : Pos} {α β : Type} {r : Rp α} {s : Rp β} {U : α → List Slot → List Slot} {xs : List α} {keep : α → Bool} {val : α → β} {rest : List Stmt}
/-- the block of a comprehension -/
abbrev blkX (X : Cx) (scope : Scope) (q : Shared × Hp × Addr × List (Str × Addr) × List Addr) : Cx := X.blk q.1 q.2.1 scope (compEnvC scope q.2.2.2.1 q.2.2.1 X.env) q.2.2.2.2
def gAll (X : Cx) (scope : Scope) (tg : Expr) : TG := fun v σ H Q => ∀ q, WG (blkX X scope q) tg v σ H Q
def tAll (X : Cx) (scope : Scope) (cs : List Expr) : TT := fun σ H Q => ∀ q, WTs (blkX X scope q) cs σ H Q
def eAll (X : Cx) (scope : Scope) (e : Expr) : TE := fun σ H Q => ∀ q, WE (blkX X scope q) e σ H Q
theorem gAll.pg (q : Shared × Hp × Addr × List (Str × Addr) × List Addr) : PG (blkX X scope q) tg (gAll X scope tg) := ⟨fun pins s σ H v u Q I r h => (h q).run pins s u I r⟩
theorem tAll.pts (q : Shared × Hp × Addr × List (Str × Addr) × List Addr) : PTs (blkX X scope q) ifs (tAll X scope ifs) := ⟨fun pins s σ H Q I h => by
  obtain ⟨t, p, h⟩ := h q
  exact p.run pins s σ H Q I h⟩
theorem eAll.pe (q : Shared × Hp × Addr × List (Str × Addr) × List Addr) : PE (blkX X scope q) elt (eAll X scope elt) := ⟨fun pins s σ H Q I h => (h q).run pins s I⟩
theorem tlc_of {wi : TI} (hwi : ∀ (E : Ent) (G H : Hp) (σ : L2.St), Holds E G H σ Γ → ∀ R : It → Hp → Prop, (∀ J G' H', Le G H G' H' → ItOk J G' r xs → R J H') → wi σ H R)
    (ht : ∀ q, TgOk (blkX X scope q) tg r U (own.map (·.2))) (hk : ∀ q, ∀ a ∈ xs, EvTs (blkX X scope q) (U a (wipeS Γ (own.map (·.2)))) ifs (keep a))
    (hv : ∀ q, ∀ a ∈ xs, keep a = true → Ev (blkX X scope q) (U a (wipeS Γ (own.map (·.2)))) elt s (val a)) (hl : xs.length ≤ 100000)
    {G H : Hp} {σ : L2.St} (hh : Holds E G H σ Γ) {Q : VK} (hQ : ∀ p o G' H', H p = none → Le G H G' H' → G' p = none → H' p = some o → (oLst s ((xs.filter keep).map val)).rel G' o → Q (.ref p) H') :
    tLc wi (gAll X scope tg) (tAll X scope ifs) (eAll X scope elt) (own.map (·.2)) σ H Q := by
  refine hwi E G H σ hh _ fun J G1 H1 l1 it D hD => ?_
  have gD : G1 D = none := Evl.fresh_back l1.gh hD
  have hh1 := hh.step l1
  refine ⟨fun i m H2 => m = xs.length - i ∧ i ≤ xs.length ∧ ∃ G2 acc, Le G1 H1 G2 H2 ∧ G2 D = none ∧ H2 D = some (.lst acc) ∧ All2 s G2 acc (((xs.take i).filter keep).map val), ⟨xs.length, by simp, Nat.zero_le _, G1, [], (Le.refl l1.gh).addO hD, gD, upd_same, .nil⟩, ?_⟩
  rintro i m H2 ⟨rfl, hi, G2, acc, l2, g2, h2, a2⟩
  obtain ⟨go, stop⟩ := it i G2 H2 l2.g l2.gh
  by_cases lt : i < xs.length
  · have ex : xs[i]? = some xs[i] := by simp [lt]
    have mem : xs[i] ∈ xs := List.getElem_mem lt
    obtain ⟨g, y⟩ := go xs[i] ex
    have la : acc.length ≤ i := by
      rw [a2.length, List.length_map]
      exact Nat.le_trans (List.length_filter_le _ _) (by rw [List.length_take]; omega)
    have take : xs.take (i + 1) = xs.take i ++ [xs[i]] := by rw [List.take_add_one]; simp [lt]
    refine .inr ⟨g, fun H' => ∃ G' acc, Le G1 H1 G' H' ∧ G' D = none ∧ H' D = some (.lst acc) ∧ All2 s G' acc (((xs.take (i + 1)).filter keep).map val), fun H' ⟨G', acc', l', q1, q2, q3⟩ => ⟨xs.length - (i + 1), by omega, rfl, lt, G', acc', l', q1, q2, q3⟩, fun x H' yy q => ?_⟩
    obtain ⟨G3, l3, rx⟩ := y x H' yy
    have hh3 : Holds E G3 H' σ Γ := (hh1.step l2).step l3
    refine ht q E G3 H' _ _ x _ (hh3.wipe _) rx _ fun σ4 sb hh4 => ⟨wipe_same sb, fun q2 => ?_⟩
    refine hk q2 _ mem E G3 H' σ4 hh4 _ fun G5 H5 l5 => ?_
    have l35 := l3.trans l5
    cases kv : keep xs[i] with
    | false =>
      rw [if_neg Bool.false_ne_true]
      refine ⟨G5, acc, l2.trans l35, l35.keepO h2 g2, l35.h _ _ h2, ?_⟩
      rw [take, List.filter_append, List.filter_cons_of_neg (by simp [kv])]
      simpa using a2.mono l35.g
    | true =>
      rw [if_pos rfl]
      intro q3
      refine hv q3 _ mem kv E G5 H5 σ4 (hh4.step l5) _ fun v G6 H6 l6 r6 => ?_
      have l := l35.trans l6
      refine ⟨acc, l.h _ _ h2, Evl.sz_lt (by omega), G6, acc ++ [v], ?_, l.keepO h2 g2, upd_same, ?_⟩
      · have z := l2.trans l
        refine ⟨z.g, fun a o h => ?_, fun a o h => ?_, z.new⟩
        · rw [upd_ne (ne_of_none h hD)]
          exact z.h a o h
        · have n : a ≠ D := fun e => by
            subst e
            rw [l.keepO h2 g2] at h
            cases h
          rw [upd_ne n]
          exact z.gh a o h
      · rw [take, List.filter_append, List.filter_cons_of_pos kv, List.map_append]
        exact (a2.mono l.g).append (.one r6)
  · have e : i = xs.length := by omega
    subst e
    rw [List.take_length] at a2
    exact .inl ⟨stop (Nat.le_refl _), hQ D _ G2 H2 (Evl.fresh_back l1.h hD) (l1.trans l2) g2 h2 ⟨acc, rfl, a2⟩⟩
theorem eo_lc (own : List (Str × Nat)) (nd : X.N.Nodup) (hi : EvI X Γ tg iter r xs) (ok : BlkOk X.N X.env.scope scope own) (ht : ∀ q, TgOk (blkX X scope q) tg r U (own.map (·.2)))
    (hk : ∀ q, ∀ a ∈ xs, EvTs (blkX X scope q) (U a (wipeS Γ (own.map (·.2)))) ifs (keep a)) (hv : ∀ q, ∀ a ∈ xs, keep a = true → Ev (blkX X scope q) (U a (wipeS Γ (own.map (·.2)))) elt s (val a)) (hl : xs.length ≤ 100000)
    (hc : X.calm = true := by rfl) (hs : ∀ x, foldedSetIterable iter X.env x = pure x := by intro _; rfl) : EvO X Γ (.ListComp elt [⟨tg, iter, ifs, 0⟩] scope pos) (oLst s ((xs.filter keep).map val)) := fun E G H σ hh Q q => by
  obtain ⟨wi, pi, hwi⟩ := hi
  exact WE.of (pe_lc hc nd pi ok (fun s H C cl fp => gAll.pg (s, H, C, cl, fp)) (fun s H C cl fp => tAll.pts (s, H, C, cl, fp)) (fun s H C cl fp => eAll.pe (s, H, C, cl, fp)) hs) (tlc_of hwi ht hk hv hl hh q)
theorem filter_tt {α : Type} (xs : List α) : xs.filter (fun _ => true) = xs := by simp
/-- without a test -/
theorem eo_lcm (own : List (Str × Nat)) (nd : X.N.Nodup) (hi : EvI X Γ tg iter r xs) (ok : BlkOk X.N X.env.scope scope own) (ht : ∀ q, TgOk (blkX X scope q) tg r U (own.map (·.2)))
    (hv : ∀ q, ∀ a ∈ xs, Ev (blkX X scope q) (U a (wipeS Γ (own.map (·.2)))) elt s (val a)) (hl : xs.length ≤ 100000)
    (hc : X.calm = true := by rfl) (hs : ∀ x, foldedSetIterable iter X.env x = pure x := by intro _; rfl) : EvO X Γ (.ListComp elt [⟨tg, iter, [], 0⟩] scope pos) (oLst s (xs.map val)) := by
  have h := eo_lc (pos := pos) (keep := fun _ => true) (val := val) own nd hi ok ht (fun q a m => ets_nil) (fun q a m _ => hv q a m) hl hc hs
  rw [filter_tt] at h
  exact h
/-- x = [..] -/
theorem bk_setLc (i : Nat) {y : Str} {py : Pos} (own : List (Str × Nat)) (nd : X.N.Nodup) (hi : EvI X Γ tg iter r xs) (ok : BlkOk X.N X.env.scope scope own) (ht : ∀ q, TgOk (blkX X scope q) tg r U (own.map (·.2)))
    (hk : ∀ q, ∀ a ∈ xs, EvTs (blkX X scope q) (U a (wipeS Γ (own.map (·.2)))) ifs (keep a)) (hv : ∀ q, ∀ a ∈ xs, keep a = true → Ev (blkX X scope q) (U a (wipeS Γ (own.map (·.2)))) elt s (val a)) (hl : xs.length ≤ 100000)
    (k : Bk X E (Γ.set i (.ow (oLst s ((xs.filter keep).map val)))) rest D) (hy : X.N[i]? = some y := by rfl) (hyl : X.env.scope.names.lookup y = some .local := by rfl)
    (hsw : swapsWith (.ListComp elt [⟨tg, iter, ifs, 0⟩] scope pos) (some (.Name y py)) spos.line X.env = pure true := by exact sw_true rfl rfl rfl (by decide +kernel))
    (hc : X.calm = true := by rfl) (hs : ∀ x, foldedSetIterable iter X.env x = pure x := by intro _; rfl) : Bk X E Γ (.Assign [.Name y py] (.ListComp elt [⟨tg, iter, ifs, 0⟩] scope pos) spos :: rest) D := by
  obtain ⟨wi, pi, hwi⟩ := hi
  refine bk_of (ps_setLc hc nd hy hyl hsw pi ok (fun s H C cl fp => gAll.pg (s, H, C, cl, fp)) (fun s H C cl fp => tAll.pts (s, H, C, cl, fp)) (fun s H C cl fp => eAll.pe (s, H, C, cl, fp)) hs) fun G H σ hh => ?_
  exact tlc_of hwi ht hk hv hl hh fun p o G' H' n l g h1 h2 => k G' H' _ (hh.set_ow l n g h1 h2)
/-- x = [..], never changed behind -/
theorem bk_setLf (i : Nat) {y : Str} {py : Pos} (own : List (Str × Nat)) (nd : X.N.Nodup) (hi : EvI X Γ tg iter r xs) (ok : BlkOk X.N X.env.scope scope own) (ht : ∀ q, TgOk (blkX X scope q) tg r U (own.map (·.2)))
    (hk : ∀ q, ∀ a ∈ xs, EvTs (blkX X scope q) (U a (wipeS Γ (own.map (·.2)))) ifs (keep a)) (hv : ∀ q, ∀ a ∈ xs, keep a = true → Ev (blkX X scope q) (U a (wipeS Γ (own.map (·.2)))) elt s (val a)) (hl : xs.length ≤ 100000)
    (k : Bk X E (Γ.set i (.sh (rLst s) ((xs.filter keep).map val))) rest D) (hy : X.N[i]? = some y := by rfl) (hyl : X.env.scope.names.lookup y = some .local := by rfl)
    (hsw : swapsWith (.ListComp elt [⟨tg, iter, ifs, 0⟩] scope pos) (some (.Name y py)) spos.line X.env = pure true := by exact sw_true rfl rfl rfl (by decide +kernel))
    (hc : X.calm = true := by rfl) (hs : ∀ x, foldedSetIterable iter X.env x = pure x := by intro _; rfl) : Bk X E Γ (.Assign [.Name y py] (.ListComp elt [⟨tg, iter, ifs, 0⟩] scope pos) spos :: rest) D := by
  obtain ⟨wi, pi, hwi⟩ := hi
  refine bk_of (ps_setLc hc nd hy hyl hsw pi ok (fun s H C cl fp => gAll.pg (s, H, C, cl, fp)) (fun s H C cl fp => tAll.pts (s, H, C, cl, fp)) (fun s H C cl fp => eAll.pe (s, H, C, cl, fp)) hs) fun G H σ hh => ?_
  refine tlc_of hwi ht hk hv hl hh fun p o G' H' n l g h1 ⟨vs, e, h2⟩ => ?_
  subst e
  exact k (upd G' p (.lst vs)) H' _ ((hh.step (l.frz h1 n g)).set_sh ⟨p, vs, rfl, upd_same, h2.mono (Evl.Ex.new g)⟩)
end

/-! ### while -/
section
variable {X : Cx} {E : Ent} {Γ : List Slot} {D : Ends} {c : Expr} {rest body : List Stmt} {pos : Pos}
/-- while: I and the measure over the data -/
theorem bk_while {S : Type} (mk : S → List Slot) (I : S → Prop) (μ : S → Nat) (b : S → Bool) (s0 : S) (hp : PassesOwn (model X.prog X.w) X.A X.env X.xe) (h0 : I s0) (hΓ : ∀ G H σ, Holds E G H σ Γ → Holds E G H σ (mk s0)) (hc : ∀ s, I s → EvT X (mk s) c (b s))
    (step : ∀ s, I s → b s = true → Bk X E (mk s) body { D with nx := fun σ H => ∃ s', (I s' ∧ μ s' < μ s) ∧ At E (mk s') σ H, ct := fun σ H => ∃ s', (I s' ∧ μ s' < μ s) ∧ At E (mk s') σ H, bk := fun σ H => WB X rest σ H D })
    (done : ∀ s, I s → b s = false → Bk X E (mk s) rest D) : Bk X E Γ (.While c body [] pos :: rest) D := by
  refine bk_of (ps_while hp WT.pt WB.pss) fun G H σ hh => ?_
  refine ⟨fun m σ H => ∃ s, m = μ s ∧ I s ∧ At E (mk s) σ H, ⟨μ s0, s0, rfl, h0, G, hΓ _ _ _ hh⟩, ?_⟩
  rintro m σ H ⟨s, rfl, hs, G2, hh2⟩
  refine hc s hs E G2 H σ hh2 _ fun G3 H3 l3 => ?_
  cases e : b s with
  | true =>
    rw [if_pos rfl]
    exact ⟨fun σ' H' => ∃ s', (I s' ∧ μ s' < μ s) ∧ At E (mk s') σ' H', fun σ' H' ⟨s', ⟨i', lt⟩, a'⟩ => ⟨μ s', lt, s', rfl, i', a'⟩, step s hs e G3 H3 σ (hh2.step l3)⟩
  | false =>
    rw [if_neg Bool.false_ne_true]
    exact done s hs e G3 H3 σ (hh2.step l3)
theorem bk_wnext {S : Type} {mk : S → List Slot} {J : S → Prop} (s' : S) (hI : J s') (l : (mk s').length = Γ.length) (w : ∀ (i : Nat) (s : Slot), (mk s')[i]? = some s → s = .no ∨ Γ[i]? = some s) {bk ct : L2.St → Hp → Prop} {rt : VK} :
    Bk X E Γ [] { nx := fun σ H => ∃ s', J s' ∧ At E (mk s') σ H, rt := rt, bk := bk, ct := ct } := bk_end fun G H σ hh => ⟨s', hI, G, hh.weak l w⟩
end

/-! ### isinstance -/
section
variable {X : Cx} {Γ : List Slot} {e : Expr} {pos p p2 : Pos} {α : Type} {r : Rp α} {x : α}
/-- the built-in class of whatever r tells -/
def Kind (K : PySem.W.Frag) (r : Rp α) (x : α) (T : String) : Prop := ∀ G v, r.rel G v x → TyX K G v (.type T)
theorem tyX_mono {K : PySem.W.Frag} {G H : Hp} (e : Ex G H) {v : V} {t : Value} (h : TyX K G v t) : TyX K H v t := by
  cases h with
  | base h =>
    refine .base ?_
    cases h with
    | non => exact .non
    | bl b => exact .bl b
    | int i => exact .int i
    | str x => exact .str x
    | flt x => exact .flt x
    | lst h => exact .lst (e _ _ h)
    | frz h => exact .frz (e _ _ h)
    | tup h => exact .tup (e _ _ h)
    | dK h => exact .dK (e _ _ h)
    | dT h => exact .dT (e _ _ h)
    | ins h c a b d f => exact .ins (e _ _ h) c a b d f
  | byt b => exact .byt b
  | set h => exact .set (e _ _ h)
  | kList h c => exact .kList h c
  | kTuple h c => exact .kTuple h c
  | kDict h c => exact .kDict h c
  | fTuple h => exact .fTuple (e _ _ h)
  | fDict h => exact .fDict (e _ _ h)
theorem kind_int {K : PySem.W.Frag} {i : Int} : Kind K rInt i "int" := fun G v h => by cases h; exact .base (.int i)
theorem kind_bool {K : PySem.W.Frag} {i : Bool} : Kind K rBool i "bool" := fun G v h => by cases h; exact .base (.bl i)
theorem kind_str {K : PySem.W.Frag} {i : Str} : Kind K rStr i "str" := fun G v h => by cases h; exact .base (.str i)
theorem kind_lst {K : PySem.W.Frag} {as : List α} : Kind K (rLst r) as "list" := fun G v ⟨p, vs, e, h, _⟩ => by subst e; exact .base (.lst h)
theorem sqT_kind {K : PySem.W.Frag} {G : Hp} {p : Addr} {vs : List V} (h : SqT K G p vs) : TyX K G (.ref p) (.type "tuple") := by
  rcases h with (h | ⟨o, h⟩) | ⟨o, its, n, h, c, _⟩
  · exact .base (.tup h)
  · exact .fTuple h
  · exact .kTuple h c
theorem kind_T2 {K : PySem.W.Frag} {β : Type} {s : Rp β} {a : α × β} : Kind K (rT2 K r s) a "tuple" := fun G v ⟨p, x, y, e, h, _⟩ => by subst e; exact sqT_kind h
theorem kind_T3 {K : PySem.W.Frag} {β γ : Type} {s : Rp β} {t : Rp γ} {a : α × β × γ} : Kind K (rT3 K r s t) a "tuple" := fun G v ⟨p, x, y, z, e, h, _⟩ => by subst e; exact sqT_kind h
theorem ev_isi {T C : String} {c : Str} {b : Bool} (h : Ev X Γ e r x) (kd : Kind X.K r x T) (hk : kitB T C = some b) (hm : X.mg "isinstance" = none) (hmc : X.mg c = none) (hvc : bootBuiltins c = some (.type C)) (hg : Gl X "isinstance" := by rfl) (hgc : Gl X c := by rfl) (hn : c ≠ "__name__" := by decide) (hd : (c == ("__debug__" : Str)) = false := by decide)
    (hs1 : starEach (e :: [.Name c p2]) X.env = (false, eval e X.env) :: starEach [.Name c p2] X.env := by rfl) (hs2 : starEach (.Name c p2 :: []) X.env = (false, eval (.Name c p2) X.env) :: starEach [] X.env := by rfl) (hpl : (backTo pos (starEach [.Name c p2] X.env)).any (·.1) = false := by rfl) :
    Ev X Γ (.Call (.Name "isinstance" p) [e, .Name c p2] [] pos) rBool b := fun E G H σ hh Q q =>
  WE.of (pe_callB call_isi hg hm (by decide +kernel) (pa_cons WE.pe (pa_cons (pe_bltn (v := .ty C) hgc hmc hvc rfl hn hd) pa_nil hs2) hs1) (he := hs1) (hpl := hpl)) (h E G H σ hh _ fun v G1 H1 l1 r1 => ⟨v, .ty C, .type T, .type C, b, rfl, .ty C, tyX_mono l1.gh (kd G1 v r1), kit_ty hk, q _ G1 H1 l1 rfl⟩)
end
end Hf

namespace Hf
open PySem PySem.Spec PyProof.Rows L2

/-! ### data of any form; ω: objects of one's own -/
inductive Dyn (ω : Type) where
  | non | bl (b : Bool) | int (i : Int) | str (s : Str) | lst (xs : List (Dyn ω)) | tup (xs : List (Dyn ω)) | dic (kvs : List (Str × Dyn ω)) | ob (o : ω)
mutual
inductive DynAt {ω : Type} (K : PySem.W.Frag) (ro : Rp ω) (G : Hp) : V → Dyn ω → Prop
  | non : DynAt K ro G .non .non
  | bl (b : Bool) : DynAt K ro G (.bl b) (.bl b)
  | int (i : Int) : DynAt K ro G (.int i) (.int i)
  | str (s : Str) : DynAt K ro G (.str s) (.str s)
  | lst {p : Addr} {vs : List V} {ds : List (Dyn ω)} : G p = some (.lst vs) → DynAll K ro G vs ds → DynAt K ro G (.ref p) (.lst ds)
  | tup {p : Addr} {vs : List V} {ds : List (Dyn ω)} : SqT K G p vs → DynAll K ro G vs ds → DynAt K ro G (.ref p) (.tup ds)
  | dic {p : Addr} {kvs : List (Key × V)} {ds : List (Str × Dyn ω)} : G p = some (.dK kvs) → DynKvs K ro G kvs ds → DynAt K ro G (.ref p) (.dic ds)
  | ob {v : V} {o : ω} : ro.rel G v o → DynAt K ro G v (.ob o)
inductive DynAll {ω : Type} (K : PySem.W.Frag) (ro : Rp ω) (G : Hp) : List V → List (Dyn ω) → Prop
  | nil : DynAll K ro G [] []
  | cons {v : V} {vs : List V} {d : Dyn ω} {ds : List (Dyn ω)} : DynAt K ro G v d → DynAll K ro G vs ds → DynAll K ro G (v :: vs) (d :: ds)
inductive DynKvs {ω : Type} (K : PySem.W.Frag) (ro : Rp ω) (G : Hp) : List (Key × V) → List (Str × Dyn ω) → Prop
  | nil : DynKvs K ro G [] []
  | cons {k : Str} {v : V} {vs : List (Key × V)} {d : Dyn ω} {ds : List (Str × Dyn ω)} : DynAt K ro G v d → DynKvs K ro G vs ds → DynKvs K ro G ((.inr k, v) :: vs) ((k, d) :: ds)
end
section
variable {ω : Type} {K : PySem.W.Frag} {ro : Rp ω} {G G' : Hp}
mutual
theorem DynAt.mono (e : Ex G G') : ∀ (d : Dyn ω) (v : V), DynAt K ro G v d → DynAt K ro G' v d
  | .non, _, h => by cases h; exact .non
  | .bl b, _, h => by cases h; exact .bl b
  | .int b, _, h => by cases h; exact .int b
  | .str b, _, h => by cases h; exact .str b
  | .lst ds, _, h => by
    cases h with
    | lst h1 h2 => exact .lst (e _ _ h1) (DynAll.mono e ds _ h2)
  | .tup ds, _, h => by
    cases h with
    | tup h1 h2 => exact .tup (Evl.ex_t e h1) (DynAll.mono e ds _ h2)
  | .dic ds, _, h => by
    cases h with
    | dic h1 h2 => exact .dic (e _ _ h1) (DynKvs.mono e ds _ h2)
  | .ob o, _, h => by
    cases h with
    | ob h => exact .ob (ro.mono e h)
theorem DynAll.mono (e : Ex G G') : ∀ (ds : List (Dyn ω)) (vs : List V), DynAll K ro G vs ds → DynAll K ro G' vs ds
  | [], _, h => by cases h; exact .nil
  | d :: ds, _, h => by
    cases h with
    | cons h1 h2 => exact .cons (DynAt.mono e d _ h1) (DynAll.mono e ds _ h2)
theorem DynKvs.mono (e : Ex G G') : ∀ (ds : List (Str × Dyn ω)) (vs : List (Key × V)), DynKvs K ro G vs ds → DynKvs K ro G' vs ds
  | [], _, h => by cases h; exact .nil
  | (k, d) :: ds, _, h => by
    cases h with
    | cons h1 h2 => exact .cons (DynAt.mono e d _ h1) (DynKvs.mono e ds _ h2)
end
end
def rDyn {ω : Type} (K : PySem.W.Frag) (ro : Rp ω) : Rp (Dyn ω) := ⟨DynAt K ro, fun {G G' v a} e h => DynAt.mono e a v h⟩
/-- no objects -/
def rOb0 : Rp Empty := ⟨fun _ _ _ => False, fun _ h => h⟩

/-! ### == at any depth -/
/-- data that == reads -/
structure Eqv (K : PySem.W.Frag) {α : Type} (r : Rp α) (x : α) (d : PyData) : Prop where
  dp : ∀ G v, r.rel G v x → Dp K G v d
  sh : SeqAt.shaped d = true
theorem dpSq {K : PySem.W.Frag} {G H : Hp} {p : Addr} {vs : List V} (e : Ex G H) (h : SqL K G p vs) : SqL K H p vs := Evl.ex_l e h
mutual
theorem dp_mono {K : PySem.W.Frag} {G H : Hp} (e : Ex G H) : ∀ (d : PyData) (v : V), Dp K G v d → Dp K H v d
  | .none, _, h => by cases h; exact .non
  | .bool b, _, h => by cases h; exact .bl b
  | .int i, _, h => by cases h; exact .int i
  | .str x, _, h => by cases h; exact .str x
  | .list ds, _, h => by
    cases h with
    | lst h1 h2 => exact .lst (Evl.ex_l e h1) (dpAll_mono e ds _ h2)
  | .tuple ds, _, h => by
    cases h with
    | tup h1 h2 => exact .tup (Evl.ex_t e h1) (dpAll_mono e ds _ h2)
  | .dict _, _, h => by cases h
theorem dpAll_mono {K : PySem.W.Frag} {G H : Hp} (e : Ex G H) : ∀ (d : List PyData) (v : List V), DpAll K G v d → DpAll K H v d
  | [], _, h => by cases h; exact .nil
  | d :: ds, _, h => by
    cases h with
    | cons h1 h2 => exact .cons (dp_mono e d _ h1) (dpAll_mono e ds _ h2)
end
section
variable {X : Cx} {Γ : List Slot} {e f g : Expr} {es : List Expr} {pos p : Pos} {α β γ ω : Type} {r : Rp α} {x : α} {s : Rp β} {y : β} {i j : Int} {u v : Str} {c d : PyData} {k : Nat} {ro : Rp ω} {as bs : List α}
theorem gv_eqD (a : Eqv X.K r x c) (b : Eqv X.K s y d) : Gives (rEqD X.K) r x s y rBool (PyData.eqv c d) := fun G H v w e h1 h2 Q q => ⟨c, d, dp_mono e _ _ (a.dp G v h1), dp_mono e _ _ (b.dp G w h2), a.sh, b.sh, q _ G H (.refl e) rfl⟩
theorem gv_neD (a : Eqv X.K r x c) (b : Eqv X.K s y d) : Gives (rNeD X.K) r x s y rBool (!PyData.eqv c d) := fun G H v w e h1 h2 Q q => ⟨c, d, dp_mono e _ _ (a.dp G v h1), dp_mono e _ _ (b.dp G w h2), a.sh, b.sh, q _ G H (.refl e) rfl⟩
theorem ev_eqD (hr : Room k X.A) (a : Eqv X.K r x c) (b : Eqv X.K s y d) (ha : Ev X Γ e r x) (hb : Ev X Γ f s y) : Ev X Γ (.Compare e [.Eq] [f] pos) rBool (PyData.eqv c d) := ev_cmpR (op_eqD hr.units) ha hb (gv_eqD a b)
theorem ev_neD (hr : Room k X.A) (a : Eqv X.K r x c) (b : Eqv X.K s y d) (ha : Ev X Γ e r x) (hb : Ev X Γ f s y) : Ev X Γ (.Compare e [.NotEq] [f] pos) rBool (!PyData.eqv c d) := ev_cmpR (op_neD hr.units) ha hb (gv_neD a b)
theorem et_eqD (hr : Room k X.A) (a : Eqv X.K r x c) (b : Eqv X.K s y d) (ha : Ev X Γ e r x) (hb : Ev X Γ f s y) : EvT X Γ (.Compare e [.Eq] [f] pos) (PyData.eqv c d) := et_cmpR (op_eqD hr.units) ha hb (gv_eqD a b)
theorem et_neD (hr : Room k X.A) (a : Eqv X.K r x c) (b : Eqv X.K s y d) (ha : Ev X Γ e r x) (hb : Ev X Γ f s y) : EvT X Γ (.Compare e [.NotEq] [f] pos) (!PyData.eqv c d) := et_cmpR (op_neD hr.units) ha hb (gv_neD a b)

/-! ### texts -/
def rMulS : R2 := fun x y H Q => ∃ a n, x = .str a ∧ y = .int n ∧ MulOk a n ∧ Q (.str (Txt.mul a n)) H
theorem op_mulS : OpR X (binaryOp .Mult) rMulS := by
  intro pins s σ H x y v u Q I rx ry h
  obtain ⟨i, j, rfl, rfl, hz, q⟩ := h
  obtain ⟨t, rfl⟩ := rx
  obtain ⟨t', rfl⟩ := ry
  exact SB.mul hz fun t' k => ⟨.str (Txt.mul i j), H, I.tok _, ⟨_, rfl⟩, q⟩
theorem ev_mulS (hc : MulOk u i) (ha : Ev X Γ e rStr u) (hb : Ev X Γ f rInt i) : Ev X Γ (.BinOp e .Mult f pos) rStr (Txt.mul u i) := ev_bin op_mulS ha hb fun G H a b e h1 h2 Q q => ⟨u, i, h1, h2, hc, q _ G H (.refl e) rfl⟩
/-- a method of a text with one argument -/
theorem ev_m1 {id : String} {name : Str} {apos : Pos} {ρ : V → List V → Hp → VK → Prop} (slot : PySem.Slot "str" name id) (ty : typeOf (.builtin id) = pure (.type "method_descriptor")) (rule : MtR X id ρ) (ha : Ev X Γ e rStr u) (hb : Ev X Γ f r x)
    (hs : ∀ (G H : Hp) (b : V), Ex G H → r.rel G b x → ∀ Q : VK, (∀ c G' H', Le G H G' H' → s.rel G' c y → Q c H') → ρ (.str u) [b] H Q)
    (hst : starEach [f] X.env = [(false, eval f X.env)] := by rfl) (hbase : attributeBase e name X.env (eval e X.env) = eval e X.env := by rfl) (hline : (apos.endLine == pos.line) = true := by rfl) : Ev X Γ (.Call (.Attribute e name apos) [f] [] pos) s y := fun E G H σ hh Q q =>
  WE.of (pe_m1 slot ty rule WE.pe WE.pe hst hbase hline) (ha E G H σ hh _ fun v G1 H1 l1 r1 => by
    cases r1
    exact ⟨⟨u, rfl⟩, hb E G1 H1 σ (hh.step l1) _ fun w G2 H2 l2 r2 => hs G2 H2 w l2.gh r2 Q fun c G3 H3 l3 r3 => q c G3 H3 ((l1.trans l2).trans l3) r3⟩)
/-- the same, a new list -/
theorem eo_m1 {id : String} {name : Str} {apos : Pos} {ρ : V → List V → Hp → VK → Prop} {cc : Oc} (slot : PySem.Slot "str" name id) (ty : typeOf (.builtin id) = pure (.type "method_descriptor")) (rule : MtR X id ρ) (ha : Ev X Γ e rStr u) (hb : Ev X Γ f r x)
    (hs : ∀ (G H : Hp) (b : V), Ex G H → r.rel G b x → ∀ Q : VK, (∀ p o H', H p = none → H' = upd H p o → cc.rel G o → Q (.ref p) H') → ρ (.str u) [b] H Q)
    (hst : starEach [f] X.env = [(false, eval f X.env)] := by rfl) (hbase : attributeBase e name X.env (eval e X.env) = eval e X.env := by rfl) (hline : (apos.endLine == pos.line) = true := by rfl) : EvO X Γ (.Call (.Attribute e name apos) [f] [] pos) cc := fun E G H σ hh Q q =>
  WE.of (pe_m1 slot ty rule WE.pe WE.pe hst hbase hline) (ha E G H σ hh _ fun v G1 H1 l1 r1 => by
    cases r1
    refine ⟨⟨u, rfl⟩, hb E G1 H1 σ (hh.step l1) _ fun w G2 H2 l2 r2 => hs G2 H2 w l2.gh r2 Q fun p o H3 n e3 c3 => ?_⟩
    subst e3
    have l := l1.trans l2
    exact q p o G2 _ (Evl.fresh_back l.h n) (l.addO n) (Evl.fresh_back l2.gh n) upd_same c3)
end
end Hf

namespace Hf
open PySem PySem.Spec PyProof.Rows L2
theorem All2.concat {α : Type} {r : Rp α} {G : Hp} {b : α} : ∀ {vs : List V} {l : List α}, All2 r G vs (l ++ [b]) → ∃ ws w, vs = ws ++ [w] ∧ r.rel G w b
  | _, [], .cons h .nil => ⟨[], _, rfl, h⟩
  | _, _ :: l, .cons (v := v) h t => by
    obtain ⟨ws, w, e, k⟩ := All2.concat (l := l) t
    exact ⟨v :: ws, w, by rw [e]; rfl, k⟩
/-- a slice -/
def cutL {α : Type} (xs : List α) (lo hi : Option Int) : List α := (xs.drop (HT.sIx xs.length 0 lo)).take (HT.sIx xs.length xs.length hi - HT.sIx xs.length 0 lo)
theorem All2.cut {α : Type} {r : Rp α} {G : Hp} {vs : List V} {l : List α} (lo hi : Option Int) (h : All2 r G vs l) : All2 r G (cutV vs lo hi) (cutL l lo hi) := by
  unfold cutV cutL
  rw [h.length]
  exact (h.drop _).take _
theorem cutL_from {α : Type} {xs : List α} {i : Int} (h : 0 ≤ i) : cutL xs (some i) none = xs.drop i.toNat := by
  obtain ⟨k, rfl⟩ := Int.eq_ofNat_of_zero_le h
  unfold cutL
  rw [HT.sIx_none, HT.sIx_nat, Int.toNat_natCast]
  by_cases q : k ≤ xs.length
  · rw [Nat.min_eq_left q, List.take_of_length_le (by simp)]
  · rw [Nat.min_eq_right (by omega), List.drop_eq_nil_of_le (Nat.le_refl _), List.drop_eq_nil_of_le (by omega)]
    simp
theorem cutL_to {α : Type} {xs : List α} {i : Int} (h : 0 ≤ i) : cutL xs none (some i) = xs.take i.toNat := by
  obtain ⟨k, rfl⟩ := Int.eq_ofNat_of_zero_le h
  unfold cutL
  rw [HT.sIx_none, HT.sIx_nat, Int.toNat_natCast, List.drop_zero, Nat.sub_zero]
  by_cases q : k ≤ xs.length
  · rw [Nat.min_eq_left q]
  · rw [Nat.min_eq_right (by omega), List.take_of_length_le (Nat.le_refl _), List.take_of_length_le (by omega)]
theorem Holds.forget {E : Ent} {G H : Hp} {σ : L2.St} {Γ : List Slot} (i : Nat) (h : Holds E G H σ Γ) : Holds E G H σ (Γ.set i .no) := h.weak (by rw [List.length_set]) fun j s q => by
  rcases get_set q with ⟨_, e⟩ | ⟨_, e⟩
  · exact .inl e
  · exact .inr e
/-- a list of one's own, frozen where it stands -/
theorem Holds.freeze {E : Ent} {G H : Hp} {σ : L2.St} {Γ : List Slot} {α : Type} {r : Rp α} {as : List α} {i : Nat} (h : Holds E G H σ Γ) (e : Γ[i]? = some (.ow (oLst r as))) (hm : ∀ q, ¬ E.M q) : ∃ G', Holds E G' H σ (Γ.set i (.sh (rLst r) as)) := by
  obtain ⟨p, o, h1, h2, h3, h4, vs, h5, h6⟩ := h.ow e
  subst h5
  have hn : E.H p = none := h3.elim (fun m => absurd m (hm p)) id
  refine ⟨upd G p (.lst vs), ⟨h.le.g.trans (Evl.Ex.new h2), h.le.h, fun a o q => ?_, fun a o q1 q2 => ?_, h.le.m⟩, h.fl.trans (Evl.Ex.new h2), by rw [List.length_set]; exact h.len, fun j s q => ?_, fun j k s t e1 e2 w1 w2 q => ?_⟩
  · by_cases z : a = p
    · subst z; rw [upd_same] at q; cases q; exact h4
    · rw [upd_ne z] at q; exact h.le.gh a o q
  · by_cases z : a = p
    · subst z; exact hn
    · rw [upd_ne z] at q1; exact h.le.new a o q1 q2
  · rcases get_set q with ⟨rfl, rfl⟩ | ⟨n, q⟩
    · exact ⟨_, h1, p, vs, rfl, upd_same, h6.mono (Evl.Ex.new h2)⟩
    · have w := h.ok j s q
      cases s with
      | no => trivial
      | sh r a =>
        obtain ⟨v, w1, w2⟩ := w
        exact ⟨v, w1, r.mono (Evl.Ex.new h2) w2⟩
      | ow c2 =>
        obtain ⟨p2, o2, w1, w2, w3, w4, w5⟩ := w
        have np : p2 ≠ p := fun z => by
          subst z
          exact n (h.sep i j _ _ e q rfl rfl (by rw [h1, w1]))
        exact ⟨p2, o2, w1, by rw [upd_ne np]; exact w2, w3, w4, c2.mono (Evl.Ex.new h2) w5⟩
  · rcases get_set e1 with ⟨rfl, rfl⟩ | ⟨n1, e1⟩
    · cases w1
    · rcases get_set e2 with ⟨rfl, rfl⟩ | ⟨n2, e2⟩
      · cases w2
      · exact h.sep j k s t e1 e2 w1 w2 q
section
variable {X : Cx} {E : Ent} {Γ : List Slot} {D : Ends} {e f g elt tg iter : Expr} {es : List Expr} {rest : List Stmt} {pos p spos : Pos} {α β γ ω : Type} {r : Rp α} {x : α} {s : Rp β} {y : β} {t : Rp γ} {z : γ} {i j : Int} {u v : Str} {as bs : List α} {ro : Rp ω}
theorem bk_freeze (i : Nat) (hg : Γ[i]? = some (.ow (oLst r as))) (hm : ∀ q, ¬ E.M q) (k : Bk X E (Γ.set i (.sh (rLst r) as)) rest D) : Bk X E Γ rest D := fun G H σ hh => by
  obtain ⟨G', h'⟩ := hh.freeze hg hm
  exact k G' H σ h'
theorem bk_setg (i : Nat) {a : Str} {p : Pos} (nd : X.N.Nodup) (he : Ev X Γ e r x) (k : ∀ y, y = x → Bk X E (Γ.set i (.sh r y)) rest D) (hi : X.N[i]? = some a := by rfl) (hx : Loc X.env.scope a := by first | exact Or.inl rfl | exact Or.inr rfl)
    (hs : swapsWith e (some (.Name a p)) pos.line X.env = pure false := by rfl) (hf : X.fn a = true ∨ X.env.scope.names.lookup a = some .local := by first | exact .inl rfl | exact .inr rfl) : Bk X E Γ (.Assign [.Name a p] e pos :: rest) D := bk_set i nd he (k x rfl) hi hx hs hf
theorem bk_setLm (i : Nat) {y : Str} {py : Pos} {ifs : List Expr} {scope : Scope} {U : α → List Slot → List Slot} {val : α → β} (own : List (Str × Nat)) (nd : X.N.Nodup) (hi : EvI X Γ tg iter r as) (ok : BlkOk X.N X.env.scope scope own) (ht : ∀ q, TgOk (blkX X scope q) tg r U (own.map (·.2)))
    (hv : ∀ q, ∀ a ∈ as, Ev (blkX X scope q) (U a (wipeS Γ (own.map (·.2)))) elt s (val a)) (hl : as.length ≤ 100000)
    (k : Bk X E (Γ.set i (.sh (rLst s) (as.map val))) rest D) (hy : X.N[i]? = some y := by rfl) (hyl : X.env.scope.names.lookup y = some .local := by rfl)
    (hsw : swapsWith (.ListComp elt [⟨tg, iter, [], 0⟩] scope pos) (some (.Name y py)) spos.line X.env = pure true := by exact sw_true rfl rfl rfl (by decide +kernel))
    (hc : X.calm = true := by rfl) (hs : ∀ x, foldedSetIterable iter X.env x = pure x := by intro _; rfl) : Bk X E Γ (.Assign [.Name y py] (.ListComp elt [⟨tg, iter, [], 0⟩] scope pos) spos :: rest) D :=
  bk_setLf (keep := fun _ => true) (val := val) i own nd hi ok ht (fun q a m => ets_nil) (fun q a m _ => hv q a m) hl (by rw [filter_tt]; exact k) hy hyl hsw hc hs
theorem RetO.eqO {as' : List α} (h : RetO E D (oLst r as)) (q : as = as') : RetO E D (oLst r as') := q ▸ h
/-- an answer that is told frozen, handed back as it stands -/
theorem RetOk.own (h : RetOk E D (rLst r) as) : RetO E D (oLst r as) := fun p o G H l g n h1 ⟨vs, e, h2⟩ => by
  subst e
  refine h _ (upd G p (.lst vs)) H ⟨l.g.trans (Evl.Ex.new g), l.h, fun a o q => ?_, fun a o q1 q2 => ?_, l.m⟩ ⟨p, vs, rfl, upd_same, h2.mono (Evl.Ex.new g)⟩
  · by_cases z : a = p
    · subst z; rw [upd_same] at q; cases q; exact h1
    · rw [upd_ne z] at q; exact l.gh a o q
  · by_cases z : a = p
    · subst z; exact n
    · rw [upd_ne z] at q1; exact l.new a o q1 q2
/-- xs[i], any int in bounds -/
theorem getD_some {l : List α} {n : Nat} {d : α} (h : n < l.length) : l[n]? = some (l.getD n d) := by
  rw [List.getD_eq_getElem?_getD, List.getElem?_eq_getElem h]
  rfl
theorem ev_atS {d : α} (hb : 0 ≤ i ∧ i < (as.length : Int)) (h : Ev X Γ e (rSeq X.K r) as) (h2 : Ev X Γ f rInt i) (hs : PlainIx f := by exact plain_of rfl) : Ev X Γ (.Subscript e f pos) r (as.getD i.toNat d) :=
  ev_ixS (k := i.toNat) h (h2.eq (by omega)) (getD_some (by omega)) hs
theorem ev_at {d : α} (hb : 0 ≤ i ∧ i < (as.length : Int)) (h : Ev X Γ e (rLst r) as) (h2 : Ev X Γ f rInt i) (hs : PlainIx f := by exact plain_of rfl) : Ev X Γ (.Subscript e f pos) r (as.getD i.toNat d) := ev_atS hb h.seq h2 hs
theorem ev_atB {d : α} (hb : 0 ≤ i ∧ i < (as.length : Int)) (h : EvB X Γ e (oLst r as)) (h2 : Ev X Γ f rInt i) (hs : PlainIx f := by exact plain_of rfl) : Ev X Γ (.Subscript e f pos) r (as.getD i.toNat d) :=
  ev_ixB (k := i.toNat) h (h2.eq (by omega)) (getD_some (by omega)) hs
/-- xs[-1] -/
theorem ev_lastB {d : α} {k : Nat} {p1 p2 : Pos} (h : EvB X Γ e (oLst r as)) (hn : as ≠ []) : Ev X Γ (.Subscript e (.UnaryOp .USub (.Constant (.int 1) k p1) p2) pos) r (as.getLastD d) := fun E G H σ hh Q q =>
  WE.of (pe_ix ix_list WE.pe (pe_un un_neg pe_int) (plain_of rfl)) (h E G H σ hh _ fun p o G1 H1 l1 hp ⟨vs, e1, ha⟩ => by
    subst e1
    refine ⟨1, rfl, ?_⟩
    obtain ⟨l, b, rfl⟩ : ∃ l b, as = l ++ [b] := ⟨as.dropLast, as.getLast hn, (List.dropLast_concat_getLast hn).symm⟩
    have hv := ha.concat
    obtain ⟨ws, w, rfl, rw'⟩ := hv
    exact ⟨p, ws ++ [w], -1, w, rfl, rfl, .inl (.inl hp), atI_last ws w, by
      have z : (l ++ [b]).getLastD d = b := by simp [List.getLastD_eq_getLast?]
      rw [z] at q
      exact q w G1 H1 l1 rw'⟩)
theorem ev_last {d : α} {k : Nat} {p1 p2 : Pos} (h : Ev X Γ e (rLst r) as) (hn : as ≠ []) : Ev X Γ (.Subscript e (.UnaryOp .USub (.Constant (.int 1) k p1) p2) pos) r (as.getLastD d) := ev_lastB h.bor hn
/-- data that == reads -/
theorem eqv_int {K : PySem.W.Frag} : Eqv K rInt i (.int i) := ⟨fun G v h => by cases h; exact .int i, rfl⟩
theorem eqv_bool {K : PySem.W.Frag} {b : Bool} : Eqv K rBool b (.bool b) := ⟨fun G v h => by cases h; exact .bl b, rfl⟩
theorem eqv_str {K : PySem.W.Frag} (h : PyData.strOk u = true) : Eqv K rStr u (.str u) := ⟨fun G v h => by cases h; exact .str u, by simp [SeqAt.shaped, PyData.canLay0, h, PyData.depth]⟩
def pdPair (a : Int × Int) : PyData := .tuple [.int a.1, .int a.2]
theorem eqv_pair {K : PySem.W.Frag} {a : Int × Int} : Eqv K (rT2 K rInt rInt) a (pdPair a) := ⟨fun G v ⟨p, v1, v2, e, h, h1, h2⟩ => by
  cases e; cases h1; cases h2
  exact .tup h (.cons (.int _) (.cons (.int _) .nil)), rfl⟩
theorem pdPair_eqv {a b : Int × Int} : PyData.eqv (pdPair a) (pdPair b) = decide (a = b) := by
  obtain ⟨a1, a2⟩ := a
  obtain ⟨b1, b2⟩ := b
  simp [pdPair, PyData.eqv, PyData.eqvAll]
  by_cases h1 : a1 = b1 <;> by_cases h2 : a2 = b2 <;> simp [h1, h2]
def pdInts (a : List Int) : PyData := .list (a.map .int)
theorem dpAll_ints {K : PySem.W.Frag} {G : Hp} : ∀ {vs : List V} {ns : List Int}, All2 rInt G vs ns → DpAll K G vs (ns.map .int)
  | _, _, .nil => .nil
  | _, _, .cons h t => by cases h; exact .cons (.int _) (dpAll_ints t)
def pdStrs (a : List Str) : PyData := .list (a.map .str)
theorem dpAll_strs {K : PySem.W.Frag} {G : Hp} : ∀ {vs : List V} {ns : List Str}, All2 rStr G vs ns → DpAll K G vs (ns.map .str)
  | _, _, .nil => .nil
  | _, _, .cons h t => by cases h; exact .cons (.str _) (dpAll_strs t)
theorem eqv_strs {K : PySem.W.Frag} {ns : List Str} (hk : ∀ z ∈ ns, PyData.strOk z = true) : Eqv K (rLst rStr) ns (pdStrs ns) := ⟨fun G v ⟨p, vs, e, h, h2⟩ => by
  subst e
  exact .lst (.inl (.inl h)) (dpAll_strs h2), by
  have z : ∀ l : List Str, (∀ z ∈ l, PyData.strOk z = true) → PyData.canLayAll0 (l.map .str) = true := fun l => by
    induction l with
    | nil => intro _; rfl
    | cons a l ih =>
      intro h
      simp [PyData.canLayAll0, PyData.canLay0, ih (fun z m => h z (List.mem_cons_of_mem _ m)), h a List.mem_cons_self]
  have d : ∀ l : List Str, PyData.depthAll (l.map PyData.str) ≤ 1 := fun l => by
    induction l with
    | nil => simp [PyData.depthAll]
    | cons a l ih => simp [PyData.depthAll, PyData.depth]; omega
  unfold SeqAt.shaped pdStrs
  have := d ns
  simp only [PyData.canLay0, z ns hk, PyData.depth, Bool.true_and]
  exact decide_eq_true (by omega)⟩
theorem eqvAll_ints : ∀ {a b : List Int}, PyData.eqvAll (a.map .int) (b.map .int) = decide (a = b)
  | [], [] => rfl
  | [], _ :: _ => rfl
  | _ :: _, [] => rfl
  | x :: a, y :: b => by
    show (PyData.eqv (.int x) (.int y) && PyData.eqvAll (a.map .int) (b.map .int)) = _
    rw [eqvAll_ints]
    simp [PyData.eqv]
    by_cases h1 : x = y <;> by_cases h2 : a = b <;> simp [h1, h2]
theorem eqvAll_strs : ∀ {a b : List Str}, PyData.eqvAll (a.map .str) (b.map .str) = decide (a = b)
  | [], [] => rfl
  | [], _ :: _ => rfl
  | _ :: _, [] => rfl
  | x :: a, y :: b => by
    show (PyData.eqv (.str x) (.str y) && PyData.eqvAll (a.map .str) (b.map .str)) = _
    rw [eqvAll_strs]
    simp [PyData.eqv]
    by_cases h1 : x = y <;> by_cases h2 : a = b <;> simp [h1, h2]
theorem pdInts_eqv {a b : List Int} : PyData.eqv (pdInts a) (pdInts b) = decide (a = b) := by
  unfold pdInts PyData.eqv
  exact eqvAll_ints
theorem pdStrs_eqv {a b : List Str} : PyData.eqv (pdStrs a) (pdStrs b) = decide (a = b) := by
  unfold pdStrs PyData.eqv
  exact eqvAll_strs
/-! methods of texts -/
theorem ev_count {apos : Pos} (ha : Ev X Γ e rStr u) (hb : Ev X Γ f rStr v) (hst : starEach [f] X.env = [(false, eval f X.env)] := by rfl) (hbase : attributeBase e "count" X.env (eval e X.env) = eval e X.env := by rfl) (hline : (apos.endLine == pos.line) = true := by rfl) :
    Ev X Γ (.Call (.Attribute e "count" apos) [f] [] pos) rInt (Txt.count u v) := ev_m1 PySem.F.slot_str_count PySem.F.type_str_count mt_count ha hb (fun G H b ex hb Q q => by
  cases hb
  exact ⟨u, v, rfl, rfl, q _ G H (.refl ex) rfl⟩) hst hbase hline
theorem eo_split {apos : Pos} (hv : (v.length == 0) = false) (hn : u.length + 2 ≤ sizeLine) (ha : Ev X Γ e rStr u) (hb : Ev X Γ f rStr v) (hst : starEach [f] X.env = [(false, eval f X.env)] := by rfl) (hbase : attributeBase e "split" X.env (eval e X.env) = eval e X.env := by rfl) (hline : (apos.endLine == pos.line) = true := by rfl) :
    EvO X Γ (.Call (.Attribute e "split" apos) [f] [] pos) (oLst rStr (Txt.split u v)) := eo_m1 PySem.F.slot_str_split PySem.F.type_str_split mt_split ha hb (fun G H b ex hb Q q => by
  cases hb
  exact ⟨u, v, rfl, rfl, hv, hn, fun p n => q p _ _ n rfl ⟨_, rfl, all2_ofStr _⟩⟩) hst hbase hline
theorem ev_intT (hi : ∃ n, PySem.intText? u = some n) (hl : u.length ≤ 640) (h : Ev X Γ e rStr u) (hm : X.mg "int" = none) (hg : Gl X "int" := by rfl) (he : starEach (e :: []) X.env = (false, eval e X.env) :: starEach [] X.env := by rfl) (hpl : (backTo pos (starEach [] X.env)).any (·.1) = false := by rfl) :
    Ev X Γ (.Call (.Name "int" p) [e] [] pos) rInt ((PySem.intText? u).getD 0) := fun E G H σ hh Q q => by
  obtain ⟨n, hn⟩ := hi
  exact WE.of (pe_callTy call_int_str hg hm (by decide +kernel) (pa_cons WE.pe pa_nil he) (he := he) (hpl := hpl)) (h E G H σ hh _ fun v G1 H1 l1 r1 => ⟨u, n, by rw [show v = _ from r1], hn, hl, q _ G1 H1 l1 (by rw [hn]; rfl)⟩)
/-! slices -/
theorem eo_from {p2 : Pos} (h : EvB X Γ e (oLst r as)) (h2 : Ev X Γ f rInt i) : EvO X Γ (.Subscript e (.Slice (some f) none none p2) pos) (oLst r (cutL as (some i) none)) := fun E G H σ hh Q q =>
  WE.of (pe_slice sl_list WE.pe (po_some WE.pe) po_none) (h E G H σ hh _ fun p o G1 H1 l1 hp ⟨vs, e1, ha⟩ => by
    subst e1
    exact h2 E G1 H1 σ (hh.step l1) _ fun w G2 H2 l2 r2 => ⟨i, r2, p, vs, rfl, .inl (.inl (l2.h _ _ hp)), fun p3 n => q p3 _ G2 _ (Evl.fresh_back (l1.trans l2).h n) ((l1.trans l2).addO n) (Evl.fresh_back l2.gh n) upd_same ⟨_, rfl, (ha.mono l2.g).cut _ _⟩⟩)
theorem eo_to {p2 : Pos} (h : EvB X Γ e (oLst r as)) (h2 : Ev X Γ f rInt i) : EvO X Γ (.Subscript e (.Slice none (some f) none p2) pos) (oLst r (cutL as none (some i))) := fun E G H σ hh Q q =>
  WE.of (pe_slice sl_list WE.pe po_none (po_some WE.pe)) (h E G H σ hh _ fun p o G1 H1 l1 hp ⟨vs, e1, ha⟩ => by
    subst e1
    exact h2 E G1 H1 σ (hh.step l1) _ fun w G2 H2 l2 r2 => ⟨i, r2, p, vs, rfl, .inl (.inl (l2.h _ _ hp)), fun p3 n => q p3 _ G2 _ (Evl.fresh_back (l1.trans l2).h n) ((l1.trans l2).addO n) (Evl.fresh_back l2.gh n) upd_same ⟨_, rfl, (ha.mono l2.g).cut _ _⟩⟩)
theorem eo_fromto {g : Expr} {p2 : Pos} (h : EvB X Γ e (oLst r as)) (h2 : Ev X Γ f rInt i) (h3 : Ev X Γ g rInt j) : EvO X Γ (.Subscript e (.Slice (some f) (some g) none p2) pos) (oLst r (cutL as (some i) (some j))) := fun E G H σ hh Q q =>
  WE.of (pe_slice sl_list WE.pe (po_some WE.pe) (po_some WE.pe)) (h E G H σ hh _ fun p o G1 H1 l1 hp ⟨vs, e1, ha⟩ => by
    subst e1
    exact h2 E G1 H1 σ (hh.step l1) _ fun w G2 H2 l2 r2 => ⟨i, r2, h3 E G2 H2 σ ((hh.step l1).step l2) _ fun w G3 H3 l3 r3 => ⟨j, r3, p, vs, rfl, .inl (.inl ((l2.trans l3).h _ _ hp)), fun p3 n => q p3 _ G3 _ (Evl.fresh_back ((l1.trans l2).trans l3).h n) (((l1.trans l2).trans l3).addO n) (Evl.fresh_back l3.gh n) upd_same ⟨_, rfl, (ha.mono (l2.trans l3).g).cut _ _⟩⟩⟩)
/-- a for over a pair of like things -/
theorem ei_t2 {tg : Expr} {a : α × α} (h : Ev X Γ e (rT2 X.K r r) a) : EvI X Γ tg e r [a.1, a.2] := ⟨_, pi_tup WE.pe, fun E G H σ hh R q => h E G H σ hh _ fun v G1 H1 l1 ⟨p, v1, v2, e1, hp, h1, h2⟩ =>
  ⟨p, e1, ⟨_, Evl.ex_t l1.gh hp⟩, q _ G1 H1 l1 fun i G2 H2 g1 g2 => ⟨fun b eb => by
    have hp2 := Evl.ex_t (g1.trans g2) hp
    have ha : All2 r G1 [v1, v2] [a.1, a.2] := .cons h1 (.cons h2 .nil)
    obtain ⟨v, ev, rv⟩ := ha.get eb
    exact ⟨⟨_, v, hp2, ev⟩, fun x H' y => by
      obtain ⟨e3, y2⟩ := y
      have e4 := y2 _ hp2
      rw [ev] at e4
      cases e4
      rw [e3]
      exact ⟨G2, .refl g2, r.mono g1 rv⟩⟩, fun le => ⟨_, Evl.ex_t (g1.trans g2) hp, by exact le⟩⟩⟩⟩
theorem tg_tup3 {t1 t2 t3 : Expr} {n : Nat} {U : α → List Slot → List Slot} {W : β → List Slot → List Slot} {Z : γ → List Slot → List Slot} {vs ws zs : List Nat} (h1 : TgOk X t1 r U vs) (h2 : TgOk X t2 s W ws) (h3 : TgOk X t3 t Z zs) (hc : X.calm = true := by rfl)
    (hs1 : (assignEach (t1 :: [t2, t3]) X.env).map (·.2) = assign t1 X.env :: (assignEach [t2, t3] X.env).map (·.2) := by rfl) (hs2 : (assignEach (t2 :: [t3]) X.env).map (·.2) = assign t2 X.env :: (assignEach [t3] X.env).map (·.2) := by rfl) (hs3 : (assignEach (t3 :: []) X.env).map (·.2) = assign t3 X.env :: (assignEach [] X.env).map (·.2) := by rfl)
    (hn : (assignEach [t1, t2, t3] X.env).length = 3 := by rfl) (hst : (assignEach [t1, t2, t3] X.env).findIdx? (·.1) = none := by rfl) :
    TgOk X (.Tuple [t1, t2, t3] n pos) (rT3 X.K r s t) (fun a Γ => Z a.2.2 (W a.2.1 (U a.1 Γ))) (vs ++ (ws ++ zs)) := fun E G H σ Γ v a hh hv Q q => by
  obtain ⟨p, v1, v2, v3, e, hp, q1, q2, q3⟩ := hv
  subst e
  refine WG.of (pg_tup hc (pgs_cons (t := WG X t1) WG.pg (pgs_cons (t := WG X t2) WG.pg (pgs_cons (t := WG X t3) WG.pg pgs_nil hs3) hs2) hs1) hn hst) ⟨p, [v1, v2, v3], rfl, Evl.ex_t hh.le.gh hp, rfl, v1, [v2, v3], rfl, ?_⟩
  exact h1 E G H σ Γ v1 a.1 hh q1 _ fun σ1 b1 hh1 => ⟨v2, [v3], rfl, h2 E G H σ1 _ v2 a.2.1 hh1 q2 _ fun σ2 b2 hh2 => ⟨v3, [], rfl, h3 E G H σ2 _ v3 a.2.2 hh2 q3 _ fun σ3 b3 hh3 => ⟨rfl, q σ3 (b1.trans (b2.trans b3)) hh3⟩⟩⟩
theorem ev_t3a {a : α × β × γ} {k : Nat} {p2 : Pos} (h : Ev X Γ e (rT3 X.K r s t) a) : Ev X Γ (.Subscript e (.Constant (.int 0) k p2) pos) r a.1 := fun E G H σ hh Q q =>
  WE.of (pe_ix ix_tup WE.pe pe_int (plain_of rfl)) (h E G H σ hh _ fun v G1 H1 l1 ⟨p, v1, v2, v3, e1, hp, h1, h2, h3⟩ => ⟨p, _, 0, v1, e1, rfl, Evl.ex_t l1.gh hp, rfl, q _ G1 H1 l1 h1⟩)
theorem ev_t3b {a : α × β × γ} {k : Nat} {p2 : Pos} (h : Ev X Γ e (rT3 X.K r s t) a) : Ev X Γ (.Subscript e (.Constant (.int 1) k p2) pos) s a.2.1 := fun E G H σ hh Q q =>
  WE.of (pe_ix ix_tup WE.pe pe_int (plain_of rfl)) (h E G H σ hh _ fun v G1 H1 l1 ⟨p, v1, v2, v3, e1, hp, h1, h2, h3⟩ => ⟨p, _, 1, v2, e1, rfl, Evl.ex_t l1.gh hp, rfl, q _ G1 H1 l1 h2⟩)
theorem ev_t3c {a : α × β × γ} {k : Nat} {p2 : Pos} (h : Ev X Γ e (rT3 X.K r s t) a) : Ev X Γ (.Subscript e (.Constant (.int 2) k p2) pos) t a.2.2 := fun E G H σ hh Q q =>
  WE.of (pe_ix ix_tup WE.pe pe_int (plain_of rfl)) (h E G H σ hh _ fun v G1 H1 l1 ⟨p, v1, v2, v3, e1, hp, h1, h2, h3⟩ => ⟨p, _, 2, v3, e1, rfl, Evl.ex_t l1.gh hp, rfl, q _ G1 H1 l1 h3⟩)
/-! names of the module -/
theorem ev_gint {n : Str} (h : ∃ t, X.mg n = some (.int i t)) (hg : Gl X n := by rfl) (hd : (n == ("__debug__" : Str)) = false := by decide) : Ev X Γ (.Name n pos) rInt i := fun E G H σ hh Q q => by
  obtain ⟨t, h⟩ := h
  exact WE.of (pe_glob (v := .int i) hg h ⟨t, rfl⟩ hd) (q _ G H (.refl hh.le.gh) rfl)
theorem ev_gstr {n : Str} (h : ∃ t, X.mg n = some (.str u t)) (hg : Gl X n := by rfl) (hd : (n == ("__debug__" : Str)) = false := by decide) : Ev X Γ (.Name n pos) rStr u := fun E G H σ hh Q q => by
  obtain ⟨t, h⟩ := h
  exact WE.of (pe_glob (v := .str u) hg h ⟨t, rfl⟩ hd) (q _ G H (.refl hh.le.gh) rfl)
theorem ev_gref {n : Str} {a : Addr} (h : X.mg n = some (.ref a)) (hr : ∀ G, r.rel G (.ref a) x) (hg : Gl X n := by rfl) (hd : (n == ("__debug__" : Str)) = false := by decide) : Ev X Γ (.Name n pos) r x := fun E G H σ hh Q q =>
  WE.of (pe_glob (v := .ref a) hg h rfl hd) (q _ G H (.refl hh.le.gh) (hr G))
/-! data of any form -/
theorem ev_dint (h : Ev X Γ e rInt i) : Ev X Γ e (rDyn X.K ro) (.int i) := fun E G H σ hh Q q => h E G H σ hh Q fun v G1 H1 l1 r1 => q v G1 H1 l1 (by cases r1; exact .int i)
theorem ev_dstr (h : Ev X Γ e rStr u) : Ev X Γ e (rDyn X.K ro) (.str u) := fun E G H σ hh Q q => h E G H σ hh Q fun v G1 H1 l1 r1 => q v G1 H1 l1 (by cases r1; exact .str u)
end
end Hf

namespace Hf
open PySem PySem.Spec PyProof.Rows L2
abbrev FnP (K : PySem.W.Frag) (x : Str) (st : Stmt) (f : Addr) (fd : FuncData) : Prop := FunD K x x (defArgs st) (defBody st) (defScope st) [] [] f fd
/-! sizes of ints -/
def Top (i : Int) : Prop := i.natAbs.log2 < 100000
def Bot (j : Int) : Prop := 0 < j ∧ j.natAbs.log2 < 9000
theorem log2_lt {n k : Nat} (h0 : 0 < k) (h : n < 2 ^ k) : n.log2 < k := PySem.Flt.log2_lt_of h0 h
theorem top_of {i : Int} {k : Nat} (h : i.natAbs < 2 ^ k) (h0 : 0 < k) (hk : k ≤ 100000) : Top i := Nat.lt_of_lt_of_le (log2_lt h0 h) hk
theorem bot_of {i : Int} {k : Nat} (hp : 0 < i) (h : i.natAbs < 2 ^ k) (h0 : 0 < k) (hk : k ≤ 9000) : Bot i := ⟨hp, Nat.lt_of_lt_of_le (log2_lt h0 h) hk⟩
theorem Bot.top {i : Int} (h : Bot i) : Top i := Nat.lt_trans h.2 (by decide)
theorem top1 : Top 1 := by unfold Top; decide
theorem cm {i j : Int} (h : Top i) (k : Top j) : CMulW i j := by unfold CMulW Top at *; omega
theorem Bot.div {i j : Int} (h : Bot j) : CDivW i j := h
theorem log2_mono {m n : Nat} (h : m ≤ n) : m.log2 ≤ n.log2 := by
  by_cases hm : m = 0
  · subst hm; simp
  · exact (Nat.le_log2 (by omega)).mpr (Nat.le_trans ((Nat.le_log2 hm).mp (Nat.le_refl _)) h)
theorem Bot.le {i j : Int} (h : Bot j) (h0 : 0 < i) (h1 : i ≤ j) : Bot i := ⟨h0, Nat.lt_of_le_of_lt (log2_mono (by omega)) h.2⟩
/-! shares -/
def share (t b : Int) : Int × Int := (t / (Int.gcd t b : Int), b / (Int.gcd t b : Int))
def isMore (a b : Int × Int) : Bool := decide (b.1 * a.2 < a.1 * b.2)
theorem gcd_pos_r {t b : Int} (h : 0 < b) : 0 < (Int.gcd t b : Int) := by
  have := Int.gcd_pos_of_ne_zero_right t (b := b) (by omega)
  omega
theorem gcd_le_r {t b : Int} (h : 0 < b) : (Int.gcd t b : Int) ≤ b := Int.le_of_dvd h (Int.gcd_dvd_right ..)
theorem gcd_step {x y : Int} (hx : 0 ≤ x) (hy : 0 ≤ y) : Int.gcd y (x % y) = Int.gcd x y := by
  obtain ⟨m, rfl⟩ := Int.eq_ofNat_of_zero_le hx
  obtain ⟨n, rfl⟩ := Int.eq_ofNat_of_zero_le hy
  show Nat.gcd _ _ = Nat.gcd _ _
  rw [← Int.natCast_emod, Int.natAbs_natCast, Int.natAbs_natCast, Int.natAbs_natCast]
  rw [Nat.gcd_comm, Nat.gcd_comm m n, Nat.gcd_rec n m]
theorem gcd_absif {t b : Int} : (Int.gcd (if t < 0 then -t else t) b) = Int.gcd t b := by
  split
  · simp
  · rfl
/-- an own global that is an object of the written part -/
theorem ev_gref' {X : Cx} {Γ : List Slot} {α : Type} {r : Rp α} {x : α} {pos : Pos} {n : Str} (h : ∃ a, X.mg n = some (.ref a) ∧ ∀ G, r.rel G (.ref a) x) (hg : Gl X n := by rfl) (hd : (n == ("__debug__" : Str)) = false := by decide) : Ev X Γ (.Name n pos) r x := by
  obtain ⟨a, h1, h2⟩ := h
  exact ev_gref h1 h2 hg hd
theorem ev_lenT2 {X : Cx} {Γ : List Slot} {α β : Type} {r : Rp α} {s : Rp β} {a : α × β} {e : Expr} {pos p : Pos} (h : Ev X Γ e (rT2 X.K r s) a) (hm : X.mg "len" = none) (hg : Gl X "len" := by rfl) (he : starEach (e :: []) X.env = (false, eval e X.env) :: starEach [] X.env := by rfl) (hpl : (backTo pos (starEach [] X.env)).any (·.1) = false := by rfl) :
    Ev X Γ (.Call (.Name "len" p) [e] [] pos) rInt 2 := fun E G H σ hh Q q =>
  WE.of (pe_callB call_len_seq hg hm PySem.boot_len (pa_cons WE.pe pa_nil he) (he := he) (hpl := hpl)) (h E G H σ hh _ fun v G1 H1 l1 ⟨p, v1, v2, e1, hp, _, _⟩ => ⟨p, _, by rw [e1], .inr (Evl.ex_t l1.gh hp), q _ G1 H1 l1 rfl⟩)
theorem kind_seq {K : PySem.W.Frag} {α : Type} {r : Rp α} {as : List α} : Kind K (rSeq K r) as "list" := fun G v ⟨p, vs, e, h, _⟩ => by
  subst e
  rcases h with (h | ⟨o, h⟩) | ⟨o, its, n, h, c, _⟩
  · exact .base (.lst h)
  · exact .base (.frz h)
  · exact .kList h c
/-- int(..) // .. of the law's cells -/
def cellAt (script : List Int) (k : Int) : Int :=
  if decide (k < (script.length : Int)) = true then script.getD k.toNat 0
  else if PyData.eqv (pdInts script) (pdInts []) = true then k * 48271
  else (script.getD (k % (script.length : Int)).toNat 0 + k) * 48271 % 2147483647
theorem eqv_seqInts {K : PySem.W.Frag} {ns : List Int} : Eqv K (rSeq K rInt) ns (pdInts ns) := ⟨fun G v ⟨p, vs, e, h, h2⟩ => by
  subst e
  exact .lst h (dpAll_ints h2), by
  have z : ∀ l : List Int, PyData.canLayAll0 (l.map .int) = true := fun l => by
    induction l with
    | nil => rfl
    | cons a l ih => simp [PyData.canLayAll0, PyData.canLay0, ih]
  have d : ∀ l : List Int, PyData.depthAll (l.map PyData.int) ≤ 1 := fun l => by
    induction l with
    | nil => simp [PyData.depthAll]
    | cons a l ih => simp [PyData.depthAll, PyData.depth]; omega
  unfold SeqAt.shaped pdInts
  have := d ns
  simp only [PyData.canLay0, z, PyData.depth, Bool.true_and]
  exact decide_eq_true (by omega)⟩
theorem eqv_ints {K : PySem.W.Frag} {ns : List Int} : Eqv K (rLst rInt) ns (pdInts ns) := ⟨fun G v ⟨p, vs, e, h, h2⟩ => (eqv_seqInts (K := K)).dp G v ⟨p, vs, e, .inl (.inl h), h2⟩, (eqv_seqInts (K := K)).sh⟩
end Hf

namespace Hf
open PySem PySem.Spec PyProof.Rows L2
def isShare (t : Int × Int) : Bool := decide (0 ≤ t.1) && decide (1 ≤ t.2) && decide (share t.1 t.2 = t)
def isNum (i lo hi : Int) : Bool := decide (lo ≤ i) && decide (i ≤ hi)
theorem foldl_next {α β : Type} {xs : List α} {i : Nat} {a : α} {f : β → α → β} {b s : β} (h : xs[i]? = some a) (e : s = (xs.take i).foldl f b) {s' : β} (k : s' = f s a) : s' = (xs.take (i + 1)).foldl f b := by
  rw [List.take_add_one, h, List.foldl_append, ← e, k]
  rfl
/-! one sign many times -/
theorem mul_length {x : Str} {n : Int} (h : 0 ≤ n) (h1 : x.length = 1) : (Txt.mul x n).length = n.toNat := by
  unfold Txt.mul
  by_cases z : n < 1
  · rw [if_pos z]
    have : n = 0 := by omega
    subst this
    rfl
  · rw [if_neg z]
    by_cases e : n = 1
    · subst e
      rw [if_pos (by simp)]
      simpa using h1
    · rw [if_neg (by simp [e, h1])]
      have g : ∀ (k : Nat) (acc : Array Nat), ((List.replicate k x.cps).foldl (· ++ ·) acc).size = acc.size + k := fun k => by
        induction k with
        | zero => intro acc; simp
        | succ k ih =>
          intro acc
          rw [List.replicate_succ, List.foldl_cons, ih, Array.size_append]
          have : x.cps.size = 1 := h1
          omega
      show ((List.replicate n.toNat x.cps).foldl (· ++ ·) #[]).size = n.toNat
      rw [g]
      simp
theorem mulOk_one {x : Str} {n : Int} (h : 0 ≤ n ∧ n ≤ 1000) (h1 : x.length = 1 := by rfl) : MulOk x n := by
  refine ⟨by simp; omega, fun _ _ => ?_, fun _ _ => ?_⟩
  · rw [h1]
    have : (2 ^ 63 - 1 : Int) / n ≥ 1 := by
      have : (2 ^ 63 - 1 : Int) / n ≥ (2 ^ 63 - 1) / 1000 * 1 / 1 := by
        rw [ge_iff_le, Int.le_ediv_iff_mul_le (by omega)]
        omega
      omega
    omega
  · rw [h1]
    unfold Builtin.Str.tooLong
    have : n.toNat ≤ 1000 := by omega
    have z : 1 * n.toNat ≤ sizeLine := Evl.sz_of (by omega)
    simp only [decide_eq_false_iff_not]
    omega
/-! shares of the whole -/
def isPart (thing : Int × Int) : Bool := (isShare thing && !isMore thing (1, 1))
theorem part_facts {t : Int × Int} (h : isPart t = true) : 0 ≤ t.1 ∧ 1 ≤ t.2 ∧ t.1 ≤ t.2 := by
  simp [isPart, isShare, isMore] at h
  omega
theorem part_pos {t : Int × Int} (h : isPart t = true) (hl : t.2.natAbs.log2 < 30) : 0 < t.2 ∧ t.2 < 1073741824 := by
  have := part_facts h
  refine ⟨by omega, ?_⟩
  have : t.2.natAbs < 2 ^ 30 := (Nat.log2_lt (by omega)).mp hl
  omega
def doneOf (s : Int × Int) (many : Int) : Int := s.1 * many / s.2
def barT (s : Int × Int) (many : Int) : Str := Txt.mul "#" (doneOf s many) ++ Txt.mul "." (many - doneOf s many)
theorem done_bounds {t : Int × Int} {m : Int} (h : isPart t = true) (hm : 1 ≤ m) : 0 ≤ doneOf t m ∧ doneOf t m ≤ m := by
  obtain ⟨h0, h1, h2⟩ := part_facts h
  unfold doneOf
  refine ⟨Int.ediv_nonneg (Int.mul_nonneg h0 (by omega)) (by omega), ?_⟩
  have : t.1 * m ≤ m * t.2 := by
    rw [Int.mul_comm m]
    exact Int.mul_le_mul_of_nonneg_right h2 (by omega)
  have := Int.ediv_le_ediv (by omega : 0 < t.2) this
  rw [Int.mul_ediv_cancel _ (by omega)] at this
  exact this
end Hf

namespace Hf
open PySem PySem.Spec PyProof.Rows L2
abbrev FnD (K : PySem.W.Frag) (x : Str) (st : Stmt) (dvs : List V) (f : Addr) (fd : FuncData) : Prop := FunD K x x (defArgs st) (defBody st) (defScope st) dvs [] f fd
theorem cxl_no {P : Program} {w : World} {l : List Env} {H : Hp} {s : Shared} {e : Value} {s' : Shared} (h : L2.CX P w l H s E0 e s') : False := by
  obtain ⟨_, _, _, _, _, _, _, _, _, _, _, _, z⟩ := h
  exact z.elim
theorem fn_quiet {P : Program} {w : World} {K : PySem.W.Frag} {mg : Str → Option Value} {base : Heap} {k : Nat} {f : Addr} {fd : FuncData} {ps : List Str} {sp : Sp} (F : FnOk P w K mg base (CXL P w) k f fd ps sp) (h : ∀ vs H Q E E', sp vs H Q E → sp vs H Q E') : FnOk P w K mg base CX0 k f fd ps sp :=
  ⟨F.len, fun A outer s H args us vs Q E hr he hb hv hs => codeAny_mono (F.run A outer s H args us vs Q E0 hr he hb hv (h _ _ _ _ _ hs)) fun r s' q => by
    cases r with
    | error e => exact (cxl_no q).elim
    | ok fl => cases fl <;> exact q⟩
/-- a def of which the last parameters may be left out -/
theorem Has.mkD {P : Program} {w : World} {K : PySem.W.Frag} {mg : Str → Option Value} {base : Heap} {x : Str} {k : Nat} {sp spF : Sp} {f : Addr} {fd : FuncData} {ps : List Str} {dvs : List V} (hm : mg x = some (.ref f)) (hk : PySem.W.keepIn K (.ref f) = true) (hb : ∃ ds, Vals dvs ds ∧ Binds K fd ps ds) (F : FnOk P w K mg base (CXL P w) k f fd ps spF)
    (h : ∀ vs H Q, sp vs H Q E0 → spF (vs ++ dvs) H Q E0) : Has P w K mg base x k sp := by
  obtain ⟨ds, h1, h2⟩ := hb
  exact ⟨f, fd, ps, spF, dvs, ds, hm, hk, h2, h1, F, h⟩
theorem args_app {G : Hp} {v : V} {t : Ty} (h : t.r.rel G v t.a) : ∀ {vs : List V} {ts : List Ty}, Args G vs ts → Args G (vs ++ [v]) (ts ++ [t])
  | [], [], _ => ⟨h, trivial⟩
  | _ :: _, _ :: _, k => ⟨k.1, args_app h k.2⟩
end Hf

namespace Hf
open PySem PySem.Spec PyProof.Rows L2
theorem cell_ne {l : List Int} (h : PyData.eqv (pdInts l) (pdInts []) = false) : 0 < (l.length : Int) := by
  rw [pdInts_eqv] at h
  cases l with
  | nil => simp at h
  | cons a l => simp
def percentT (s : Int × Int) : Str := Str.ofString (toString (s.1 * 100 / s.2)) ++ " in 100"
theorem hundred_bounds {s : Int × Int} (h : isPart s = true) : 0 ≤ s.1 * 100 / s.2 ∧ s.1 * 100 / s.2 ≤ 100 := done_bounds (m := 100) h (by omega)
theorem hundred_small {s : Int × Int} (h : isPart s = true) : (s.1 * 100 / s.2).natAbs.log2 < 1920 := by
  have := hundred_bounds h
  exact Nat.lt_of_lt_of_le (log2_lt (k := 7) (by decide) (by omega)) (by decide)
theorem small_texts : ∀ n : Nat, n ≤ 100 → (Str.ofString (toString (n : Int))).length ≤ 3 := by decide +kernel
theorem percent_len {s : Int × Int} (h : isPart s = true) : (Str.ofString (toString (s.1 * 100 / s.2))).length + (" in 100" : Str).length ≤ sizeLine := by
  have hb := hundred_bounds h
  obtain ⟨n, e⟩ := Int.eq_ofNat_of_zero_le hb.1
  rw [e]
  have := small_texts n (by omega)
  have z : (" in 100" : Str).length = 7 := by decide +kernel
  rw [z]
  exact Evl.sz_of (by omega)
def pickB (cell : Int) : Int := [(9 : Int), 100, 1001, 1000000000].getD (cell / 7 % 4).toNat 0
theorem pick_ok {cell : Int} : 0 ≤ cell / 7 % 4 ∧ cell / 7 % 4 < (([(9 : Int), (100 : Int), (1001 : Int), (1000000000 : Int)] : List Int).length : Int) := by
  show 0 ≤ cell / 7 % 4 ∧ cell / 7 % 4 < 4
  omega
theorem pick_bounds (cell : Int) : 9 ≤ pickB cell ∧ pickB cell ≤ 1000000000 := by
  unfold pickB
  have h : ∀ k : Nat, k < 4 → 9 ≤ [(9 : Int), 100, 1001, 1000000000].getD k 0 ∧ [(9 : Int), 100, 1001, 1000000000].getD k 0 ≤ 1000000000 := by decide
  exact h _ (by omega)
theorem pick_pos {cell : Int} : 0 < [(9 : Int), (100 : Int), (1001 : Int), (1000000000 : Int)].getD (cell / 7 % 4).toNat 0 := by
  have := (pick_bounds cell).1
  unfold pickB at this
  omega
def bottomL (cell : Int) : Int := 1 + cell % pickB cell
def topL (cell : Int) : Int := cell * 48271 % 1000003 * 7919 % (bottomL cell + 1)
theorem bottom_bounds (cell : Int) : 1 ≤ bottomL cell ∧ bottomL cell ≤ 1000000000 := by
  have h := pick_bounds cell
  unfold bottomL
  have := Int.emod_nonneg cell (b := pickB cell) (by omega)
  have := Int.emod_lt_of_pos cell (b := pickB cell) (by omega)
  omega
def lawShare (cell : Int) : Int × Int := (topL cell / (Int.gcd (bottomL cell) (topL cell) : Int), bottomL cell / (Int.gcd (bottomL cell) (topL cell) : Int))

structure Good (s : Int × Int) : Prop where
  part : isPart s = true
  top : Top s.1
  small : s.2.natAbs.log2 < 30
theorem gcd_div_share {b t : Int} (hb : 0 < b) (ht : 0 ≤ t) (hle : t ≤ b) (hs : b ≤ 1000000000) : Good (t / (Int.gcd b t : Int), b / (Int.gcd b t : Int)) := by
  have hg : (0 : Int) < (Int.gcd b t : Int) := by
    have := Int.gcd_pos_of_ne_zero_left t (a := b) (by omega)
    omega
  have hgb : (Int.gcd b t : Int) ∣ b := Int.gcd_dvd_left ..
  have hgt : (Int.gcd b t : Int) ∣ t := Int.gcd_dvd_right ..
  have h1 : 1 ≤ b / (Int.gcd b t : Int) := Int.le_ediv_of_mul_le hg (by have := Int.le_of_dvd hb hgb; omega)
  have h2 : b / (Int.gcd b t : Int) ≤ b := Int.ediv_le_self _ (by omega)
  have h3 : t / (Int.gcd b t : Int) ≤ b / (Int.gcd b t : Int) := Int.ediv_le_ediv hg hle
  have h0 : 0 ≤ t / (Int.gcd b t : Int) := Int.ediv_nonneg ht (by omega)
  have co : Int.gcd (t / (Int.gcd b t : Int)) (b / (Int.gcd b t : Int)) = 1 := by
    rw [Int.gcd_comm b t]
    exact Int.gcd_ediv_gcd_ediv_gcd (by rw [Int.gcd_comm]; omega)
  refine ⟨?_, top_of (k := 30) (by simp only; omega) (by decide) (by decide), log2_lt (by decide) (by simp only; omega)⟩
  simp only [isPart, isShare, isMore, share, co]
  simp
  omega
theorem lawShare_good (cell : Int) : Good (lawShare cell) := by
  have hb := bottom_bounds cell
  have h1 : 0 ≤ topL cell := Int.emod_nonneg _ (by omega)
  have h2 : topL cell < bottomL cell + 1 := Int.emod_lt_of_pos _ (by omega)
  exact gcd_div_share (by omega) h1 (by omega) hb.2
def lawShares (script : List Int) : List (Int × Int) := (rangeL 0 6).map (fun k => lawShare (cellAt script k)) ++ [((0 : Int), (1 : Int)), (1, 1), (1, 3), (99, 100)]
theorem good_lit {a b : Int} (h : isPart (a, b) = true := by decide) (h2 : a.natAbs.log2 < 30 := by decide) (h3 : b.natAbs.log2 < 30 := by decide) : Good (a, b) := ⟨h, Nat.lt_trans h2 (by decide), h3⟩
theorem shares_good {script : List Int} : ∀ s ∈ lawShares script, Good s := by
  intro s hs
  unfold lawShares at hs
  rcases List.mem_append.mp hs with h | h
  · obtain ⟨k, _, rfl⟩ := List.mem_map.mp h
    exact lawShare_good _
  · simp only [List.mem_cons, List.not_mem_nil, or_false] at h
    rcases h with rfl | rfl | rfl | rfl <;> exact good_lit
/-! one sign many times -/
theorem mul_list {c : Nat} {n : Int} (h : 0 ≤ n) : (Txt.mul ⟨#[c]⟩ n).cps.toList = List.replicate n.toNat c := by
  unfold Txt.mul
  by_cases z : n < 1
  · rw [if_pos z]
    have : n = 0 := by omega
    subst this
    rfl
  · rw [if_neg z]
    by_cases e : n = 1
    · subst e
      rw [if_pos (by simp)]
      rfl
    · rw [if_neg (by simp [e, Str.length])]
      have g : ∀ (k : Nat) (acc : Array Nat), ((List.replicate k #[c]).foldl (· ++ ·) acc).toList = acc.toList ++ List.replicate k c := fun k => by
        induction k with
        | zero => intro acc; simp
        | succ k ih =>
          intro acc
          rw [List.replicate_succ, List.foldl_cons, ih, Array.toList_append, List.replicate_succ, List.append_assoc]
          rfl
      show ((List.replicate n.toNat #[c]).foldl (· ++ ·) #[]).toList = _
      rw [g]
      rfl
theorem cnt_same (c : Nat) : ∀ n : Nat, PyProof.Rows.cnt c (List.replicate n c) = n
  | 0 => rfl
  | n + 1 => by
    rw [List.replicate_succ, PyProof.Rows.cnt_cons, cnt_same c n, if_pos rfl]
    omega
theorem str_hash : ("#" : Str) = ⟨#[35]⟩ := by decide +kernel
theorem str_dot : ("." : Str) = ⟨#[46]⟩ := by decide +kernel
theorem app_list (a b : Str) : (a ++ b).cps.toList = a.cps.toList ++ b.cps.toList := by
  show (a.cps ++ b.cps).toList = _
  simp
theorem bar_list {s : Int × Int} {m : Int} (h : isPart s = true) (hm : 1 ≤ m) : (barT s m).cps.toList = List.replicate (doneOf s m).toNat 35 ++ List.replicate (m - doneOf s m).toNat 46 := by
  have hb := done_bounds h hm
  unfold barT
  rw [app_list, str_hash, str_dot, mul_list hb.1, mul_list (by omega)]
theorem count_bar {s : Int × Int} {m : Int} (h : isPart s = true) (hm : 1 ≤ m) : Txt.count (barT s m) "#" = doneOf s m := by
  have hb := done_bounds h hm
  rw [str_hash, PyProof.Rows.count_cnt, bar_list h hm, PyProof.Rows.cnt_append, cnt_same, PyProof.Rows.cnt_none]
  · omega
  · simp
theorem done_floor {s : Int × Int} {m : Int} (h : isPart s = true) : doneOf s m * s.2 ≤ s.1 * m ∧ s.1 * m < (doneOf s m + 1) * s.2 := by
  obtain ⟨h0, h1, h2⟩ := part_facts h
  unfold doneOf
  exact ⟨Int.ediv_mul_le _ (by omega), Int.lt_ediv_add_one_mul_self _ (by omega)⟩
/-- the whole alone is shown full -/
theorem full_iff {s : Int × Int} {m : Int} (h : isPart s = true) (hm : 1 ≤ m) : doneOf s m = m ↔ s = (1, 1) := by
  obtain ⟨h0, h1, h2⟩ := part_facts h
  have hf := done_floor (m := m) h
  have hb := done_bounds h hm
  constructor
  · intro e
    rw [e] at hf
    have e2 : s.1 = s.2 := by
      rcases Int.lt_or_le s.1 s.2 with q | q
      · have : s.1 * m < s.2 * m := Int.mul_lt_mul_of_pos_right q (by omega)
        have z := hf.1
        rw [Int.mul_comm m s.2] at z
        omega
      · omega
    have hs : share s.1 s.2 = s := by
      simp [isPart, isShare] at h
      exact h.1.2
    obtain ⟨a, b⟩ := s
    simp only at e2 h1
    subst e2
    simp only [share, Int.gcd_self] at hs
    have z := (Prod.mk.inj hs).1
    have : ((a.natAbs : Nat) : Int) = a := by omega
    rw [this, Int.ediv_self (by omega)] at z
    rw [← z]
  · intro e
    subst e
    simp [doneOf]
theorem bar_full {s : Int × Int} {m : Int} (h : isPart s = true) (hm : 1 ≤ m) : decide (barT s m = Txt.mul "#" m) = PyData.eqv (pdPair s) (pdPair (1, 1)) := by
  rw [pdPair_eqv]
  have hb := done_bounds h hm
  refine decide_eq_decide.mpr ⟨fun e => (full_iff h hm).mp ?_, fun e => ?_⟩
  · have z : PyProof.Rows.cnt 46 (barT s m).cps.toList = PyProof.Rows.cnt 46 (Txt.mul "#" m).cps.toList := by rw [e]
    rw [bar_list h hm, PyProof.Rows.cnt_append, cnt_same, PyProof.Rows.cnt_none 46 _ (by simp), str_hash, mul_list (by omega), PyProof.Rows.cnt_none 46 _ (by simp)] at z
    omega
  · have e2 := (full_iff h hm).mpr e
    unfold barT
    rw [e2]
    have : Txt.mul "." (m - m) = Str.empty := by
      unfold Txt.mul
      rw [if_pos (by omega)]
    rw [this]
    generalize Txt.mul "#" m = z
    obtain ⟨z⟩ := z
    show (⟨z ++ #[]⟩ : Str) = ⟨z⟩
    rw [Array.append_empty]
/-- more is never shown as less -/
theorem done_mono {a b : Int × Int} {m : Int} (ha : isPart a = true) (hb : isPart b = true) (hm : 0 ≤ m) (h : a.1 * b.2 ≤ b.1 * a.2) : doneOf a m ≤ doneOf b m := by
  obtain ⟨a0, a1, a2⟩ := part_facts ha
  obtain ⟨b0, b1, b2⟩ := part_facts hb
  have h1 := (done_floor (m := m) ha).1
  unfold doneOf at h1 ⊢
  rw [Int.le_ediv_iff_mul_le (by omega)]
  have k1 : a.1 * m / a.2 * b.2 * a.2 ≤ b.1 * m * a.2 := by
    have q1 : a.1 * m / a.2 * a.2 * b.2 ≤ a.1 * m * b.2 := Int.mul_le_mul_of_nonneg_right h1 (by omega)
    have q2 : a.1 * b.2 * m ≤ b.1 * a.2 * m := Int.mul_le_mul_of_nonneg_right h hm
    grind
  exact Int.le_of_mul_le_mul_right k1 (by omega)
/-! hundredths -/
theorem split_pct : ∀ n : Nat, n ≤ 100 → Txt.split (Str.ofString (toString (n : Int)) ++ " in 100") " " = [Str.ofString (toString (n : Int)), "in", "100"] := by decide +kernel
theorem pct_split {s : Int × Int} (h : isPart s = true) : Txt.split (percentT s) " " = [Str.ofString (toString (s.1 * 100 / s.2)), "in", "100"] := by
  have hb := hundred_bounds h
  obtain ⟨n, e⟩ := Int.eq_ofNat_of_zero_le hb.1
  unfold percentT
  rw [e]
  exact split_pct n (by omega)
theorem pct_int {s : Int × Int} (h : isPart s = true) : PySem.intText? (Str.ofString (toString (s.1 * 100 / s.2))) = some (s.1 * 100 / s.2) := by
  have hb := hundred_bounds h
  obtain ⟨n, e⟩ := Int.eq_ofNat_of_zero_le hb.1
  rw [e]
  have z : ∀ n : Nat, n ≤ 100 → PySem.intText? (Str.ofString (toString (n : Int))) = some (n : Int) := by decide +kernel
  exact z n (by omega)
theorem pct_len {s : Int × Int} (h : isPart s = true) : (Str.ofString (toString (s.1 * 100 / s.2))).length ≤ 3 := by
  have hb := hundred_bounds h
  obtain ⟨n, e⟩ := Int.eq_ofNat_of_zero_le hb.1
  rw [e]
  exact small_texts n (by omega)
theorem pct_ok {s : Int × Int} (h : isPart s = true) : PyData.strOk (Str.ofString (toString (s.1 * 100 / s.2))) = true := by
  have hb := hundred_bounds h
  obtain ⟨n, e⟩ := Int.eq_ofNat_of_zero_le hb.1
  rw [e]
  have z : ∀ n : Nat, n ≤ 100 → PyData.strOk (Str.ofString (toString (n : Int))) = true := by decide +kernel
  exact z n (by omega)
theorem rangeL_nn {n : Nat} {q : Int} (h : q ∈ rangeL 0 n) : 0 ≤ q := by
  obtain ⟨k, _, rfl⟩ := List.mem_map.mp h
  omega
theorem many_ok {script : List Int} {m : Int} (h : m ∈ [(1 : Int), 2, 1 + cellAt script 6 % 100, 99, 100]) : 1 ≤ m ∧ m ≤ 100 := by
  simp only [List.mem_cons, List.not_mem_nil, or_false] at h
  omega
theorem mono_no {a b : Int × Int} {p : Prop} (ha : Good a) (hb : Good b) (h : (decide (a.1 * b.2 ≤ b.1 * a.2) && decide (Txt.count (barT b 20) "#" < Txt.count (barT a 20) "#")) = true) : p := by
  rw [count_bar ha.part (by decide), count_bar hb.part (by decide)] at h
  simp only [Bool.and_eq_true, decide_eq_true_eq] at h
  have := done_mono (m := 20) ha.part hb.part (by decide) h.1
  omega
end Hf

namespace Hf
open PySem PySem.Spec PyProof.Rows L2
def top (i : Nat) : Stmt := PySem.Challenge.pw_howfar_k08_whole_shown.main.body.getD i (.Pass ⟨0, 0, 0, 0⟩)
structure Facts (K : PySem.W.Frag) (mg : Str → Option Value) : Prop where
  f_len : mg "len" = none
  f_abs : mg "abs" = none
  f_all : mg "all" = none
  f_str : mg "str" = none
  f_int : mg "int" = none
  f_bool : mg "bool" = none
  f_tuple : mg "tuple" = none
  f_isinstance : mg "isinstance" = none
  f_range : mg "range" = none
  g_SIGNS : ∃ t, mg "SIGNS" = some (.int 100 t)
  g_WHOLE : ∃ a, mg "WHOLE" = some (.ref a) ∧ ∀ G, (rT2 K rInt rInt).rel G (.ref a) ((1, 1) : Int × Int)
section
variable {P : Program} {w : World} {K : PySem.W.Frag} {mg : Str → Option Value} {base : Heap}
abbrev s_common : Stmt := top 6
theorem sc_common : FnScope ["one", "other"] ["one", "other"] (defScope s_common) := ⟨rfl, rfl, rfl, by decide +kernel, rfl, by decide +kernel, by decide +kernel⟩
abbrev sp_common (K : PySem.W.Frag) : Sp := PSp (fun y : Int × Int => 0 ≤ y.1 ∧ 0 ≤ y.2) (fun y => [⟨rInt, y.1⟩, ⟨rInt, y.2⟩]) rInt (fun y => (Int.gcd y.1 y.2 : Int))
theorem ok_common {f : Addr} {fd : FuncData} (F : FnD K "common" s_common [] f fd) (T : Facts K mg) : FnOk P w K mg base (CXL P w) 1 f fd ["one", "other"] (sp_common K) := by
  refine fn_pure F sc_common (fun _ => rfl) fun y hp cdv A outer s H E0 G D hr hret hnx => ?_
  obtain ⟨one, other⟩ := y
  try dsimp only at hp hret hnx
  refine bk_while (fun s : Int × Int => [.sh rInt s.1, .sh rInt s.2]) (fun s => 0 ≤ s.1 ∧ 0 ≤ s.2 ∧ Int.gcd s.1 s.2 = Int.gcd one other) (fun s => s.2.toNat) (fun s => !decide (s.2 = 0)) (one, other) (passes_of rfl) ⟨hp.1, hp.2, rfl⟩ (fun _ _ _ h => h) (fun s _ => et_neI (ev_v 1) ev_int) (fun s hs hb => ?_) (fun s hs hb => ?_)
  · obtain ⟨x, y⟩ := s
    have hy : y ≠ 0 := by simpa using hb
    have hy1 : 0 < y := by have := hs.2.1; simp only at this; omega
    refine bk_par 0 1 sc_common.nd (ev_v 1) (ev_mod hy1 (ev_v 0) (ev_v 1)) ?_
    refine bk_end fun G H σ hh => ⟨(y, x % y), ⟨⟨hs.2.1, Int.emod_nonneg _ hy, ?_⟩, ?_⟩, G, hh⟩
    · rw [← hs.2.2]
      exact gcd_step hs.1 hs.2.1
    · have := Int.emod_lt_of_pos x hy1
      have := Int.emod_nonneg x hy
      show (x % y).toNat < y.toNat
      omega
  · obtain ⟨x, y⟩ := s
    have hy : y = 0 := by simpa using hb
    subst hy
    refine bk_ret (ev_v 0) (hret.eq ?_)
    rw [← hs.2.2]
    show ((Int.gcd x 0 : Nat) : Int) = x
    have := hs.1
    simp only at this
    rw [Int.gcd_zero]
    omega
abbrev s_share : Stmt := top 7
theorem sc_share : FnScope ["top", "bottom", "part"] ["top", "bottom"] (defScope s_share) := ⟨rfl, rfl, rfl, by decide +kernel, rfl, by decide +kernel, by decide +kernel⟩
abbrev sp_share (K : PySem.W.Frag) : Sp := PSp (fun y : Int × Int => Bot y.2) (fun y => [⟨rInt, y.1⟩, ⟨rInt, y.2⟩]) (rT2 K rInt rInt) (fun y => share y.1 y.2)
theorem ok_share {f : Addr} {fd : FuncData} (F : FnD K "share" s_share [] f fd) (T : Facts K mg) (h_common : Has P w K mg base "common" 1 (sp_common K)) : FnOk P w K mg base (CXL P w) 2 f fd ["top", "bottom"] (sp_share K) := by
  refine fn_pure F sc_share (fun _ => rfl) fun y hp cdv A outer s H E0 G D hr hret hnx => ?_
  obtain ⟨top, bottom⟩ := y
  try dsimp only at hp hret hnx
  have hg : (Int.gcd (if top < 0 then -top else top) bottom : Int) = Int.gcd top bottom := by rw [gcd_absif]
  have hd : ∀ {i : Int}, CDivW i (Int.gcd (if top < 0 then -top else top) bottom : Int) := fun {i} => by rw [gcd_absif]; exact hp.le (gcd_pos_r hp.1) (gcd_le_r hp.1)
  refine bk_setg 2 sc_share.nd (ev_call h_common hr (by decide) ((if top < 0 then -top else top), bottom) ⟨by split <;> omega, by have := hp.1; omega⟩ (ea_cons (ev_abs (ev_v 0) T.f_abs) (ea_cons (ev_v 1) ea_nil))) (fun v_part h_part => ?_)
  exact bk_ret (x := ((top / v_part), (bottom / v_part))) (ev_tup2 (ea_cons (ev_divW (i := top) (j := v_part) (by rw [h_part]; exact hd) (ev_v 0) (ev_v 2)) (ea_cons (ev_divW (i := bottom) (j := v_part) (by rw [h_part]; exact hd) (ev_v 1) (ev_v 2)) ea_nil))) (hret.eq (by rw [show v_part = (Int.gcd top bottom : Int) from h_part.trans hg]; rfl))
abbrev s_is_more : Stmt := top 8
theorem sc_is_more : FnScope ["one", "other"] ["one", "other"] (defScope s_is_more) := ⟨rfl, rfl, rfl, by decide +kernel, rfl, by decide +kernel, by decide +kernel⟩
abbrev sp_is_more (K : PySem.W.Frag) : Sp := PSp (fun y : (Int × Int) × (Int × Int) => Top y.1.1 ∧ Top y.1.2 ∧ Top y.2.1 ∧ Top y.2.2) (fun y => [⟨(rT2 K rInt rInt), y.1⟩, ⟨(rT2 K rInt rInt), y.2⟩]) rBool (fun y => isMore y.1 y.2)
theorem ok_is_more {f : Addr} {fd : FuncData} (F : FnD K "is_more" s_is_more [] f fd) (T : Facts K mg) : FnOk P w K mg base (CXL P w) 1 f fd ["one", "other"] (sp_is_more K) := by
  refine fn_pure F sc_is_more (fun _ => rfl) fun y hp cdv A outer s H E0 G D hr hret hnx => ?_
  obtain ⟨one, other⟩ := y
  try dsimp only at hp hret hnx
  exact bk_ret (x := decide ((other.1 * one.2) < (one.1 * other.2))) (ev_gt (ev_mulW (i := one.1) (j := other.2) (cm hp.1 hp.2.2.2) (ev_fst (ev_v 0)) (ev_snd (ev_v 1))) (ev_mulW (i := other.1) (j := one.2) (cm hp.2.2.1 hp.2.1) (ev_fst (ev_v 1)) (ev_snd (ev_v 0)))) (hret.eq rfl)
abbrev s_is_share : Stmt := top 9
theorem sc_is_share : FnScope ["thing", "one"] ["thing"] (defScope s_is_share) := ⟨rfl, rfl, rfl, by decide +kernel, rfl, by decide +kernel, by decide +kernel⟩
abbrev sp_is_share (K : PySem.W.Frag) : Sp := PSp (fun y : (Int × Int) => Top y.1 ∧ y.2.natAbs.log2 < 9000) (fun y => [⟨(rT2 K rInt rInt), y⟩]) rBool (fun y => isShare y)
theorem ok_is_share {f : Addr} {fd : FuncData} (F : FnD K "is_share" s_is_share [] f fd) (T : Facts K mg) (h_share : Has P w K mg base "share" 2 (sp_share K)) : FnOk P w K mg base (CXL P w) 3 f fd ["thing"] (sp_is_share K) := by
  refine fn_pure F sc_is_share (fun _ => rfl) fun thing hp cdv A outer s H E0 G D hr hret hnx => ?_
  try dsimp only at hp hret hnx
  refine bk_if (p := ((!true) || (!decide ((2 : Int) = (2 : Int))))) (et_bool (ew_or (et_not (et_val (ev_isi (T := "tuple") (C := "tuple") (b := true) (ev_v 0) kind_T2 (by decide +kernel) T.f_isinstance T.f_tuple (by decide +kernel)))) (fun q1 => (ew_or1 (et_neI (ev_lenT2 (ev_v 0) T.f_len) ev_int))))) (fun c_1 => ?_) (fun c_1 => ?_)
  · exact bk_ret (x := false) ev_bool (hret.eq (by simp at c_1))
  · refine bk_then ?_
    refine bk_if (p := (!(([thing.1, thing.2].map (fun q2 => (true && (!false)))).all id))) (et_not (et_val (ev_all (EvO.bor (eo_lcm (val := fun q2 : Int => (true && (!false))) [("one", 1)] sc_is_share.nd (ei_t2 (ev_v 0)) (blkOk_by (N := ["thing", "one"]) (sc := defScope s_is_share) (by decide +kernel)) (fun _ => (tg_name 1 sc_is_share.nd)) (fun _ q2 q3 => (ev_and (ev_isi (T := "int") (C := "int") (b := true) (ev_v 1) kind_int (by decide +kernel) T.f_isinstance T.f_int (by decide +kernel)) (fun q4 => (ev_one (ev_not (ev_isi (T := "int") (C := "bool") (b := false) (ev_v 1) kind_int (by decide +kernel) T.f_isinstance T.f_bool (by decide +kernel))))))) (by first | decide | omega | assumption | (simp [rangeL]; done) | (simp; omega)))) T.f_all))) (fun c_2 => ?_) (fun c_2 => ?_)
    · exact bk_ret (x := false) ev_bool (hret.eq (by simp at c_2))
    · refine bk_then ?_
      exact bk_ret (x := (decide ((0 : Int) ≤ thing.1) && (decide ((1 : Int) ≤ thing.2) && (PyData.eqv (pdPair (share thing.1 thing.2)) (pdPair thing))))) (ev_and (ev_ge (ev_fst (ev_v 0)) ev_int) (fun q5 => (ev_and (ev_ge (ev_snd (ev_v 0)) ev_int) (fun q6 => (ev_one (ev_eqD hr eqv_pair eqv_pair (ev_call h_share hr (by decide) (thing.1, thing.2) ⟨by simp at q6; omega, hp.2⟩ (ea_cons (ev_fst (ev_v 0)) (ea_cons (ev_snd (ev_v 0)) ea_nil))) (ev_v 0))))))) (hret.eq (by simp [isShare, pdPair_eqv, Bool.and_assoc]))
abbrev s_is_number : Stmt := top 11
theorem sc_is_number : FnScope ["thing", "least", "most"] ["thing", "least", "most"] (defScope s_is_number) := ⟨rfl, rfl, rfl, by decide +kernel, rfl, by decide +kernel, by decide +kernel⟩
abbrev sp_is_number (K : PySem.W.Frag) : Sp := PSp (fun y : Int × Int × Int => True) (fun y => [⟨rInt, y.1⟩, ⟨rInt, y.2.1⟩, ⟨rInt, y.2.2⟩]) rBool (fun y => isNum y.1 y.2.1 y.2.2)
theorem ok_is_number {f : Addr} {fd : FuncData} (F : FnD K "is_number" s_is_number [] f fd) (T : Facts K mg) : FnOk P w K mg base (CXL P w) 1 f fd ["thing", "least", "most"] (sp_is_number K) := by
  refine fn_pure F sc_is_number (fun _ => rfl) fun y hp cdv A outer s H E0 G D hr hret hnx => ?_
  obtain ⟨thing, least, most⟩ := y
  try dsimp only at hp hret hnx
  exact bk_ret (x := (true && ((!false) && (decide (least ≤ thing) && decide (thing ≤ most))))) (ev_and (ev_isi (T := "int") (C := "int") (b := true) (ev_v 0) kind_int (by decide +kernel) T.f_isinstance T.f_int (by decide +kernel)) (fun q1 => (ev_and (ev_not (ev_isi (T := "int") (C := "bool") (b := false) (ev_v 0) kind_int (by decide +kernel) T.f_isinstance T.f_bool (by decide +kernel))) (fun q2 => (ev_one (ev_chain op_le op_le (ev_v 1) (ev_v 0) (fun q3 => (ev_v 2)) gv_le (fun _ => gv_le))))))) (hret.eq (by simp [isNum]))
abbrev s_is_part : Stmt := top 14
theorem sc_is_part : FnScope ["thing"] ["thing"] (defScope s_is_part) := ⟨rfl, rfl, rfl, by decide +kernel, rfl, by decide +kernel, by decide +kernel⟩
abbrev sp_is_part (K : PySem.W.Frag) : Sp := PSp (fun y : (Int × Int) => Top y.1 ∧ y.2.natAbs.log2 < 9000) (fun y => [⟨(rT2 K rInt rInt), y⟩]) rBool (fun y => isPart y)
theorem ok_is_part {f : Addr} {fd : FuncData} (F : FnD K "is_part" s_is_part [] f fd) (T : Facts K mg) (h_is_more : Has P w K mg base "is_more" 1 (sp_is_more K)) (h_is_share : Has P w K mg base "is_share" 3 (sp_is_share K)) : FnOk P w K mg base (CXL P w) 4 f fd ["thing"] (sp_is_part K) := by
  refine fn_pure F sc_is_part (fun _ => rfl) fun thing hp cdv A outer s H E0 G D hr hret hnx => ?_
  try dsimp only at hp hret hnx
  exact bk_ret (x := ((isShare thing) && (!(isMore thing ((1, 1) : Int × Int))))) (ev_and (ev_call h_is_share hr (by decide) thing ⟨hp.1, hp.2⟩ (ea_cons (ev_v 0) ea_nil)) (fun q1 => (ev_one (ev_not (ev_call h_is_more hr (by decide) (thing, ((1, 1) : Int × Int)) ⟨hp.1, Nat.lt_trans hp.2 (by decide), top1, top1⟩ (ea_cons (ev_v 0) (ea_cons (ev_gref' T.g_WHOLE) ea_nil))))))) (hret.eq rfl)
abbrev s_asked_part : Stmt := top 15
theorem sc_asked_part : FnScope ["share"] ["share"] (defScope s_asked_part) := ⟨rfl, rfl, rfl, by decide +kernel, rfl, by decide +kernel, by decide +kernel⟩
abbrev sp_asked_part (K : PySem.W.Frag) : Sp := PSp (fun y : (Int × Int) => isPart y = true ∧ Top y.1 ∧ y.2.natAbs.log2 < 9000) (fun y => [⟨(rT2 K rInt rInt), y⟩]) rNon (fun y => ())
theorem ok_asked_part {f : Addr} {fd : FuncData} (F : FnD K "asked_part" s_asked_part [] f fd) (T : Facts K mg) (h_share : Has P w K mg base "share" 2 (sp_share K)) (h_is_part : Has P w K mg base "is_part" 4 (sp_is_part K)) : FnOk P w K mg base (CXL P w) 5 f fd ["share"] (sp_asked_part K) := by
  refine fn_pure F sc_asked_part (fun _ => rfl) fun share hp cdv A outer s H E0 G D hr hret hnx => ?_
  try dsimp only at hp hret hnx
  refine bk_if (p := (!(isPart share))) (et_not (et_val (ev_call h_is_part hr (by decide) share hp.2 (ea_cons (ev_v 0) ea_nil)))) (fun c_1 => ?_) (fun c_1 => ?_)
  · exact absurd c_1 (by simp [hp.1])
  · refine bk_then ?_
    exact bk_end fun G H σ h => hnx _ _ _ h.le rfl
abbrev s_bar : Stmt := top 16
theorem sc_bar : FnScope ["share", "many", "done"] ["share", "many"] (defScope s_bar) := ⟨rfl, rfl, rfl, by decide +kernel, rfl, by decide +kernel, by decide +kernel⟩
abbrev sp_bar (K : PySem.W.Frag) : Sp := PSp (fun y : (Int × Int) × Int => Good y.1 ∧ 1 ≤ y.2 ∧ y.2 ≤ 100) (fun y => [⟨(rT2 K rInt rInt), y.1⟩, ⟨rInt, y.2⟩]) rStr (fun y => barT y.1 y.2)
theorem ok_bar {f : Addr} {fd : FuncData} (F : FnD K "bar" s_bar [V.int (20)] f fd) (T : Facts K mg) (h_share : Has P w K mg base "share" 2 (sp_share K)) (h_is_number : Has P w K mg base "is_number" 1 (sp_is_number K)) (h_asked_part : Has P w K mg base "asked_part" 5 (sp_asked_part K)) : FnOk P w K mg base (CXL P w) 6 f fd ["share", "many"] (sp_bar K) := by
  refine fn_pure F sc_bar (fun _ => rfl) fun y hp cdv A outer s H E0 G D hr hret hnx => ?_
  obtain ⟨share, many⟩ := y
  try dsimp only at hp hret hnx
  have hpos := part_pos hp.1.part hp.1.small
  have hm := done_bounds (m := many) hp.1.part hp.2.1
  have hm100 : many ≤ 100 := hp.2.2
  have hd := hpos
  have hm1 : MulOk "#" (doneOf share many) := mulOk_one (by omega)
  have hm2 : MulOk "." (many - doneOf share many) := mulOk_one (by omega)
  have hcat : (Txt.mul "#" (doneOf share many)).length + (Txt.mul "." (many - doneOf share many)).length ≤ sizeLine := by
    rw [mul_length (by omega) rfl, mul_length (by omega) rfl]
    exact Evl.sz_of (by omega)
  refine bk_expr (ev_call h_asked_part hr (by decide) share ⟨hp.1.part, hp.1.top, Nat.lt_trans hp.1.small (by decide)⟩ (ea_cons (ev_v 0) ea_nil)) ?_
  refine bk_if (p := (!(isNum many (1 : Int) (100 : Int)))) (et_not (et_val (ev_call h_is_number hr (by decide) (many, (1 : Int), (100 : Int)) trivial (ea_cons (ev_v 1) (ea_cons ev_int (ea_cons (ev_gint T.g_SIGNS) ea_nil)))))) (fun c_1 => ?_) (fun c_1 => ?_)
  · exact absurd c_1 (by simp [isNum, hp.2.1, hp.2.2])
  · refine bk_then ?_
    refine bk_set 2 sc_bar.nd (ev_div (i := (share.1 * many)) (j := share.2) hd (ev_mulR (i := share.1) (j := many) (by omega) (ev_fst (ev_v 0)) (ev_v 1)) (ev_snd (ev_v 0))) ?_
    exact bk_ret (x := ((Txt.mul ("#" : Str) ((share.1 * many) / share.2)) ++ (Txt.mul ("." : Str) (many - ((share.1 * many) / share.2))))) (ev_cat (u := (Txt.mul ("#" : Str) ((share.1 * many) / share.2))) (v := (Txt.mul ("." : Str) (many - ((share.1 * many) / share.2)))) hcat (ev_mulS (u := ("#" : Str)) (i := ((share.1 * many) / share.2)) hm1 ev_str (ev_v 2)) (ev_mulS (u := ("." : Str)) (i := (many - ((share.1 * many) / share.2))) hm2 ev_str (ev_sub (ev_v 1) (ev_v 2)))) (hret.eq rfl)
abbrev sp_bar_1 (K : PySem.W.Frag) : Sp := PSp (fun y : Int × Int => Good y) (fun y => [⟨rT2 K rInt rInt, y⟩]) rStr (fun y => barT y 20)
abbrev s_percent : Stmt := top 17
theorem sc_percent : FnScope ["share"] ["share"] (defScope s_percent) := ⟨rfl, rfl, rfl, by decide +kernel, rfl, by decide +kernel, by decide +kernel⟩
abbrev sp_percent (K : PySem.W.Frag) : Sp := PSp (fun y : (Int × Int) => Good y) (fun y => [⟨(rT2 K rInt rInt), y⟩]) rStr (fun y => percentT y)
theorem ok_percent {f : Addr} {fd : FuncData} (F : FnD K "percent" s_percent [] f fd) (T : Facts K mg) (h_asked_part : Has P w K mg base "asked_part" 5 (sp_asked_part K)) : FnOk P w K mg base (CXL P w) 6 f fd ["share"] (sp_percent K) := by
  refine fn_pure F sc_percent (fun _ => rfl) fun share hp cdv A outer s H E0 G D hr hret hnx => ?_
  try dsimp only at hp hret hnx
  have hpos := part_pos hp.part hp.small
  refine bk_expr (ev_call h_asked_part hr (by decide) share ⟨hp.part, hp.top, Nat.lt_trans hp.small (by decide)⟩ (ea_cons (ev_v 0) ea_nil)) ?_
  exact bk_ret (x := ((Str.ofString (toString ((share.1 * (100 : Int)) / share.2))) ++ (" in 100" : Str))) (ev_cat (u := (Str.ofString (toString ((share.1 * (100 : Int)) / share.2)))) (v := (" in 100" : Str)) (percent_len hp.part) (ev_strI (i := ((share.1 * (100 : Int)) / share.2)) (ev_div (i := (share.1 * (100 : Int))) (j := share.2) hpos (ev_mulR (by decide) (ev_fst (ev_v 0)) ev_int) (ev_snd (ev_v 0))) (hundred_small hp.part) T.f_str) ev_str) (hret.eq rfl)
abbrev s__law_cell_at : Stmt := top 19
theorem sc__law_cell_at : FnScope ["_law_script", "_law_k"] ["_law_script", "_law_k"] (defScope s__law_cell_at) := ⟨rfl, rfl, rfl, by decide +kernel, rfl, by decide +kernel, by decide +kernel⟩
abbrev sp__law_cell_at (K : PySem.W.Frag) : Sp := PSp (fun y : (List Int) × Int => 0 ≤ y.2) (fun y => [⟨(rSeq K rInt), y.1⟩, ⟨rInt, y.2⟩]) rInt (fun y => cellAt y.1 y.2)
theorem ok__law_cell_at {f : Addr} {fd : FuncData} (F : FnD K "_law_cell_at" s__law_cell_at [] f fd) (T : Facts K mg) : FnOk P w K mg base (CXL P w) 1 f fd ["_law_script", "_law_k"] (sp__law_cell_at K) := by
  refine fn_pure F sc__law_cell_at (fun _ => rfl) fun y hp cdv A outer s H E0 G D hr hret hnx => ?_
  obtain ⟨script, k⟩ := y
  try dsimp only at hp hret hnx
  refine bk_if (p := decide (k < (script.length : Int))) (et_lt (ev_v 1) (ev_lenS (ev_v 0) T.f_len)) (fun c_1 => ?_) (fun c_1 => ?_)
  · exact bk_ret (x := (script.getD (k).toNat 0)) (ev_atS (r := rInt) (as := script) (i := k) (d := 0) (by have := of_decide_eq_true c_1; omega) (ev_v 0) (ev_v 1)) (hret.eq (by simp only [cellAt, c_1, if_true]))
  · refine bk_then ?_
    refine bk_if (p := (PyData.eqv (pdInts script) (pdInts ([] : (List Int))))) (et_eqD hr eqv_seqInts eqv_ints (ev_v 0) (EvO.ev eo_nil)) (fun c_2 => ?_) (fun c_2 => ?_)
    · exact bk_ret (x := (k * (48271 : Int))) (ev_mulR (by decide) (ev_v 1) ev_int) (hret.eq (by simp only [cellAt, c_1, c_2, if_true, if_false, Bool.false_eq_true]))
    · refine bk_then ?_
      exact bk_ret (x := ((((script.getD ((k % (script.length : Int))).toNat 0) + k) * (48271 : Int)) % (2147483647 : Int))) (ev_mod (i := (((script.getD ((k % (script.length : Int))).toNat 0) + k) * (48271 : Int))) (j := (2147483647 : Int)) (by decide) (ev_mulR (by decide) (ev_add (ev_atS (r := rInt) (as := script) (i := (k % (script.length : Int))) (d := 0) ⟨Int.emod_nonneg _ (by have := cell_ne c_2; omega), Int.emod_lt_of_pos _ (cell_ne c_2)⟩ (ev_v 0) (ev_mod (i := k) (j := (script.length : Int)) (cell_ne c_2) (ev_v 1) (ev_lenS (ev_v 0) T.f_len))) (ev_v 1)) ev_int) ev_int) (hret.eq (by simp only [cellAt, c_1, c_2, if_true, if_false, Bool.false_eq_true]))
abbrev s__law_share : Stmt := top 20
theorem sc__law_share : FnScope ["_law_cell", "_law_bottom", "_law_top", "_law_other", "_law_part"] ["_law_cell"] (defScope s__law_share) := ⟨rfl, rfl, rfl, by decide +kernel, rfl, by decide +kernel, by decide +kernel⟩
abbrev sp__law_share (K : PySem.W.Frag) : Sp := PSp (fun y : Int => True) (fun y => [⟨rInt, y⟩]) (rT2 K rInt rInt) (fun y => lawShare y)
theorem ok__law_share {f : Addr} {fd : FuncData} (F : FnD K "_law_share" s__law_share [] f fd) (T : Facts K mg) : FnOk P w K mg base (CXL P w) 1 f fd ["_law_cell"] (sp__law_share K) := by
  refine fn_pure F sc__law_share (fun _ => rfl) fun cell hp cdv A outer s H E0 G D hr hret hnx => ?_
  try dsimp only at hp hret hnx
  refine bk_setg 1 sc__law_share.nd (ev_add ev_int (ev_mod (i := cell) (j := ([(9 : Int), (100 : Int), (1001 : Int), (1000000000 : Int)].getD (((cell / (7 : Int)) % (4 : Int))).toNat 0)) pick_pos (ev_v 0) (ev_at (r := rInt) (as := [(9 : Int), (100 : Int), (1001 : Int), (1000000000 : Int)]) (i := ((cell / (7 : Int)) % (4 : Int))) (d := 0) pick_ok (EvO.ev (eo_lst (r := rInt) (as := [(9 : Int), (100 : Int), (1001 : Int), (1000000000 : Int)]) (ea_cons ev_int (ea_cons ev_int (ea_cons ev_int (ea_cons (Ev.eq (ev_pow (i := (10 : Int)) (j := (9 : Int)) ⟨by decide, by decide, by decide⟩ ev_int ev_int) (by decide : ((10 : Int) ^ (9 : Int).toNat) = (1000000000 : Int))) ea_nil)))) (by simp))) (ev_mod (i := (cell / (7 : Int))) (j := (4 : Int)) (by decide) (ev_div (by decide) (ev_v 0) ev_int) ev_int)))) (fun v__law_bottom h__law_bottom => ?_)
  refine bk_setg 2 sc__law_share.nd (ev_mod (i := (((cell * (48271 : Int)) % (1000003 : Int)) * (7919 : Int))) (j := (v__law_bottom + (1 : Int))) (by rw [h__law_bottom]; have := (bottom_bounds cell).1; unfold bottomL pickB at this; omega) (ev_mulR (by decide) (ev_mod (i := (cell * (48271 : Int))) (j := (1000003 : Int)) (by decide) (ev_mulR (by decide) (ev_v 0) ev_int) ev_int) ev_int) (ev_add (ev_v 1) ev_int)) (fun v__law_top h__law_top => ?_)
  refine bk_par 3 4 sc__law_share.nd (ev_v 1) (ev_v 2) ?_
  have hb : 1 ≤ v__law_bottom ∧ v__law_bottom ≤ 1000000000 := by rw [h__law_bottom]; exact bottom_bounds cell
  have ht : 0 ≤ v__law_top := by rw [h__law_top]; exact Int.emod_nonneg _ (by omega)
  refine bk_while (fun s : Int × Int => [.sh rInt cell, .sh rInt v__law_bottom, .sh rInt v__law_top, .sh rInt s.1, .sh rInt s.2]) (fun s => 0 ≤ s.1 ∧ 0 ≤ s.2 ∧ Int.gcd s.1 s.2 = Int.gcd v__law_bottom v__law_top) (fun s => s.2.toNat) (fun s => !decide (s.2 = 0)) (v__law_bottom, v__law_top) (passes_of rfl) ⟨by omega, by omega, rfl⟩ (fun _ _ _ h => h) (fun s _ => et_neI (ev_v 4) ev_int) (fun s hs hb => ?_) (fun s hs hb' => ?_)
  · obtain ⟨x, y⟩ := s
    have hy : y ≠ 0 := by simpa using hb
    have hy1 : 0 < y := by have := hs.2.1; simp only at this; omega
    refine bk_par 3 4 sc__law_share.nd (ev_v 4) (ev_mod hy1 (ev_v 3) (ev_v 4)) ?_
    refine bk_end fun G H σ hh => ⟨(y, x % y), ⟨⟨hs.2.1, Int.emod_nonneg _ hy, ?_⟩, ?_⟩, G, hh⟩
    · rw [← hs.2.2]
      exact gcd_step hs.1 hs.2.1
    · have := Int.emod_lt_of_pos x hy1
      have := Int.emod_nonneg x hy
      show (x % y).toNat < y.toNat
      omega
  · obtain ⟨x, y⟩ := s
    have hy : y = 0 := by simpa using hb'
    subst hy
    have hx : x = (Int.gcd v__law_bottom v__law_top : Int) := by
      rw [← hs.2.2]
      show x = ((Int.gcd x 0 : Nat) : Int)
      have := hs.1
      simp only at this
      rw [Int.gcd_zero]
      omega
    have hg : 0 < x ∧ x < 1073741824 := by
      have h1 : (0:Int) < (Int.gcd v__law_bottom v__law_top : Int) := by
        have := Int.gcd_pos_of_ne_zero_left v__law_top (a := v__law_bottom) (by omega)
        omega
      have h2 : (Int.gcd v__law_bottom v__law_top : Int) ≤ v__law_bottom := Int.le_of_dvd (by omega) (Int.gcd_dvd_left ..)
      omega
    refine bk_ret (ev_tup2 (ea_cons (ev_div hg (ev_v 2) (ev_v 3)) (ea_cons (ev_div hg (ev_v 1) (ev_v 3)) ea_nil))) (hret.eq ?_)
    rw [hx, h__law_top, h__law_bottom]
    rfl
abbrev s__law_bar_right : Stmt := top 21
theorem sc__law_bar_right : FnScope ["_law_one_share", "_law_many", "_law_got", "_law_done"] ["_law_one_share", "_law_many", "_law_got"] (defScope s__law_bar_right) := ⟨rfl, rfl, rfl, by decide +kernel, rfl, by decide +kernel, by decide +kernel⟩
abbrev sp__law_bar_right (K : PySem.W.Frag) : Sp := PSp (fun y : (Int × Int) × Int × Str => Good y.1 ∧ (1 ≤ y.2.1 ∧ y.2.1 ≤ 100) ∧ y.2.2 = barT y.1 y.2.1) (fun y => [⟨(rT2 K rInt rInt), y.1⟩, ⟨rInt, y.2.1⟩, ⟨rStr, y.2.2⟩]) rBool (fun y => true)
theorem ok__law_bar_right {f : Addr} {fd : FuncData} (F : FnD K "_law_bar_right" s__law_bar_right [] f fd) (T : Facts K mg) : FnOk P w K mg base (CXL P w) 1 f fd ["_law_one_share", "_law_many", "_law_got"] (sp__law_bar_right K) := by
  refine fn_pure F sc__law_bar_right (fun _ => rfl) fun y hp cdv A outer s H E0 G D hr hret hnx => ?_
  obtain ⟨one_share, many, got⟩ := y
  try dsimp only at hp hret hnx
  have hpt := hp.1.part
  have hb := done_bounds (m := many) hpt hp.2.1.1
  have hc : Txt.count got "#" = doneOf one_share many := by rw [hp.2.2]; exact count_bar hpt hp.2.1.1
  have hpos := part_pos hpt hp.1.small
  have h100 := hp.2.1.2
  refine bk_setg 3 sc__law_bar_right.nd (ev_count (ev_v 2) ev_str) (fun v__law_done h__law_done => ?_)
  refine bk_if (p := ((!true) || (!decide (got = ((Txt.mul ("#" : Str) v__law_done) ++ (Txt.mul ("." : Str) (many - v__law_done))))))) (et_bool (ew_or (et_not (et_val (ev_isi (T := "str") (C := "str") (b := true) (ev_v 2) kind_str (by decide +kernel) T.f_isinstance T.f_str (by decide +kernel)))) (fun q1 => (ew_or1 (et_neS (ev_v 2) (ev_cat (u := (Txt.mul ("#" : Str) v__law_done)) (v := (Txt.mul ("." : Str) (many - v__law_done))) (by rw [h__law_done, hc, mul_length (by omega) rfl, mul_length (by omega) rfl]; exact Evl.sz_of (by omega)) (ev_mulS (u := ("#" : Str)) (i := v__law_done) (by rw [h__law_done, hc]; exact mulOk_one (by omega)) ev_str (ev_v 3)) (ev_mulS (u := ("." : Str)) (i := (many - v__law_done)) (by rw [h__law_done, hc]; exact mulOk_one (by omega)) ev_str (ev_sub (ev_v 1) (ev_v 3))))))))) (fun c_1 => ?_) (fun c_1 => ?_)
  · exact bk_ret (x := false) ev_bool (hret.eq (by rw [h__law_done, hc, hp.2.2] at c_1; simp [barT] at c_1))
  · refine bk_then ?_
    exact bk_ret (x := (decide ((v__law_done * one_share.2) ≤ (one_share.1 * many)) && decide ((one_share.1 * many) < ((v__law_done + (1 : Int)) * one_share.2)))) (ev_chain op_le op_lt (ev_mulL (i := v__law_done) (j := one_share.2) (by rw [h__law_done, hc]; omega) (ev_v 3) (ev_snd (ev_v 0))) (ev_mulR (i := one_share.1) (j := many) (by omega) (ev_fst (ev_v 0)) (ev_v 1)) (fun q2 => (ev_mulL (i := (v__law_done + (1 : Int))) (j := one_share.2) (by rw [h__law_done, hc]; omega) (ev_add (ev_v 3) ev_int) (ev_snd (ev_v 0)))) gv_le (fun _ => gv_lt)) (hret.eq (by rw [h__law_done, hc]; have := done_floor (m := many) hpt; simp; omega))
abbrev s__law_percent_right : Stmt := top 22
theorem sc__law_percent_right : FnScope ["_law_one_share", "_law_got", "_law_words", "_law_many"] ["_law_one_share", "_law_got"] (defScope s__law_percent_right) := ⟨rfl, rfl, rfl, by decide +kernel, rfl, by decide +kernel, by decide +kernel⟩
abbrev sp__law_percent_right (K : PySem.W.Frag) : Sp := PSp (fun y : (Int × Int) × Str => Good y.1 ∧ y.2 = percentT y.1) (fun y => [⟨(rT2 K rInt rInt), y.1⟩, ⟨rStr, y.2⟩]) rBool (fun y => true)
theorem ok__law_percent_right {f : Addr} {fd : FuncData} (F : FnD K "_law_percent_right" s__law_percent_right [] f fd) (T : Facts K mg) : FnOk P w K mg base (CXL P w) 1 f fd ["_law_one_share", "_law_got"] (sp__law_percent_right K) := by
  refine fn_pure F sc__law_percent_right (fun _ => rfl) fun y hp cdv A outer s H E0 G D hr hret hnx => ?_
  obtain ⟨one_share, got⟩ := y
  try dsimp only at hp hret hnx
  have hpt := hp.1.part
  have hpos := part_pos hpt hp.1.small
  have hs : Txt.split got " " = [Str.ofString (toString (one_share.1 * 100 / one_share.2)), "in", "100"] := by rw [hp.2]; exact pct_split hpt
  have hh := hundred_bounds hpt
  have hi := pct_int hpt
  have hl := pct_len hpt
  have hgl : got.length + 2 ≤ sizeLine := by
    rw [hp.2]
    have z : (percentT one_share).length = (Str.ofString (toString (one_share.1 * 100 / one_share.2))).length + 7 := by
      show (_ ++ _ : Array Nat).size = _
      rw [Array.size_append]
      rfl
    rw [z]
    exact Evl.sz_of (by omega)
  have hw : ∀ w : List Str, w = Txt.split got " " → w.getD (0 : Int).toNat Str.empty = Str.ofString (toString (one_share.1 * 100 / one_share.2)) := fun w e => by rw [e, hs]; rfl
  have hm : ∀ (w : List Str) (m : Int), w = Txt.split got " " → m = (PySem.intText? (w.getD (0 : Int).toNat Str.empty)).getD 0 → m = one_share.1 * 100 / one_share.2 := fun w m e e2 => by rw [e2, hw w e, hi]; rfl
  refine bk_setg 2 sc__law_percent_right.nd (EvO.ev (eo_split (u := got) (v := (" " : Str)) (by decide +kernel) hgl (ev_v 1) ev_str)) (fun v__law_words h__law_words => ?_)
  refine bk_if (p := ((!decide ((v__law_words.length : Int) = (3 : Int))) || ((!(PyData.eqv (pdStrs (cutL v__law_words (some (1 : Int)) none)) (pdStrs [("in" : Str), ("100" : Str)]))) || (!decide ((Str.ofString (toString ((PySem.intText? (v__law_words.getD ((0 : Int)).toNat Str.empty)).getD 0))) = (v__law_words.getD ((0 : Int)).toNat Str.empty)))))) (et_bool (ew_or (et_neI (ev_lenB (Ev.bor (ev_v 2)) T.f_len) ev_int) (fun q1 => (ew_or (et_neD hr (eqv_strs (by rw [h__law_words, hs, cutL_from (by decide)]; show ∀ z ∈ [("in" : Str), "100"], PyData.strOk z = true; decide +kernel)) (eqv_strs (by decide +kernel)) (EvO.ev (eo_from (Ev.bor (ev_v 2)) ev_int)) (EvO.ev (eo_lst (r := rStr) (as := [("in" : Str), ("100" : Str)]) (ea_cons ev_str (ea_cons ev_str ea_nil)) (by simp)))) (fun q2 => (ew_or1 (et_neS (ev_strI (i := ((PySem.intText? (v__law_words.getD ((0 : Int)).toNat Str.empty)).getD 0)) (ev_intT (u := (v__law_words.getD ((0 : Int)).toNat Str.empty)) (by rw [hw _ h__law_words]; exact ⟨_, hi⟩) (by rw [hw _ h__law_words]; omega) (ev_at (r := rStr) (as := v__law_words) (i := (0 : Int)) (d := Str.empty) (by rw [h__law_words, hs]; simp) (ev_v 2) ev_int) T.f_int) (by rw [hw _ h__law_words, hi]; exact hundred_small hpt) T.f_str) (ev_at (r := rStr) (as := v__law_words) (i := (0 : Int)) (d := Str.empty) (by rw [h__law_words, hs]; simp) (ev_v 2) ev_int)))))))) (fun c_1 => ?_) (fun c_1 => ?_)
  · exact bk_ret (x := false) ev_bool (hret.eq (by rw [hw _ h__law_words, hi, h__law_words, hs] at c_1; simp [pdStrs_eqv, cutL_from] at c_1))
  · refine bk_then ?_
    refine bk_setg 3 sc__law_percent_right.nd (ev_intT (u := (v__law_words.getD ((0 : Int)).toNat Str.empty)) (by rw [hw _ h__law_words]; exact ⟨_, hi⟩) (by rw [hw _ h__law_words]; omega) (ev_at (r := rStr) (as := v__law_words) (i := (0 : Int)) (d := Str.empty) (by rw [h__law_words, hs]; simp) (ev_v 2) ev_int) T.f_int) (fun v__law_many h__law_many => ?_)
    exact bk_ret (x := (decide ((v__law_many * one_share.2) ≤ (one_share.1 * (100 : Int))) && decide ((one_share.1 * (100 : Int)) < ((v__law_many + (1 : Int)) * one_share.2)))) (ev_chain op_le op_lt (ev_mulL (i := v__law_many) (j := one_share.2) (by have := hm _ _ h__law_words h__law_many; omega) (ev_v 3) (ev_snd (ev_v 0))) (ev_mulR (by decide) (ev_fst (ev_v 0)) ev_int) (fun q3 => (ev_mulL (i := (v__law_many + (1 : Int))) (j := one_share.2) (by have := hm _ _ h__law_words h__law_many; omega) (ev_add (ev_v 3) ev_int) (ev_snd (ev_v 0)))) gv_le (fun _ => gv_lt)) (hret.eq (by rw [hm _ _ h__law_words h__law_many]; have := done_floor (m := 100) hpt; simp; unfold doneOf at this; omega))
abbrev s_law : Stmt := top 23
theorem sc_law : FnScope ["_law_script", "_law_shares", "_law_one_share", "_law_one", "_law_many", "_law_other", "_law_k"] ["_law_script"] (defScope s_law) := ⟨rfl, rfl, rfl, by decide +kernel, rfl, by decide +kernel, by decide +kernel⟩
abbrev sp_law (K : PySem.W.Frag) : Sp := PSp (fun y : (List Int) => y.length ≤ 63) (fun y => [⟨(rSeq K rInt), y⟩]) rBool (fun y => true)
theorem ok_law {f : Addr} {fd : FuncData} (F : FnD K "law" s_law [] f fd) (T : Facts K mg) (h_bar : Has P w K mg base "bar" 6 (sp_bar K)) (h_bar_1 : Has P w K mg base "bar" 6 (sp_bar_1 K)) (h_percent : Has P w K mg base "percent" 6 (sp_percent K)) (h__law_cell_at : Has P w K mg base "_law_cell_at" 1 (sp__law_cell_at K)) (h__law_share : Has P w K mg base "_law_share" 1 (sp__law_share K)) (h__law_bar_right : Has P w K mg base "_law_bar_right" 1 (sp__law_bar_right K)) (h__law_percent_right : Has P w K mg base "_law_percent_right" 1 (sp__law_percent_right K)) : FnOk P w K mg base (CXL P w) 7 f fd ["_law_script"] (sp_law K) := by
  refine fn_pure F sc_law (fun _ => rfl) fun script hp cdv A outer s H E0 G D hr hret hnx => ?_
  try dsimp only at hp hret hnx
  have hG : ∀ l : List (Int × Int), l = lawShares script → ∀ s ∈ l, Good s := fun l e s hs => shares_good s (e ▸ hs)
  refine bk_setg 1 sc_law.nd (EvO.ev (eo_cat (r := (rT2 K rInt rInt)) (as := ((rangeL 0 ((6 : Int)).toNat).map (fun q3 => (lawShare (cellAt script q3))))) (bs := [((0 : Int), (1 : Int)), ((1 : Int), (1 : Int)), ((1 : Int), (3 : Int)), ((99 : Int), (100 : Int))]) (EvO.bor (eo_lcm (val := fun q3 : Int => (lawShare (cellAt script q3))) [("_law_k", 6)] sc_law.nd (ei_range1 (n := (6 : Int)) ev_int (by first | decide | omega | assumption | (simp [rangeL]; done) | (simp; omega)) T.f_range) (blkOk_by (N := ["_law_script", "_law_shares", "_law_one_share", "_law_one", "_law_many", "_law_other", "_law_k"]) (sc := defScope s_law) (by decide +kernel)) (fun _ => (tg_name 6 sc_law.nd)) (fun _ q3 q4 => (ev_call h__law_share hr (by decide) (cellAt script q3) trivial (ea_cons (ev_call h__law_cell_at hr (by decide) (script, q3) (rangeL_nn q4) (ea_cons (ev_v 0) (ea_cons (ev_v 6) ea_nil))) ea_nil))) (by first | decide | omega | assumption | (simp [rangeL]; done) | (simp; omega)))) (EvO.bor (eo_lst (r := (rT2 K rInt rInt)) (as := [((0 : Int), (1 : Int)), ((1 : Int), (1 : Int)), ((1 : Int), (3 : Int)), ((99 : Int), (100 : Int))]) (ea_cons (ev_tup2 (ea_cons ev_int (ea_cons ev_int ea_nil))) (ea_cons (ev_tup2 (ea_cons ev_int (ea_cons ev_int ea_nil))) (ea_cons (ev_tup2 (ea_cons ev_int (ea_cons ev_int ea_nil))) (ea_cons (ev_tup2 (ea_cons ev_int (ea_cons ev_int ea_nil))) ea_nil)))) (by simp))) (Evl.sz_of (by simp [rangeL])))) (fun v__law_shares h__law_shares => ?_)
  refine bk_for (fun _ : Unit => [.sh (rSeq K rInt) script, .sh (rLst (rT2 K rInt rInt)) v__law_shares, .no, .no, .no, .no, .no]) (fun _ _ => True) () (passes_of rfl) (ei_lst (ev_v 1)) (tg_name 2 sc_law.nd) trivial (fun _ _ _ h => h) (fun F iq5 _ q5 mq5 _ => ?_) (fun _ _ => ?_)
  · have mq5 := List.mem_of_getElem? mq5
    refine bk_for (fun _ : Unit => [.sh (rSeq K rInt) script, .sh (rLst (rT2 K rInt rInt)) v__law_shares, .sh (rT2 K rInt rInt) q5, .no, .no, .no, .no]) (fun _ _ => True) () (passes_of rfl) (ei_lst (EvO.ev (eo_lst (r := rInt) (as := [(1 : Int), (2 : Int), ((1 : Int) + ((cellAt script (6 : Int)) % (100 : Int))), (99 : Int), (100 : Int)]) (ea_cons ev_int (ea_cons ev_int (ea_cons (ev_add ev_int (ev_mod (i := (cellAt script (6 : Int))) (j := (100 : Int)) (by decide) (ev_call h__law_cell_at hr (by decide) (script, (6 : Int)) (by first | decide | omega | assumption | (simp [rangeL]; done) | (simp; omega)) (ea_cons (ev_v 0) (ea_cons ev_int ea_nil))) ev_int)) (ea_cons ev_int (ea_cons ev_int ea_nil))))) (by simp)))) (tg_name 4 sc_law.nd) trivial (fun _ _ _ h => h) (fun F iq6 _ q6 mq6 _ => ?_) (fun _ _ => ?_)
    · have mq6 := List.mem_of_getElem? mq6
      refine bk_if (p := (!(true))) (et_not (et_val (ev_call h__law_bar_right hr (by decide) (q5, q6, (barT q5 q6)) ⟨hG _ h__law_shares _ mq5, many_ok mq6, rfl⟩ (ea_cons (ev_v 2) (ea_cons (ev_v 4) (ea_cons (ev_call h_bar hr (by decide) (q5, q6) ⟨hG _ h__law_shares _ mq5, many_ok mq6⟩ (ea_cons (ev_v 2) (ea_cons (ev_v 4) ea_nil))) ea_nil)))))) (fun c_1 => ?_) (fun c_1 => ?_)
      · exact bk_ret (x := false) ev_bool (hret.eq (by simp at c_1))
      · refine bk_then ?_
        refine bk_if (p := (decide ((barT q5 q6) = (Txt.mul ("#" : Str) q6)) != (PyData.eqv (pdPair q5) (pdPair ((1 : Int), (1 : Int)))))) (et_neB (ev_eqS (ev_call h_bar hr (by decide) (q5, q6) ⟨hG _ h__law_shares _ mq5, many_ok mq6⟩ (ea_cons (ev_v 2) (ea_cons (ev_v 4) ea_nil))) (ev_mulS (u := ("#" : Str)) (i := q6) (mulOk_one (by have := many_ok mq6; omega)) ev_str (ev_v 4))) (ev_eqD hr eqv_pair eqv_pair (ev_v 2) (ev_tup2 (ea_cons ev_int (ea_cons ev_int ea_nil))))) (fun c_2 => ?_) (fun c_2 => ?_)
        · exact bk_ret (x := false) ev_bool (hret.eq (by rw [bar_full (hG _ h__law_shares _ mq5).part (many_ok mq6).1] at c_2; simp at c_2))
        · refine bk_then ?_
          exact bk_end fun G H σ h => ⟨(), trivial, G, (Holds.forget 4 h)⟩
    · refine bk_if (p := ((!decide ((barT q5 20) = (barT q5 (20 : Int)))) || (!(true)))) (et_bool (ew_or (et_neS (ev_call h_bar_1 hr (by decide) q5 (hG _ h__law_shares _ mq5) (ea_cons (ev_v 2) ea_nil)) (ev_call h_bar hr (by decide) (q5, (20 : Int)) ⟨hG _ h__law_shares _ mq5, by omega⟩ (ea_cons (ev_v 2) (ea_cons ev_int ea_nil)))) (fun q7 => (ew_or1 (et_not (et_val (ev_call h__law_percent_right hr (by decide) (q5, (percentT q5)) ⟨hG _ h__law_shares _ mq5, rfl⟩ (ea_cons (ev_v 2) (ea_cons (ev_call h_percent hr (by decide) q5 (hG _ h__law_shares _ mq5) (ea_cons (ev_v 2) ea_nil)) ea_nil))))))))) (fun c_3 => ?_) (fun c_3 => ?_)
      · exact bk_ret (x := false) ev_bool (hret.eq (by simp at c_3))
      · refine bk_then ?_
        exact bk_end fun G H σ h => ⟨(), trivial, G, (Holds.forget 2 h)⟩
  · refine bk_for (fun _ : Unit => [.sh (rSeq K rInt) script, .sh (rLst (rT2 K rInt rInt)) v__law_shares, .no, .no, .no, .no, .no]) (fun _ _ => True) () (passes_of rfl) (ei_lst (ev_v 1)) (tg_name 3 sc_law.nd) trivial (fun _ _ _ h => h) (fun F iq8 _ q8 mq8 _ => ?_) (fun _ _ => ?_)
    · have mq8 := List.mem_of_getElem? mq8
      refine bk_for (fun _ : Unit => [.sh (rSeq K rInt) script, .sh (rLst (rT2 K rInt rInt)) v__law_shares, .no, .sh (rT2 K rInt rInt) q8, .no, .no, .no]) (fun _ _ => True) () (passes_of rfl) (ei_lst (ev_v 1)) (tg_name 5 sc_law.nd) trivial (fun _ _ _ h => h) (fun F iq9 _ q9 mq9 _ => ?_) (fun _ _ => ?_)
      · have mq9 := List.mem_of_getElem? mq9
        refine bk_if (p := (decide ((q8.1 * q9.2) ≤ (q9.1 * q8.2)) && decide ((Txt.count (barT q9 20) ("#" : Str)) < (Txt.count (barT q8 20) ("#" : Str))))) (et_bool (ew_and (et_le (ev_mulW (i := q8.1) (j := q9.2) (cm (hG _ h__law_shares _ mq8).top (Nat.lt_trans (hG _ h__law_shares _ mq9).small (by decide))) (ev_fst (ev_v 3)) (ev_snd (ev_v 5))) (ev_mulW (i := q9.1) (j := q8.2) (cm (hG _ h__law_shares _ mq9).top (Nat.lt_trans (hG _ h__law_shares _ mq8).small (by decide))) (ev_fst (ev_v 5)) (ev_snd (ev_v 3)))) (fun q10 => (ew_and1 (et_gt (ev_count (ev_call h_bar_1 hr (by decide) q8 (hG _ h__law_shares _ mq8) (ea_cons (ev_v 3) ea_nil)) ev_str) (ev_count (ev_call h_bar_1 hr (by decide) q9 (hG _ h__law_shares _ mq9) (ea_cons (ev_v 5) ea_nil)) ev_str)))))) (fun c_4 => ?_) (fun c_4 => ?_)
        · exact bk_ret (x := false) ev_bool (hret.eq (mono_no (hG _ h__law_shares _ mq8) (hG _ h__law_shares _ mq9) c_4))
        · refine bk_then ?_
          exact bk_end fun G H σ h => ⟨(), trivial, G, (Holds.forget 5 h)⟩
      · exact bk_end fun G H σ h => ⟨(), trivial, G, (Holds.forget 3 h)⟩
    · exact bk_ret (x := (decide ((percentT ((1 : Int), (1 : Int))) = ("100 in 100" : Str)) && decide ((percentT ((0 : Int), (1 : Int))) = ("0 in 100" : Str)))) (ev_and (ev_eqS (ev_call h_percent hr (by decide) ((1 : Int), (1 : Int)) good_lit (ea_cons (ev_tup2 (ea_cons ev_int (ea_cons ev_int ea_nil))) ea_nil)) ev_str) (fun q11 => (ev_one (ev_eqS (ev_call h_percent hr (by decide) ((0 : Int), (1 : Int)) good_lit (ea_cons (ev_tup2 (ea_cons ev_int (ea_cons ev_int ea_nil))) ea_nil)) ev_str)))) (hret.eq (by decide +kernel))
end
end Hf


set_option maxHeartbeats 0
namespace Hd
open PySem PySem.Spec PyProof.Rows L2 PySem.W PySem.Calls Hf
def d_common : He.DefD := ⟨("common", none), "common", "common", defArgs s_common, defBody s_common, defScope s_common, [], []⟩
def d_share : He.DefD := ⟨("share", none), "share", "share", defArgs s_share, defBody s_share, defScope s_share, [], []⟩
def d_is_more : He.DefD := ⟨("is_more", none), "is_more", "is_more", defArgs s_is_more, defBody s_is_more, defScope s_is_more, [], []⟩
def d_is_share : He.DefD := ⟨("is_share", none), "is_share", "is_share", defArgs s_is_share, defBody s_is_share, defScope s_is_share, [], []⟩
def d_is_number : He.DefD := ⟨("is_number", none), "is_number", "is_number", defArgs s_is_number, defBody s_is_number, defScope s_is_number, [], []⟩
def d_is_part : He.DefD := ⟨("is_part", none), "is_part", "is_part", defArgs s_is_part, defBody s_is_part, defScope s_is_part, [], []⟩
def d_asked_part : He.DefD := ⟨("asked_part", none), "asked_part", "asked_part", defArgs s_asked_part, defBody s_asked_part, defScope s_asked_part, [], []⟩
def d_bar : He.DefD := ⟨("bar", none), "bar", "bar", defArgs s_bar, defBody s_bar, defScope s_bar, [.int (20)], []⟩
def d_percent : He.DefD := ⟨("percent", none), "percent", "percent", defArgs s_percent, defBody s_percent, defScope s_percent, [], []⟩
def d__law_cell_at : He.DefD := ⟨("_law_cell_at", none), "_law_cell_at", "_law_cell_at", defArgs s__law_cell_at, defBody s__law_cell_at, defScope s__law_cell_at, [], []⟩
def d__law_share : He.DefD := ⟨("_law_share", none), "_law_share", "_law_share", defArgs s__law_share, defBody s__law_share, defScope s__law_share, [], []⟩
def d__law_bar_right : He.DefD := ⟨("_law_bar_right", none), "_law_bar_right", "_law_bar_right", defArgs s__law_bar_right, defBody s__law_bar_right, defScope s__law_bar_right, [], []⟩
def d__law_percent_right : He.DefD := ⟨("_law_percent_right", none), "_law_percent_right", "_law_percent_right", defArgs s__law_percent_right, defBody s__law_percent_right, defScope s__law_percent_right, [], []⟩
def d_law : He.DefD := ⟨("law", none), "law", "law", defArgs s_law, defBody s_law, defScope s_law, [], []⟩
def fn : List He.DefD := [d_common, d_share, d_is_more, d_is_share, d_is_number, d_is_part, d_asked_part, d_bar, d_percent, d__law_cell_at, d__law_share, d__law_bar_right, d__law_percent_right, d_law]
def fa : List He.Fa := [.glo "common", .glo "share", .glo "is_more", .glo "is_share", .glo "is_number", .glo "is_part", .glo "asked_part", .glo "bar", .glo "percent", .glo "_law_cell_at", .glo "_law_share", .glo "_law_bar_right", .glo "_law_percent_right", .glo "law", .free "len", .free "abs", .free "all", .free "str", .free "int", .free "bool", .free "tuple", .free "isinstance", .free "range", .int "SIGNS" 100, .glo "WHOLE"]
abbrev R : PySem.W.OpenRow := PySem.W.OpenLaw.row PySem.Challenge.rw_howfar_k08_whole_shown
def ts : List He.Tab := []
def ex (K : PySem.W.Frag) : Bool := He.tupB K "WHOLE" [.int 1, .int 1]
abbrev hk : PySem.W.Hook := He.hookX 6 fa fn ts [] ex
def ob (s : PySem.W.SharedT) : He.AlX := He.obsX 6 fa fn ts [] ex (HandSHeadRun.getT s)
theorem ob_eq (s : PySem.W.SharedT) : ob s = hk.obs s.abs := He.obsX_eq (HandSHeadRun.getT_eq s)
def names0 : List PySem.Str := ["FarError", "BadShares", "BadSize", "WHOLE", "common", "share", "is_more", "is_share", "is_number", "SIGNS", "is_part", "asked_part", "bar", "percent", "_law_cell_at", "_law_share"]
def names1 : List PySem.Str := ["_law_bar_right", "_law_percent_right"]
def names : List PySem.Str := names0 ++ names1
theorem run (w : World) : HandSHeadRun.RunEq R (PySem.W.view R.prog [23]) hk ob 20000 names w := by
  intro os
  kernel_rfl
theorem facts {P : Program} {w : World} {K : PySem.W.Frag} {h : Heap} {mg : Str → Option Value} {f : Addr} (X : K.In h) (G : h.Ns mainGlobals mg) (hfa : mg ("law" : Str) = some (.ref f)) (c : He.SaysX fa fn ts [] ex w h K) :
    ∃ fd : FuncData, (∀ (s : Shared) (v : Value), BindsTo s fd ⟨[v], []⟩ [("_law_script", v)]) ∧ ∀ base : Heap, K.In base → base.Ns mainGlobals mg → FnOk P w K mg base CX0 7 f fd ["_law_script"] (sp_law K) := by
  obtain ⟨fd_common, F_common⟩ := c.t.d.def_ 0 (d := d_common) rfl
  obtain ⟨fd_share, F_share⟩ := c.t.d.def_ 1 (d := d_share) rfl
  obtain ⟨fd_is_more, F_is_more⟩ := c.t.d.def_ 2 (d := d_is_more) rfl
  obtain ⟨fd_is_share, F_is_share⟩ := c.t.d.def_ 3 (d := d_is_share) rfl
  obtain ⟨fd_is_number, F_is_number⟩ := c.t.d.def_ 4 (d := d_is_number) rfl
  obtain ⟨fd_is_part, F_is_part⟩ := c.t.d.def_ 5 (d := d_is_part) rfl
  obtain ⟨fd_asked_part, F_asked_part⟩ := c.t.d.def_ 6 (d := d_asked_part) rfl
  obtain ⟨fd_bar, F_bar⟩ := c.t.d.def_ 7 (d := d_bar) rfl
  obtain ⟨fd_percent, F_percent⟩ := c.t.d.def_ 8 (d := d_percent) rfl
  obtain ⟨fd__law_cell_at, F__law_cell_at⟩ := c.t.d.def_ 9 (d := d__law_cell_at) rfl
  obtain ⟨fd__law_share, F__law_share⟩ := c.t.d.def_ 10 (d := d__law_share) rfl
  obtain ⟨fd__law_bar_right, F__law_bar_right⟩ := c.t.d.def_ 11 (d := d__law_bar_right) rfl
  obtain ⟨fd__law_percent_right, F__law_percent_right⟩ := c.t.d.def_ 12 (d := d__law_percent_right) rfl
  obtain ⟨fd_law, F_law⟩ := c.t.d.def_ 13 (d := d_law) rfl
  have a0 := c.t.d.fact 0 (f := .glo "common") rfl
  have a1 := c.t.d.fact 1 (f := .glo "share") rfl
  have a2 := c.t.d.fact 2 (f := .glo "is_more") rfl
  have a3 := c.t.d.fact 3 (f := .glo "is_share") rfl
  have a4 := c.t.d.fact 4 (f := .glo "is_number") rfl
  have a5 := c.t.d.fact 5 (f := .glo "is_part") rfl
  have a6 := c.t.d.fact 6 (f := .glo "asked_part") rfl
  have a7 := c.t.d.fact 7 (f := .glo "bar") rfl
  have a8 := c.t.d.fact 8 (f := .glo "percent") rfl
  have a9 := c.t.d.fact 9 (f := .glo "_law_cell_at") rfl
  have a10 := c.t.d.fact 10 (f := .glo "_law_share") rfl
  have a11 := c.t.d.fact 11 (f := .glo "_law_bar_right") rfl
  have a12 := c.t.d.fact 12 (f := .glo "_law_percent_right") rfl
  have a13 := c.t.d.fact 13 (f := .glo "law") rfl
  have a14 := c.t.d.fact 14 (f := .free "len") rfl
  have a15 := c.t.d.fact 15 (f := .free "abs") rfl
  have a16 := c.t.d.fact 16 (f := .free "all") rfl
  have a17 := c.t.d.fact 17 (f := .free "str") rfl
  have a18 := c.t.d.fact 18 (f := .free "int") rfl
  have a19 := c.t.d.fact 19 (f := .free "bool") rfl
  have a20 := c.t.d.fact 20 (f := .free "tuple") rfl
  have a21 := c.t.d.fact 21 (f := .free "isinstance") rfl
  have a22 := c.t.d.fact 22 (f := .free "range") rfl
  have a23 := c.t.d.fact 23 (f := .int "SIGNS" 100) rfl
  have a24 := c.t.d.fact 24 (f := .glo "WHOLE") rfl
  have T : Facts K mg := { f_len := He.free_ok X G a14, f_abs := He.free_ok X G a15, f_all := He.free_ok X G a16, f_str := He.free_ok X G a17, f_int := He.free_ok X G a18, f_bool := He.free_ok X G a19, f_tuple := He.free_ok X G a20, f_isinstance := He.free_ok X G a21, f_range := He.free_ok X G a22, g_SIGNS := He.int_ok X G a23, g_WHOLE := ⟨_, He.glo_ok X G a24, fun G => ⟨_, _, _, rfl, He.tupB_ok c.more G, rfl, rfl⟩⟩ }
  have e := hfa.symm.trans (He.glo_ok X G a13)
  cases e
  have b := FunD.bindsA (ps := ["_law_script"]) F_law fun _ _ _ _ _ _ us hl => match us, hl with | [_], _ => rfl
  refine ⟨fd_law, fun s v => b s [v] rfl, fun base _ _ => ?_⟩
  have o_common := ok_common (P := P) (w := w) (base := base) F_common T
  have h_common : Has P w K mg base "common" 1 (sp_common K) := Has.mk0 (He.glo_ok X G a0) F_common.kp (FunD.bindsN F_common fun _ _ _ _ _ _ us hl => match us, hl with | [_, _], _ => rfl) o_common
  have o_share := ok_share (P := P) (w := w) (base := base) F_share T h_common
  have h_share : Has P w K mg base "share" 2 (sp_share K) := Has.mk0 (He.glo_ok X G a1) F_share.kp (FunD.bindsN F_share fun _ _ _ _ _ _ us hl => match us, hl with | [_, _], _ => rfl) o_share
  have o_is_more := ok_is_more (P := P) (w := w) (base := base) F_is_more T
  have h_is_more : Has P w K mg base "is_more" 1 (sp_is_more K) := Has.mk0 (He.glo_ok X G a2) F_is_more.kp (FunD.bindsN F_is_more fun _ _ _ _ _ _ us hl => match us, hl with | [_, _], _ => rfl) o_is_more
  have o_is_share := ok_is_share (P := P) (w := w) (base := base) F_is_share T h_share
  have h_is_share : Has P w K mg base "is_share" 3 (sp_is_share K) := Has.mk0 (He.glo_ok X G a3) F_is_share.kp (FunD.bindsN F_is_share fun _ _ _ _ _ _ us hl => match us, hl with | [_], _ => rfl) o_is_share
  have o_is_number := ok_is_number (P := P) (w := w) (base := base) F_is_number T
  have h_is_number : Has P w K mg base "is_number" 1 (sp_is_number K) := Has.mk0 (He.glo_ok X G a4) F_is_number.kp (FunD.bindsN F_is_number fun _ _ _ _ _ _ us hl => match us, hl with | [_, _, _], _ => rfl) o_is_number
  have o_is_part := ok_is_part (P := P) (w := w) (base := base) F_is_part T h_is_more h_is_share
  have h_is_part : Has P w K mg base "is_part" 4 (sp_is_part K) := Has.mk0 (He.glo_ok X G a5) F_is_part.kp (FunD.bindsN F_is_part fun _ _ _ _ _ _ us hl => match us, hl with | [_], _ => rfl) o_is_part
  have o_asked_part := ok_asked_part (P := P) (w := w) (base := base) F_asked_part T h_share h_is_part
  have h_asked_part : Has P w K mg base "asked_part" 5 (sp_asked_part K) := Has.mk0 (He.glo_ok X G a6) F_asked_part.kp (FunD.bindsN F_asked_part fun _ _ _ _ _ _ us hl => match us, hl with | [_], _ => rfl) o_asked_part
  have o_bar := ok_bar (P := P) (w := w) (base := base) F_bar T h_share h_is_number h_asked_part
  have h_bar : Has P w K mg base "bar" 6 (sp_bar K) := Has.mkD (dvs := []) (He.glo_ok X G a7) F_bar.kp (FunD.binds1 (dvs := [V.int (20)]) (ps := ["share", "many"]) F_bar 2 1 (by simp) rfl fun T kV doc pm an cdv ct us its l1 l2 => match us, its, l1, l2 with | [_, _], [_], _, _ => ⟨_, rfl, rfl⟩) o_bar (fun vs H Q z => by rw [List.append_nil]; exact z)
  have h_bar_1 : Has P w K mg base "bar" 6 (sp_bar_1 K) := Has.mkD (dvs := [V.int (20)]) (He.glo_ok X G a7) F_bar.kp (FunD.binds1 (dvs := [V.int (20)]) (ps := ["share", "many"]) F_bar 1 0 (by simp) rfl fun T kV doc pm an cdv ct us its l1 l2 => match us, its, l1, l2 with | [_], [_], _, _ => ⟨_, rfl, rfl⟩) o_bar (fun vs H Q ⟨y, G, hp, e, a, q⟩ => ⟨(y, 20), G, ⟨hp, by show (1:Int) ≤ 20; decide, by show (20:Int) ≤ 100; decide⟩, e, args_app (t := ⟨rInt, 20⟩) rfl a, q⟩)
  have o_percent := ok_percent (P := P) (w := w) (base := base) F_percent T h_asked_part
  have h_percent : Has P w K mg base "percent" 6 (sp_percent K) := Has.mk0 (He.glo_ok X G a8) F_percent.kp (FunD.bindsN F_percent fun _ _ _ _ _ _ us hl => match us, hl with | [_], _ => rfl) o_percent
  have o__law_cell_at := ok__law_cell_at (P := P) (w := w) (base := base) F__law_cell_at T
  have h__law_cell_at : Has P w K mg base "_law_cell_at" 1 (sp__law_cell_at K) := Has.mk0 (He.glo_ok X G a9) F__law_cell_at.kp (FunD.bindsN F__law_cell_at fun _ _ _ _ _ _ us hl => match us, hl with | [_, _], _ => rfl) o__law_cell_at
  have o__law_share := ok__law_share (P := P) (w := w) (base := base) F__law_share T
  have h__law_share : Has P w K mg base "_law_share" 1 (sp__law_share K) := Has.mk0 (He.glo_ok X G a10) F__law_share.kp (FunD.bindsN F__law_share fun _ _ _ _ _ _ us hl => match us, hl with | [_], _ => rfl) o__law_share
  have o__law_bar_right := ok__law_bar_right (P := P) (w := w) (base := base) F__law_bar_right T
  have h__law_bar_right : Has P w K mg base "_law_bar_right" 1 (sp__law_bar_right K) := Has.mk0 (He.glo_ok X G a11) F__law_bar_right.kp (FunD.bindsN F__law_bar_right fun _ _ _ _ _ _ us hl => match us, hl with | [_, _, _], _ => rfl) o__law_bar_right
  have o__law_percent_right := ok__law_percent_right (P := P) (w := w) (base := base) F__law_percent_right T
  have h__law_percent_right : Has P w K mg base "_law_percent_right" 1 (sp__law_percent_right K) := Has.mk0 (He.glo_ok X G a12) F__law_percent_right.kp (FunD.bindsN F__law_percent_right fun _ _ _ _ _ _ us hl => match us, hl with | [_, _], _ => rfl) o__law_percent_right
  have o_law := ok_law (P := P) (w := w) (base := base) F_law T h_bar h_bar_1 h_percent h__law_cell_at h__law_share h__law_bar_right h__law_percent_right
  exact fn_quiet o_law fun vs H Q E E' z => z
end Hd
open PySem PySem.W PySem.Calls PyProof.Rows
set_option maxRecDepth 100000 in
set_option maxHeartbeats 0 in
theorem PySem.Challenge.cw_howfar_k08_whole_shown_holds : PySem.Challenge.rw_howfar_k08_whole_shown.Holds := by
  w_on; o_law
  refine HandSHeadRun.head_any (r := OpenLaw.row PySem.Challenge.rw_howfar_k08_whole_shown) (q := view (OpenLaw.row PySem.Challenge.rw_howfar_k08_whole_shown).prog [23]) (H := Hd.hk) (ob := Hd.ob) (M := 20000) (loose := Hd.names) (d := HandSHeadRun.topDef (OpenLaw.row PySem.Challenge.rw_howfar_k08_whole_shown).prog 23) (kwd := []) Hd.ob_eq
    (by kernel_rfl) (fun s => by kernel_rfl) Hd.run (by kernel_rfl) (by kernel_rfl) (by kernel_rfl) (by rfl) (by first | assumption | decide +kernel) (by decide +kernel) ⟨rfl, rfl, rfl, rfl, rfl, by decide +kernel⟩ ?hw ?hc
  case hw => w_witness2
  case hc =>
    refine L2.walk_ofE (l := PySem.Challenge.rw_howfar_k08_whole_shown) (n := 63) (k := 7) (x := "_law_script") (CX := L2.CX0) rfl (by decide) (by kernel_rfl) ⟨rfl, by decide, by decide⟩ ?F (fun _ _ _ _ z => z)
    intro w mg fa h Y G hmg0
    obtain ⟨K, KX, c⟩ := Y
    have hmg : mg ("law" : PySem.Str) = some (.ref fa) := by
      have e : (HandSHeadRun.topDef (OpenLaw.row PySem.Challenge.rw_howfar_k08_whole_shown).prog 23).name = ("law" : PySem.Str) := by kernel_rfl
      rw [← e]
      exact hmg0
    obtain ⟨fd, hb, hF⟩ := Hd.facts (P := (PySem.Challenge.rw_howfar_k08_whole_shown).prog) (w := w) KX G hmg c
    exact ⟨K, fd, Hf.sp_law K, KX, hb, fun H a ns hl _ hS => ⟨ns, H, hl, fun _ _ z => z, ⟨⟨a, _, rfl, hS, Hf.all2_ofInt ns⟩, trivial⟩, fun v G' H' _ hv => hv⟩, hF⟩


