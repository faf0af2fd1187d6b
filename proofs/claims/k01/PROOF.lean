import PyProof.Rows.All
import Wide.All
import OpenK.AllK
import Wide.FinOn
import HandS.ForMost
import HandS.ForExc
import HandS.IsInst
import HandS.Evl
import HandS.Wide
import HandS.Defaults
import HandS.Text
import HandS.SetFor
import HandS.SortInts
import HandS.TupSets
import HandS.WideBits
import HandS.Strs
import HandS.Style
import HandS.More
import HandS.ClsMeth
import PyProof.Rows.SetFrom
import HandS.Zip
import HandS.MakeKw
import HandS.HeadHook1
import PySem.Challenge.RW_howfar_k01_works
import KE.KStateDown
import HandS.HeadHook4
import HandS.Head2
import HandS.HeadEnd
import Lean
import HandS.Head0
import HandS.Head1
import HandS.HeadHook2
import HandS.HeadHook3
set_option Elab.async false
set_option linter.all false
set_option maxRecDepth 100000
/-! Hf: typed data over the abstract heap: what a value stands for, in a part of the heap that never changes; wp rules for expressions and statements over typed slots. -/
namespace Hf
open PySem PySem.Spec PyProof.Rows L2

abbrev Ex := Evl.Ex

/-- what a value stands for, by the frozen part of the heap -/
structure Rp (α : Type) where
  rel : Hp → V → α → Prop
  mono : ∀ {G G' : Hp} {v : V} {a : α}, Ex G G' → rel G v a → rel G' v a

def rInt : Rp Int := ⟨fun _ v i => v = .int i, fun _ h => h⟩
def rBool : Rp Bool := ⟨fun _ v i => v = .bl i, fun _ h => h⟩
def rStr : Rp Str := ⟨fun _ v i => v = .str i, fun _ h => h⟩
def rNon : Rp Unit := ⟨fun _ v _ => v = .non, fun _ h => h⟩
/-- any value, told as it is -/
def rV : Rp V := ⟨fun _ v w => v = w, fun _ h => h⟩
def rOpt {α : Type} (r : Rp α) : Rp (Option α) := ⟨fun G v o => match o with
  | none => v = .non
  | some a => r.rel G v a, fun {G G' v a} e h => by
    cases a with
    | none => exact h
    | some a => exact r.mono e h⟩
/-- items one by one -/
inductive All2 {α : Type} (r : Rp α) (G : Hp) : List V → List α → Prop
  | nil : All2 r G [] []
  | cons {v : V} {vs : List V} {a : α} {as : List α} : r.rel G v a → All2 r G vs as → All2 r G (v :: vs) (a :: as)
section
variable {α : Type} {r : Rp α} {G G' : Hp}
theorem All2.mono (e : Ex G G') : ∀ {vs : List V} {as : List α}, All2 r G vs as → All2 r G' vs as
  | _, _, .nil => .nil
  | _, _, .cons h t => .cons (r.mono e h) (All2.mono e t)
theorem All2.length : ∀ {vs : List V} {as : List α}, All2 r G vs as → vs.length = as.length
  | _, _, .nil => rfl
  | _, _, .cons _ t => congrArg (· + 1) (All2.length t)
theorem All2.get : ∀ {vs : List V} {as : List α} {i : Nat} {a : α}, All2 r G vs as → as[i]? = some a → ∃ v, vs[i]? = some v ∧ r.rel G v a
  | _, _, i, a, .nil, e => by cases e
  | _, _, 0, a, .cons h _, e => ⟨_, rfl, by cases e; exact h⟩
  | _, _, i + 1, a, .cons _ t, e => All2.get (i := i) t e
theorem All2.getV : ∀ {vs : List V} {as : List α} {i : Nat} {v : V}, All2 r G vs as → vs[i]? = some v → ∃ a, as[i]? = some a ∧ r.rel G v a
  | _, _, i, a, .nil, e => by cases e
  | _, _, 0, a, .cons h _, e => ⟨_, rfl, by cases e; exact h⟩
  | _, _, i + 1, a, .cons _ t, e => All2.getV (i := i) t e
theorem All2.append : ∀ {vs ws : List V} {as bs : List α}, All2 r G vs as → All2 r G ws bs → All2 r G (vs ++ ws) (as ++ bs)
  | _, _, _, _, .nil, h => h
  | _, _, _, _, .cons h t, k => .cons h (All2.append t k)
theorem All2.one {v : V} {a : α} (h : r.rel G v a) : All2 r G [v] [a] := .cons h .nil
theorem All2.drop : ∀ {vs : List V} {as : List α} (n : Nat), All2 r G vs as → All2 r G (vs.drop n) (as.drop n)
  | _, _, 0, h => h
  | _, _, _ + 1, .nil => .nil
  | _, _, n + 1, .cons _ t => All2.drop n t
theorem All2.take : ∀ {vs : List V} {as : List α} (n : Nat), All2 r G vs as → All2 r G (vs.take n) (as.take n)
  | _, _, 0, _ => .nil
  | _, _, _ + 1, .nil => .nil
  | _, _, n + 1, .cons h t => .cons h (All2.take n t)
theorem All2.set {v : V} {a : α} (h : r.rel G v a) : ∀ {vs : List V} {as : List α} (n : Nat), All2 r G vs as → All2 r G (vs.set n v) (as.set n a)
  | _, _, _, .nil => .nil
  | _, _, 0, .cons _ t => .cons h t
  | _, _, n + 1, .cons k t => .cons k (All2.set h n t)
theorem All2.reverse : ∀ {vs : List V} {as : List α}, All2 r G vs as → All2 r G vs.reverse as.reverse
  | _, _, .nil => .nil
  | _, _, .cons h t => by
    rw [List.reverse_cons, List.reverse_cons]
    exact (All2.reverse t).append (.one h)
theorem all2_int : ∀ {vs : List V} {as : List Int}, All2 rInt G vs as → vs = as.map V.int
  | _, _, .nil => rfl
  | _, _, .cons h t => by rw [h, all2_int t]; rfl
theorem all2_bool : ∀ {vs : List V} {as : List Bool}, All2 rBool G vs as → vs = as.map V.bl
  | _, _, .nil => rfl
  | _, _, .cons h t => by rw [h, all2_bool t]; rfl
theorem all2_str : ∀ {vs : List V} {as : List Str}, All2 rStr G vs as → vs = as.map V.str
  | _, _, .nil => rfl
  | _, _, .cons h t => by rw [h, all2_str t]; rfl
theorem all2_ofInt : ∀ (as : List Int), All2 rInt G (as.map V.int) as
  | [] => .nil
  | _ :: r => .cons rfl (all2_ofInt r)
theorem all2_ofStr : ∀ (as : List Str), All2 rStr G (as.map V.str) as
  | [] => .nil
  | _ :: r => .cons rfl (all2_ofStr r)
end
/-- a list of the frozen part -/
def rLst {α : Type} (r : Rp α) : Rp (List α) := ⟨fun G v as => ∃ p vs, v = .ref p ∧ G p = some (.lst vs) ∧ All2 r G vs as, fun {G G' v a} e ⟨p, vs, h1, h2, h3⟩ => ⟨p, vs, h1, e _ _ h2, h3.mono e⟩⟩
/-- a list that may be the script or of the written part: read only -/
def rSeq (K : PySem.W.Frag) {α : Type} (r : Rp α) : Rp (List α) := ⟨fun G v as => ∃ p vs, v = .ref p ∧ SqL K G p vs ∧ All2 r G vs as, fun {G G' v a} e ⟨p, vs, h1, h2, h3⟩ => ⟨p, vs, h1, Evl.ex_l e h2, h3.mono e⟩⟩
/-- tuples -/
def rT2 (K : PySem.W.Frag) {α β : Type} (r : Rp α) (s : Rp β) : Rp (α × β) := ⟨fun G v a => ∃ p x y, v = .ref p ∧ SqT K G p [x, y] ∧ r.rel G x a.1 ∧ s.rel G y a.2, fun {G G' v a} e ⟨p, x, y, h1, h2, h3, h4⟩ => ⟨p, x, y, h1, Evl.ex_t e h2, r.mono e h3, s.mono e h4⟩⟩
def rT3 (K : PySem.W.Frag) {α β γ : Type} (r : Rp α) (s : Rp β) (t : Rp γ) : Rp (α × β × γ) := ⟨fun G v a => ∃ p x y z, v = .ref p ∧ SqT K G p [x, y, z] ∧ r.rel G x a.1 ∧ s.rel G y a.2.1 ∧ t.rel G z a.2.2, fun {G G' v a} e ⟨p, x, y, z, h1, h2, h3, h4, h5⟩ => ⟨p, x, y, z, h1, Evl.ex_t e h2, r.mono e h3, s.mono e h4, t.mono e h5⟩⟩

/-! ### steps of the two heaps -/
/-- from (G, H) to (G', H'): what is frozen stays, all that was tracked stays; what is frozen anew is new -/
structure Le (G H G' H' : Hp) : Prop where
  g : Ex G G'
  h : Ex H H'
  gh : Ex G' H'
  new : ∀ a o, G' a = some o → G a = none → H a = none
theorem Le.refl {G H : Hp} (e : Ex G H) : Le G H G H := ⟨Evl.Ex.refl _, Evl.Ex.refl _, e, fun a o h1 h2 => by rw [h1] at h2; cases h2⟩
theorem Le.trans {G H G1 H1 G2 H2 : Hp} (a : Le G H G1 H1) (b : Le G1 H1 G2 H2) : Le G H G2 H2 :=
  ⟨a.g.trans b.g, a.h.trans b.h, b.gh, fun x o h1 h2 => by
    cases q : G1 x with
    | some u => exact a.new x u q h2
    | none => exact Evl.fresh_back a.h (b.new x o h1 q)⟩
/-- a new frozen object -/
theorem Le.add {G H G1 H1 : Hp} (a : Le G H G1 H1) {p : Addr} {o : HO} (n : H1 p = none) : Le G H (upd G1 p o) (upd H1 p o) :=
  have n1 : G1 p = none := Evl.fresh_back a.gh n
  ⟨a.g.trans (Evl.Ex.new n1), a.h.trans (Evl.Ex.new n), fun x u h => by
    by_cases e : x = p
    · subst e; rw [upd_same] at h ⊢; exact h
    · rw [upd_ne e] at h ⊢; exact a.gh x u h, fun x u h1 h2 => by
    by_cases e : x = p
    · subst e; exact Evl.fresh_back a.h n
    · rw [upd_ne e] at h1; exact a.new x u h1 h2⟩
/-- a new object that may change -/
theorem Le.addO {G H G1 H1 : Hp} (a : Le G H G1 H1) {p : Addr} {o : HO} (n : H1 p = none) : Le G H G1 (upd H1 p o) :=
  ⟨a.g, a.h.trans (Evl.Ex.new n), a.gh.trans (Evl.Ex.new n), a.new⟩
/-- an object that may change is frozen -/
theorem Le.frz {G H G1 H1 : Hp} (a : Le G H G1 H1) {p : Addr} {o : HO} (hp : H1 p = some o) (n : H p = none) (g1 : G1 p = none) : Le G H (upd G1 p o) H1 :=
  ⟨a.g.trans (Evl.Ex.new g1), a.h, fun x u h => by
    by_cases e : x = p
    · subst e; rw [upd_same] at h; cases h; exact hp
    · rw [upd_ne e] at h; exact a.gh x u h, fun x u h1 h2 => by
    by_cases e : x = p
    · subst e; exact n
    · rw [upd_ne e] at h1; exact a.new x u h1 h2⟩

/-! ### slots -/
/-- what an object that may change holds, by the frozen part -/
structure Oc where
  rel : Hp → HO → Prop
  mono : ∀ {G G' : Hp} {o : HO}, Ex G G' → rel G o → rel G' o
def oLst {α : Type} (r : Rp α) (as : List α) : Oc := ⟨fun G o => ∃ vs, o = .lst vs ∧ All2 r G vs as, fun e ⟨vs, h1, h2⟩ => ⟨vs, h1, h2.mono e⟩⟩
inductive Slot : Type 1 where
  | no
  | sh {α : Type} (r : Rp α) (a : α)
  | ow (c : Oc) (q : Option Addr := none)
/-- the entry: frozen part, heap, what may be changed of it; F: a frozen part that still stands -/
structure Ent where
  G : Hp
  H : Hp
  M : Addr → Prop := fun _ => False
  F : Hp := fun _ => none
structure LeE (G0 H0 : Hp) (M : Addr → Prop) (G H : Hp) : Prop where
  g : Ex G0 G
  h : ∀ a o, H0 a = some o → (¬ M a ∧ H a = some o) ∨ (M a ∧ ∃ u, H a = some u)
  gh : Ex G H
  new : ∀ a o, G a = some o → G0 a = none → H0 a = none
  m : ∀ a, M a → G0 a = none ∧ ∃ o, H0 a = some o
theorem LeE.step {G0 H0 : Hp} {M : Addr → Prop} {G H G' H' : Hp} (a : LeE G0 H0 M G H) (b : Le G H G' H') : LeE G0 H0 M G' H' := by
  refine ⟨a.g.trans b.g, fun x o e => ?_, b.gh, fun x o h1 h2 => ?_, a.m⟩
  · rcases a.h x o e with ⟨n, h⟩ | ⟨n, u, h⟩
    · exact .inl ⟨n, b.h _ _ h⟩
    · exact .inr ⟨n, u, b.h _ _ h⟩
  · cases q : G x with
    | some u => exact a.new x u q h2
    | none =>
      have z := b.new x o h1 q
      cases w : H0 x with
      | none => rfl
      | some u =>
        rcases a.h x u w with ⟨_, h⟩ | ⟨_, u, h⟩ <;> (rw [z] at h; cases h)
/-- nothing of the entry may change: a plain step -/
theorem LeE.le {G0 H0 : Hp} {M : Addr → Prop} {G H : Hp} (a : LeE G0 H0 M G H) (n : ∀ x, ¬ M x) : Le G0 H0 G H :=
  ⟨a.g, fun x o e => by
    rcases a.h x o e with ⟨_, h⟩ | ⟨m, _⟩
    · exact h
    · exact absurd m (n x), a.gh, a.new⟩
theorem LeE.fresh {G0 H0 : Hp} {M : Addr → Prop} {G H : Hp} (a : LeE G0 H0 M G H) {p : Addr} (n : H p = none) : H0 p = none := by
  cases w : H0 p with
  | none => rfl
  | some u =>
    rcases a.h p u w with ⟨_, h⟩ | ⟨_, u, h⟩ <;> (rw [n] at h; cases h)
theorem LeE.start {G H : Hp} (e : Ex G H) : LeE G H (fun _ => False) G H := ⟨.refl _, fun a o h => .inl ⟨fun q => q, h⟩, e, fun a o h1 h2 => (by rw [h1] at h2; cases h2), fun a q => False.elim q⟩
/-- where an object of one's own comes from: it is new, or it is the one that was handed in at z -/
def Pin (E : Ent) (p : Addr) : Option Addr → Prop
  | none => E.H p = none
  | some z => p = z ∧ E.M p
theorem Pin.or {E : Ent} {p : Addr} : ∀ {q : Option Addr}, Pin E p q → E.M p ∨ E.H p = none
  | none, h => .inr h
  | some _, h => .inl h.2
def Slot.ok (E : Ent) (G H : Hp) (x : Option (Option V)) : Slot → Prop
  | .no => True
  | .sh r a => ∃ v, x = some (some v) ∧ r.rel G v a
  | .ow c q => ∃ p o, x = some (some (.ref p)) ∧ G p = none ∧ Pin E p q ∧ H p = some o ∧ c.rel G o
def Slot.isOw : Slot → Bool
  | .ow _ _ => true
  | _ => false
structure Holds (E : Ent) (G H : Hp) (σ : L2.St) (Γ : List Slot) : Prop where
  le : LeE E.G E.H E.M G H
  fl : Ex E.F G
  len : σ.length = Γ.length
  ok : ∀ (i : Nat) (s : Slot), Γ[i]? = some s → s.ok E G H σ[i]?
  sep : ∀ (i j : Nat) (s t : Slot), Γ[i]? = some s → Γ[j]? = some t → s.isOw = true → t.isOw = true → σ[i]? = σ[j]? → i = j
section
variable {E : Ent} {G H G' H' : Hp} {σ : L2.St} {Γ : List Slot}
theorem Holds.step (h : Holds E G H σ Γ) (b : Le G H G' H') : Holds E G' H' σ Γ := by
  refine ⟨h.le.step b, h.fl.trans b.g, h.len, fun i s e => ?_, h.sep⟩
  · have k := h.ok i s e
    cases s with
    | no => trivial
    | sh r a =>
      obtain ⟨v, h1, h2⟩ := k
      exact ⟨v, h1, r.mono b.g h2⟩
    | ow c q =>
      obtain ⟨p, o, h1, h2, h3, h4, h5⟩ := k
      refine ⟨p, o, h1, ?_, h3, b.h _ _ h4, c.mono b.g h5⟩
      cases q : G' p with
      | none => rfl
      | some u =>
        have z := b.new p u q h2
        rw [z] at h4
        cases h4
theorem Holds.sh {α : Type} {r : Rp α} {a : α} {i : Nat} (h : Holds E G H σ Γ) (e : Γ[i]? = some (.sh r a)) : ∃ v, σ[i]? = some (some v) ∧ r.rel G v a := h.ok i _ e
theorem Holds.ow {c : Oc} {q : Option Addr} {i : Nat} (h : Holds E G H σ Γ) (e : Γ[i]? = some (.ow c q)) : ∃ p o, σ[i]? = some (some (.ref p)) ∧ G p = none ∧ Pin E p q ∧ H p = some o ∧ c.rel G o := h.ok i _ e
theorem get_set.{u} {α : Type u} {l : List α} {i j : Nat} {x y : α} (h : (l.set i x)[j]? = some y) : (i = j ∧ y = x) ∨ (i ≠ j ∧ l[j]? = some y) := by
  rw [List.getElem?_set] at h
  split at h
  · rename_i e
    split at h
    · exact .inl ⟨e, by cases h; rfl⟩
    · cases h
  · rename_i e
    exact .inr ⟨e, h⟩
theorem Holds.set_no {x : Option V} {i : Nat} (h : Holds E G H σ Γ) : Holds E G H (σ.set i x) (Γ.set i .no) :=
  ⟨h.le, h.fl, by rw [List.length_set, List.length_set]; exact h.len, fun j s e => by
    rcases get_set e with ⟨rfl, rfl⟩ | ⟨n, e⟩
    · trivial
    · rw [List.getElem?_set_ne n]
      exact h.ok j s e, fun j k s t e1 e2 o1 o2 q => by
    rcases get_set e1 with ⟨rfl, rfl⟩ | ⟨n1, e1⟩
    · cases o1
    · rcases get_set e2 with ⟨rfl, rfl⟩ | ⟨n2, e2⟩
      · cases o2
      · rw [List.getElem?_set_ne n1, List.getElem?_set_ne n2] at q
        exact h.sep j k s t e1 e2 o1 o2 q⟩
theorem Holds.set_sh {α : Type} {r : Rp α} {a : α} {v : V} {i : Nat} (h : Holds E G H σ Γ) (hv : r.rel G v a) : Holds E G H (σ.set i (some v)) (Γ.set i (.sh r a)) :=
  ⟨h.le, h.fl, by rw [List.length_set, List.length_set]; exact h.len, fun j s e => by
    rcases get_set e with ⟨rfl, rfl⟩ | ⟨n, e⟩
    · refine ⟨v, ?_, hv⟩
      have lt : i < σ.length := by
        rw [h.len]
        have z := (List.getElem?_eq_some_iff.mp e).1
        rw [List.length_set] at z
        exact z
      rw [List.getElem?_set_self lt]
    · rw [List.getElem?_set_ne n]
      exact h.ok j s e, fun j k s t e1 e2 o1 o2 q => by
    rcases get_set e1 with ⟨rfl, rfl⟩ | ⟨n1, e1⟩
    · cases o1
    · rcases get_set e2 with ⟨rfl, rfl⟩ | ⟨n2, e2⟩
      · cases o2
      · rw [List.getElem?_set_ne n1, List.getElem?_set_ne n2] at q
        exact h.sep j k s t e1 e2 o1 o2 q⟩
/-- a new object that may change, in a slot -/
theorem Holds.set_ow {c : Oc} {p : Addr} {o : HO} {i : Nat} (h : Holds E G H σ Γ) (b : Le G H G' H') (n : H p = none) (g : G' p = none) (hp : H' p = some o) (hc : c.rel G' o) : Holds E G' H' (σ.set i (some (.ref p))) (Γ.set i (.ow c)) := by
  have h1 := h.step b
  have other : ∀ (j : Nat) (s : Slot), Γ[j]? = some s → s.isOw = true → σ[j]? ≠ some (some (V.ref p)) := fun j s e w q => by
    cases s with
    | no => cases w
    | sh r a => cases w
    | ow c2 q2 =>
      obtain ⟨p2, o2, k1, _, _, k4, _⟩ := h.ow e
      rw [k1] at q
      cases q
      rw [n] at k4
      cases k4
  have lt : ∀ s : Slot, (Γ.set i (.ow c))[i]? = some s → i < σ.length := fun s e => by
    rw [h.len]
    have z := (List.getElem?_eq_some_iff.mp e).1
    rw [List.length_set] at z
    exact z
  refine ⟨h1.le, h1.fl, by rw [List.length_set, List.length_set]; exact h.len, fun j s e => ?_, fun j k s t e1 e2 o1 o2 q => ?_⟩
  · rcases get_set e with ⟨rfl, rfl⟩ | ⟨nj, e'⟩
    · exact ⟨p, o, by rw [List.getElem?_set_self (lt _ e)], g, h.le.fresh n, hp, hc⟩
    · rw [List.getElem?_set_ne nj]
      exact h1.ok j s e'
  · rcases get_set e1 with ⟨rfl, rfl⟩ | ⟨n1, e1'⟩
    · rcases get_set e2 with ⟨rfl, rfl⟩ | ⟨n2, e2'⟩
      · rfl
      · rw [List.getElem?_set_self (lt _ e1), List.getElem?_set_ne n2] at q
        exact absurd q.symm (other k t e2' o2)
    · rcases get_set e2 with ⟨rfl, rfl⟩ | ⟨n2, e2'⟩
      · rw [List.getElem?_set_self (lt _ e2), List.getElem?_set_ne n1] at q
        exact absurd q (other j s e1' o1)
      · rw [List.getElem?_set_ne n1, List.getElem?_set_ne n2] at q
        exact h.sep j k s t e1' e2' o1 o2 q
/-- the object in a slot is changed -/
theorem Holds.mut {c c' : Oc} {pq : Option Addr} {p : Addr} {o' : HO} {i : Nat} (h : Holds E G H σ Γ) (e : Γ[i]? = some (.ow c pq)) (hp : σ[i]? = some (some (.ref p))) (hc : c'.rel G o') : Holds E G (upd H p o') σ (Γ.set i (.ow c' pq)) := by
  obtain ⟨p1, o1, k1, k2, k3, k4, k5⟩ := h.ow e
  have ep : p1 = p := by
    rw [hp] at k1
    cases k1
    rfl
  subst ep
  refine ⟨⟨h.le.g, fun a u q => ?_, fun a u q => ?_, h.le.new, h.le.m⟩, h.fl, by rw [List.length_set]; exact h.len, fun j s q => ?_, fun j k s t e1 e2 w1 w2 q => ?_⟩
  · by_cases z : a = p1
    · subst z
      rcases k3.or with m | m
      · exact .inr ⟨m, _, upd_same⟩
      · rw [m] at q
        cases q
    · rw [upd_ne z]
      exact h.le.h a u q
  · have z : a ≠ p1 := fun z => by
      subst z
      rw [k2] at q
      cases q
    rw [upd_ne z]
    exact h.le.gh a u q
  · rcases get_set q with ⟨rfl, rfl⟩ | ⟨n, q⟩
    · exact ⟨p1, o', hp, k2, k3, upd_same, hc⟩
    · have w := h.ok j s q
      cases s with
      | no => trivial
      | sh r a => exact w
      | ow c2 q2 =>
        obtain ⟨p2, o2, w1, w2, w3, w4, w5⟩ := w
        have np : p2 ≠ p1 := fun z => by
          subst z
          exact n (h.sep i j _ _ e q rfl rfl (by rw [hp, w1]))
        exact ⟨p2, o2, w1, w2, w3, by rw [upd_ne np]; exact w4, w5⟩
  · have back : ∀ (j : Nat) (s : Slot), (Γ.set i (.ow c' pq))[j]? = some s → s.isOw = true → ∃ s', Γ[j]? = some s' ∧ s'.isOw = true := fun j s q w => by
      rcases get_set q with ⟨rfl, rfl⟩ | ⟨n, q⟩
      · exact ⟨_, e, rfl⟩
      · exact ⟨_, q, w⟩
    obtain ⟨s', q1, q2⟩ := back j s e1 w1
    obtain ⟨t', q3, q4⟩ := back k t e2 w2
    exact h.sep j k s' t' q1 q3 q2 q4 q
/-- another floor -/
theorem Holds.floor (h : Holds E G H σ Γ) {F : Hp} (e : Ex F G) : Holds { E with F := F } G H σ Γ := by
  refine ⟨h.le, e, h.len, fun i s q => ?_, h.sep⟩
  have k := h.ok i s q
  cases s with
  | no => trivial
  | sh r a => exact k
  | ow c q => exact k
theorem Holds.unfloor {F : Hp} (h : Holds { E with F := F } G H σ Γ) (e : Ex E.F G) : Holds E G H σ Γ := by
  refine ⟨h.le, e, h.len, fun i s q => ?_, h.sep⟩
  have k := h.ok i s q
  cases s with
  | no => trivial
  | sh r a => exact k
  | ow c q => exact k
/-- less is known of a slot -/
theorem Holds.weak {Γ' : List Slot} (h : Holds E G H σ Γ) (l : Γ'.length = Γ.length) (w : ∀ (i : Nat) (s : Slot), Γ'[i]? = some s → s = .no ∨ Γ[i]? = some s) : Holds E G H σ Γ' :=
  ⟨h.le, h.fl, by rw [l]; exact h.len, fun i s e => by
    rcases w i s e with rfl | q
    · trivial
    · exact h.ok i s q, fun i j s t e1 e2 w1 w2 q => by
    rcases w i s e1 with rfl | q1
    · cases w1
    · rcases w j t e2 with rfl | q2
      · cases w2
      · exact h.sep i j s t q1 q2 w1 w2 q⟩
end

/-! ### weakest preconditions -/
section
variable (X : Cx)
structure WE (e : Expr) (σ : L2.St) (H : Hp) (Q : VK) : Prop where
  run : ∀ (pins : List (Addr × Obj)) (s : Shared), Inv X pins σ H s → wpAny (model X.prog X.w) X.A (eval e X.env) (EP X pins σ Q) X.xe s
structure WT (e : Expr) (σ : L2.St) (H : Hp) (Q : Bool → Hp → Prop) : Prop where
  run : ∀ (pins : List (Addr × Obj)) (s : Shared), Inv X pins σ H s → wpAny (model X.prog X.w) X.A (isTrue e X.env (eval e X.env)) (TP X pins σ Q) X.xe s
structure WW (e : Expr) (σ : L2.St) (H : Hp) (Q : Bool → Hp → Prop) : Prop where
  run : ∀ (whole : Sem Value) (pins : List (Addr × Obj)) (s : Shared), Inv X pins σ H s → wpAny (model X.prog X.w) X.A (isTrue e X.env whole) (TP X pins σ Q) X.xe s
structure WA (es : List Expr) (σ : L2.St) (H : Hp) (Q : List V → Hp → Prop) : Prop where
  run : ∀ (pos : Pos) (pins : List (Addr × Obj)) (s : Shared), Inv X pins σ H s → wpAny (model X.prog X.w) X.A (spliced (backTo pos (starEach es X.env))) (AP X pins σ Q) X.xe s
structure WS (st : Stmt) (σ : L2.St) (H : Hp) (D : Ends) : Prop where
  run : ∀ (pins : List (Addr × Obj)) (s : Shared), Inv X pins σ H s → wpAny (model X.prog X.w) X.A (exec st X.env) (SP X pins D) X.xe s
structure WB (st : List Stmt) (σ : L2.St) (H : Hp) (D : Ends) : Prop where
  run : ∀ (pins : List (Addr × Obj)) (s : Shared), Inv X pins σ H s → wpAny (model X.prog X.w) X.A (execs st X.env) (SP X pins D) X.xe s
end
section
variable {X : Cx} {e : Expr} {es : List Expr} {st : Stmt} {sts : List Stmt} {σ : L2.St} {H : Hp}
theorem WE.pe : PE X e (WE X e) := ⟨fun pins s σ H Q I h => h.run pins s I⟩
theorem WT.pt : PT X e (WT X e) := ⟨fun pins s σ H Q I h => h.run pins s I⟩
theorem WW.pw : PW X e (WW X e) := ⟨fun w pins s σ H Q I h => h.run w pins s I⟩
theorem WA.pa : PA X es (WA X es) := ⟨fun pos pins s σ H Q I h => h.run pos pins s I⟩
theorem WS.ps : PS X st (fun D σ H => WS X st σ H D) := ⟨fun pins s σ H D I h => h.run pins s I⟩
theorem WB.pss : PSs X sts (fun D σ H => WB X sts σ H D) := ⟨fun pins s σ H D I h => h.run pins s I⟩
theorem WE.of {t : TE} {Q : VK} (p : PE X e t) (h : t σ H Q) : WE X e σ H Q := ⟨fun pins s I => p.run pins s σ H Q I h⟩
theorem WT.of {t : TT} {Q : Bool → Hp → Prop} (p : PT X e t) (h : t σ H Q) : WT X e σ H Q := ⟨fun pins s I => p.run pins s σ H Q I h⟩
theorem WW.of {t : TT} {Q : Bool → Hp → Prop} (p : PW X e t) (h : t σ H Q) : WW X e σ H Q := ⟨fun w pins s I => p.run w pins s σ H Q I h⟩
theorem WA.of {t : TA} {Q : List V → Hp → Prop} (p : PA X es t) (h : t σ H Q) : WA X es σ H Q := ⟨fun pos pins s I => p.run pos pins s σ H Q I h⟩
theorem WS.of {t : TS} {D : Ends} (p : PS X st t) (h : t D σ H) : WS X st σ H D := ⟨fun pins s I => p.run pins s σ H D I h⟩
theorem WB.of {t : TS} {D : Ends} (p : PSs X sts t) (h : t D σ H) : WB X sts σ H D := ⟨fun pins s I => p.run pins s σ H D I h⟩
theorem WE.mono {Q Q' : VK} (h : WE X e σ H Q) (k : ∀ v H', Q v H' → Q' v H') : WE X e σ H Q' := ⟨fun pins s I => thn (h.run pins s I) fun _ _ ⟨v, H', I', r, q⟩ => ⟨v, H', I', r, k v H' q⟩⟩
theorem WT.mono {Q Q' : Bool → Hp → Prop} (h : WT X e σ H Q) (k : ∀ v H', Q v H' → Q' v H') : WT X e σ H Q' := ⟨fun pins s I => thn (h.run pins s I) fun _ _ ⟨H', I', q⟩ => ⟨H', I', k _ H' q⟩⟩
end

/-! ### what an expression is worth -/
section
variable (X : Cx) (Γ : List Slot)
/-- worth a, told by r; nothing else changes -/
def Ev (e : Expr) {α : Type} (r : Rp α) (a : α) : Prop := ∀ (E : Ent) (G H : Hp) (σ : L2.St), Holds E G H σ Γ → ∀ Q : VK, (∀ v G' H', Le G H G' H' → r.rel G' v a → Q v H') → WE X e σ H Q
/-- a new object that may change -/
def EvO (e : Expr) (c : Oc) : Prop := ∀ (E : Ent) (G H : Hp) (σ : L2.St), Holds E G H σ Γ → ∀ Q : VK, (∀ p o G' H', H p = none → Le G H G' H' → G' p = none → H' p = some o → c.rel G' o → Q (.ref p) H') → WE X e σ H Q
/-- an object that may change, to be looked at -/
def EvB (e : Expr) (c : Oc) : Prop := ∀ (E : Ent) (G H : Hp) (σ : L2.St), Holds E G H σ Γ → ∀ Q : VK, (∀ p o G' H', Le G H G' H' → H' p = some o → c.rel G' o → Q (.ref p) H') → WE X e σ H Q
def EvT (e : Expr) (b : Bool) : Prop := ∀ (E : Ent) (G H : Hp) (σ : L2.St), Holds E G H σ Γ → ∀ Q : Bool → Hp → Prop, (∀ G' H', Le G H G' H' → Q b H') → WT X e σ H Q
def EvW (e : Expr) (b : Bool) : Prop := ∀ (E : Ent) (G H : Hp) (σ : L2.St), Holds E G H σ Γ → ∀ Q : Bool → Hp → Prop, (∀ G' H', Le G H G' H' → Q b H') → WW X e σ H Q
end
/-- a typed value -/
structure Ty : Type 1 where
  {α : Type}
  r : Rp α
  a : α
def Args (G : Hp) : List V → List Ty → Prop
  | [], [] => True
  | v :: vs, t :: ts => t.r.rel G v t.a ∧ Args G vs ts
  | _, _ => False
theorem Args.mono {G G' : Hp} (e : Ex G G') : ∀ {vs : List V} {ts : List Ty}, Args G vs ts → Args G' vs ts
  | [], [], h => h
  | _ :: _, t :: _, h => ⟨t.r.mono e h.1, Args.mono e h.2⟩
def EvA (X : Cx) (Γ : List Slot) (es : List Expr) (ts : List Ty) : Prop := ∀ (E : Ent) (G H : Hp) (σ : L2.St), Holds E G H σ Γ → ∀ Q : List V → Hp → Prop, (∀ vs G' H', Le G H G' H' → Args G' vs ts → Q vs H') → WA X es σ H Q
section
variable {X : Cx} {Γ : List Slot} {e a b c : Expr} {es : List Expr} {pos : Pos} {α β γ : Type} {r : Rp α} {x : α}
theorem Ev.eq {y : α} (h : Ev X Γ e r x) (q : x = y) : Ev X Γ e r y := q ▸ h
theorem EvT.eq {y z : Bool} (h : EvT X Γ e y) (q : y = z) : EvT X Γ e z := q ▸ h
theorem ea_nil : EvA X Γ [] [] := fun E G H σ h Q q => WA.of pa_nil (q [] G H (.refl h.le.gh) trivial)
theorem ea_cons {t : Ty} {ts : List Ty} (ha : Ev X Γ e t.r t.a) (hr : EvA X Γ es ts) (hs : starEach (e :: es) X.env = (false, eval e X.env) :: starEach es X.env := by rfl) : EvA X Γ (e :: es) (t :: ts) := fun E G H σ h Q q =>
  WA.of (pa_cons WE.pe WA.pa hs) (ha E G H σ h _ fun v G1 H1 l1 r1 => hr E G1 H1 σ (h.step l1) _ fun vs G2 H2 l2 r2 => q _ G2 H2 (l1.trans l2) ⟨t.r.mono l2.g r1, r2⟩)
theorem EvO.bor {c : Oc} (h : EvO X Γ e c) : EvB X Γ e c := fun E G H σ hh Q q => h E G H σ hh Q fun p o G' H' _ l _ h2 h3 => q p o G' H' l h2 h3
/-- a new list is frozen -/
theorem EvO.ev {as : List α} (h : EvO X Γ e (oLst r as)) : Ev X Γ e (rLst r) as := fun E G H σ hh Q q => h E G H σ hh Q fun p o G' H' n l g h2 ⟨vs, e1, h3⟩ => by
  subst e1
  exact q _ (upd G' p (.lst vs)) H' (l.frz h2 n g) ⟨p, vs, rfl, upd_same, h3.mono (Evl.Ex.new g)⟩
/-- a frozen list, looked at -/
theorem Ev.bor {as : List α} (h : Ev X Γ e (rLst r) as) : EvB X Γ e (oLst r as) := fun E G H σ hh Q q => h E G H σ hh Q fun v G' H' l ⟨p, vs, e1, h2, h3⟩ => by
  subst e1
  exact q p _ G' H' l (l.gh _ _ h2) ⟨vs, rfl, h3⟩
theorem ev_v (i : Nat) {y : Str} (hg : Γ[i]? = some (.sh r x) := by rfl) (hN : X.N[i]? = some y := by rfl) (hv : Vis X.env.scope y := by first | exact Or.inl rfl | exact Or.inr (Or.inl rfl) | exact Or.inr (Or.inr rfl)) (hd : (y == ("__debug__" : Str)) = false := by decide)
    (hcd : (y == ("__classdict__" : Str)) = false := by decide) : Ev X Γ (.Name y pos) r x := fun E G H σ h Q q => by
  obtain ⟨v, h1, h2⟩ := h.sh hg
  exact WE.of (pe_var hN hv hd hcd) ⟨v, h1, q v G H (.refl h.le.gh) h2⟩
theorem eb_v (i : Nat) {y : Str} {c : Oc} {pq : Option Addr} (hg : Γ[i]? = some (.ow c pq) := by rfl) (hN : X.N[i]? = some y := by rfl) (hv : Vis X.env.scope y := by first | exact Or.inl rfl | exact Or.inr (Or.inl rfl) | exact Or.inr (Or.inr rfl)) (hd : (y == ("__debug__" : Str)) = false := by decide)
    (hcd : (y == ("__classdict__" : Str)) = false := by decide) : EvB X Γ (.Name y pos) c := fun E G H σ h Q q => by
  obtain ⟨p, o, h1, h2, h3, h4, h5⟩ := h.ow hg
  exact WE.of (pe_var hN hv hd hcd) ⟨_, h1, q p o G H (.refl h.le.gh) h4 h5⟩
theorem ev_int {i : Int} {j : Nat} : Ev X Γ (.Constant (.int i) j pos) rInt i := fun E G H σ h Q q => WE.of pe_int (q _ G H (.refl h.le.gh) rfl)
theorem ev_bool {i : Bool} {j : Nat} : Ev X Γ (.Constant (.bool i) j pos) rBool i := fun E G H σ h Q q => WE.of pe_bl (q _ G H (.refl h.le.gh) rfl)
theorem ev_str {i : Str} {j : Nat} : Ev X Γ (.Constant (.str i) j pos) rStr i := fun E G H σ h Q q => WE.of pe_str (q _ G H (.refl h.le.gh) rfl)
theorem ev_none {j : Nat} : Ev X Γ (.Constant .none j pos) (rOpt r) none := fun E G H σ h Q q => WE.of pe_non (q _ G H (.refl h.le.gh) rfl)
theorem ev_unit {j : Nat} : Ev X Γ (.Constant .none j pos) rNon () := fun E G H σ h Q q => WE.of pe_non (q _ G H (.refl h.le.gh) rfl)
theorem ev_some (h : Ev X Γ e r x) : Ev X Γ e (rOpt r) (some x) := fun E G H σ hh Q q => h E G H σ hh Q fun v G' H' l k => q v G' H' l k
end
end Hf

namespace Hf
open PySem PySem.Spec PyProof.Rows L2

/-! ### operators -/
section
variable {X : Cx} {Γ : List Slot} {e f g : Expr} {es : List Expr} {pos : Pos} {α β γ δ : Type} {r : Rp α} {x : α} {s : Rp β} {y : β} {t : Rp γ} {z : γ} {i j : Int} {p q : Bool} {u v : Str}
/-- what an operator by values gives -/
def Gives (ρ : R2) (r : Rp α) (x : α) (s : Rp β) (y : β) (t : Rp γ) (z : γ) : Prop := ∀ (G H : Hp) (a b : V), Ex G H → r.rel G a x → s.rel G b y → ∀ Q : VK, (∀ c G' H', Le G H G' H' → t.rel G' c z → Q c H') → ρ a b H Q
theorem ev_bin {op : Operator} {ρ : R2} (ho : OpR X (binaryOp op) ρ) (ha : Ev X Γ e r x) (hb : Ev X Γ f s y) (hs : Gives ρ r x s y t z) : Ev X Γ (.BinOp e op f pos) t z := fun E G H σ h Q k =>
  WE.of (pe_op ho WE.pe WE.pe) (ha E G H σ h _ fun a G1 H1 l1 r1 => hb E G1 H1 σ (h.step l1) _ fun b G2 H2 l2 r2 => hs G2 H2 a b l2.gh (r.mono l2.g r1) r2 Q fun c G3 H3 l3 r3 => k c G3 H3 ((l1.trans l2).trans l3) r3)
theorem ev_cmpR {op : CmpOp} {ρ : R2} (ho : OpR X (compareOp op) ρ) (ha : Ev X Γ e r x) (hb : Ev X Γ f s y) (hs : Gives ρ r x s y t z) (hm : behindInMarks op f = false := by first | exact nobehind _ (by decide) (by decide) | rfl) : Ev X Γ (.Compare e [op] [f] pos) t z := fun E G H σ h Q k =>
  WE.of (pe_cmpR ho WE.pe WE.pe hm) (ha E G H σ h _ fun a G1 H1 l1 r1 => hb E G1 H1 σ (h.step l1) _ fun b G2 H2 l2 r2 => hs G2 H2 a b l2.gh (r.mono l2.g r1) r2 Q fun c G3 H3 l3 r3 => k c G3 H3 ((l1.trans l2).trans l3) r3)
theorem et_cmpR {op : CmpOp} {ρ : R2} (ho : OpR X (compareOp op) ρ) (ha : Ev X Γ e r x) (hb : Ev X Γ f s y) (hs : Gives ρ r x s y rBool p) (hm : behindInMarks op f = false := by first | exact nobehind _ (by decide) (by decide) | rfl) : EvT X Γ (.Compare e [op] [f] pos) p := fun E G H σ h Q k =>
  WT.of (pt_cmpR ho WE.pe WE.pe hm) (ha E G H σ h _ fun a G1 H1 l1 r1 => hb E G1 H1 σ (h.step l1) _ fun b G2 H2 l2 r2 => hs G2 H2 a b l2.gh (r.mono l2.g r1) r2 _ fun c G3 H3 l3 r3 => ⟨p, r3, k G3 H3 ((l1.trans l2).trans l3)⟩)
theorem gv_I0 {F : Int → Int → V} {k : Rp γ} (h : ∀ G, k.rel G (F i j) z) : Gives (rI0 F) rInt i rInt j k z := fun G H a b e h1 h2 Q q => ⟨i, j, h1, h2, q _ G H (.refl e) (h G)⟩
theorem gv_I {C : Int → Int → Prop} {F : Int → Int → V} {k : Rp γ} (c : C i j) (h : ∀ G, k.rel G (F i j) z) : Gives (rI C F) rInt i rInt j k z := fun G H a b e h1 h2 Q q => ⟨i, j, h1, h2, c, q _ G H (.refl e) (h G)⟩
theorem ev_add (ha : Ev X Γ e rInt i) (hb : Ev X Γ f rInt j) : Ev X Γ (.BinOp e .Add f pos) rInt (i + j) := ev_bin op_add ha hb (gv_I0 fun _ => rfl)
theorem ev_sub (ha : Ev X Γ e rInt i) (hb : Ev X Γ f rInt j) : Ev X Γ (.BinOp e .Sub f pos) rInt (i - j) := ev_bin op_sub ha hb (gv_I0 fun _ => rfl)
/-- a product: the left | the right one is small -/
theorem ev_mulL (hc : -(2 ^ 64) < i ∧ i < 2 ^ 64) (ha : Ev X Γ e rInt i) (hb : Ev X Γ f rInt j) : Ev X Γ (.BinOp e .Mult f pos) rInt (i * j) := ev_bin op_mul ha hb (gv_I (.inl hc) fun _ => rfl)
theorem ev_mulR (hc : -(2 ^ 64) < j ∧ j < 2 ^ 64) (ha : Ev X Γ e rInt i) (hb : Ev X Γ f rInt j) : Ev X Γ (.BinOp e .Mult f pos) rInt (i * j) := ev_bin op_mul ha hb (gv_I (.inr hc) fun _ => rfl)
theorem ev_mulW (hc : CMulW i j) (ha : Ev X Γ e rInt i) (hb : Ev X Γ f rInt j) : Ev X Γ (.BinOp e .Mult f pos) rInt (i * j) := ev_bin op_mulW ha hb (gv_I hc fun _ => rfl)
theorem ev_div (hc : 0 < j ∧ j < 1073741824) (ha : Ev X Γ e rInt i) (hb : Ev X Γ f rInt j) : Ev X Γ (.BinOp e .FloorDiv f pos) rInt (i / j) := ev_bin op_fdiv ha hb (gv_I hc fun _ => rfl)
theorem ev_divW (hc : CDivW i j) (ha : Ev X Γ e rInt i) (hb : Ev X Γ f rInt j) : Ev X Γ (.BinOp e .FloorDiv f pos) rInt (i / j) := ev_bin op_fdivW ha hb (gv_I hc fun _ => rfl)
theorem ev_mod (hc : 0 < j) (ha : Ev X Γ e rInt i) (hb : Ev X Γ f rInt j) : Ev X Γ (.BinOp e .Mod f pos) rInt (i % j) := ev_bin op_mod ha hb (gv_I hc fun _ => rfl)
theorem ev_pow (hc : CPow i j) (ha : Ev X Γ e rInt i) (hb : Ev X Γ f rInt j) : Ev X Γ (.BinOp e .Pow f pos) rInt (i ^ j.toNat) := ev_bin op_pow ha hb (gv_I hc fun _ => rfl)
theorem ev_neg (ha : Ev X Γ e rInt i) : Ev X Γ (.UnaryOp .USub e pos) rInt (-i) := fun E G H σ h Q k =>
  WE.of (pe_un un_neg WE.pe) (ha E G H σ h _ fun a G1 H1 l1 r1 => ⟨i, r1, k _ G1 H1 l1 rfl⟩)
theorem ev_cat (hl : u.length + v.length ≤ sizeLine) (ha : Ev X Γ e rStr u) (hb : Ev X Γ f rStr v) : Ev X Γ (.BinOp e .Add f pos) rStr (u ++ v) := ev_bin op_add_str ha hb fun G H a b e h1 h2 Q q => ⟨u, v, h1, h2, hl, q _ G H (.refl e) rfl⟩
/-- comparisons of ints -/
theorem ev_lt (ha : Ev X Γ e rInt i) (hb : Ev X Γ f rInt j) : Ev X Γ (.Compare e [.Lt] [f] pos) rBool (decide (i < j)) := ev_cmpR op_lt ha hb (gv_I0 fun _ => rfl)
theorem ev_le (ha : Ev X Γ e rInt i) (hb : Ev X Γ f rInt j) : Ev X Γ (.Compare e [.LtE] [f] pos) rBool (decide (i ≤ j)) := ev_cmpR op_le ha hb (gv_I0 fun _ => rfl)
theorem ev_gt (ha : Ev X Γ e rInt i) (hb : Ev X Γ f rInt j) : Ev X Γ (.Compare e [.Gt] [f] pos) rBool (decide (j < i)) := ev_cmpR op_gt ha hb (gv_I0 fun _ => rfl)
theorem ev_ge (ha : Ev X Γ e rInt i) (hb : Ev X Γ f rInt j) : Ev X Γ (.Compare e [.GtE] [f] pos) rBool (decide (j ≤ i)) := ev_cmpR op_ge ha hb (gv_I0 fun _ => rfl)
theorem et_lt (ha : Ev X Γ e rInt i) (hb : Ev X Γ f rInt j) : EvT X Γ (.Compare e [.Lt] [f] pos) (decide (i < j)) := et_cmpR op_lt ha hb (gv_I0 fun _ => rfl)
theorem et_le (ha : Ev X Γ e rInt i) (hb : Ev X Γ f rInt j) : EvT X Γ (.Compare e [.LtE] [f] pos) (decide (i ≤ j)) := et_cmpR op_le ha hb (gv_I0 fun _ => rfl)
theorem et_gt (ha : Ev X Γ e rInt i) (hb : Ev X Γ f rInt j) : EvT X Γ (.Compare e [.Gt] [f] pos) (decide (j < i)) := et_cmpR op_gt ha hb (gv_I0 fun _ => rfl)
theorem et_ge (ha : Ev X Γ e rInt i) (hb : Ev X Γ f rInt j) : EvT X Γ (.Compare e [.GtE] [f] pos) (decide (j ≤ i)) := et_cmpR op_ge ha hb (gv_I0 fun _ => rfl)
/-- == of flat things -/
theorem gv_eqI : Gives rEq rInt i rInt j rBool (decide (i = j)) := fun G H a b e h1 h2 Q q => by
  cases h1; cases h2
  refine ⟨rfl, q _ G H (.refl e) ?_⟩
  show V.bl _ = V.bl _
  congr 1
  exact decide_eq_decide.mpr (by constructor <;> (intro h; first | (cases h; rfl) | (rw [h])))
theorem gv_neI : Gives rNe rInt i rInt j rBool (!decide (i = j)) := fun G H a b e h1 h2 Q q => by
  cases h1; cases h2
  refine ⟨rfl, q _ G H (.refl e) ?_⟩
  show V.bl _ = V.bl _
  congr 2
  exact decide_eq_decide.mpr (by constructor <;> (intro h; first | (cases h; rfl) | (rw [h])))
theorem gv_eqS : Gives rEq rStr u rStr v rBool (decide (u = v)) := fun G H a b e h1 h2 Q q => by
  cases h1; cases h2
  refine ⟨rfl, q _ G H (.refl e) ?_⟩
  show V.bl _ = V.bl _
  congr 1
  exact decide_eq_decide.mpr (by constructor <;> (intro h; first | (cases h; rfl) | (rw [h])))
theorem gv_neS : Gives rNe rStr u rStr v rBool (!decide (u = v)) := fun G H a b e h1 h2 Q q => by
  cases h1; cases h2
  refine ⟨rfl, q _ G H (.refl e) ?_⟩
  show V.bl _ = V.bl _
  congr 2
  exact decide_eq_decide.mpr (by constructor <;> (intro h; first | (cases h; rfl) | (rw [h])))
theorem gv_eqB : Gives rEq rBool p rBool q rBool (p == q) := fun G H a b e h1 h2 Q k => by
  cases h1; cases h2
  refine ⟨rfl, k _ G H (.refl e) ?_⟩
  cases p <;> cases q <;> rfl
theorem gv_neB : Gives rNe rBool p rBool q rBool (p != q) := fun G H a b e h1 h2 Q k => by
  cases h1; cases h2
  refine ⟨rfl, k _ G H (.refl e) ?_⟩
  cases p <;> cases q <;> rfl
theorem ev_eqI (ha : Ev X Γ e rInt i) (hb : Ev X Γ f rInt j) : Ev X Γ (.Compare e [.Eq] [f] pos) rBool (decide (i = j)) := ev_cmpR op_eq ha hb gv_eqI
theorem ev_neI (ha : Ev X Γ e rInt i) (hb : Ev X Γ f rInt j) : Ev X Γ (.Compare e [.NotEq] [f] pos) rBool (!decide (i = j)) := ev_cmpR op_ne ha hb gv_neI
theorem et_eqI (ha : Ev X Γ e rInt i) (hb : Ev X Γ f rInt j) : EvT X Γ (.Compare e [.Eq] [f] pos) (decide (i = j)) := et_cmpR op_eq ha hb gv_eqI
theorem et_neI (ha : Ev X Γ e rInt i) (hb : Ev X Γ f rInt j) : EvT X Γ (.Compare e [.NotEq] [f] pos) (!decide (i = j)) := et_cmpR op_ne ha hb gv_neI
theorem ev_eqS (ha : Ev X Γ e rStr u) (hb : Ev X Γ f rStr v) : Ev X Γ (.Compare e [.Eq] [f] pos) rBool (decide (u = v)) := ev_cmpR op_eq ha hb gv_eqS
theorem ev_neS (ha : Ev X Γ e rStr u) (hb : Ev X Γ f rStr v) : Ev X Γ (.Compare e [.NotEq] [f] pos) rBool (!decide (u = v)) := ev_cmpR op_ne ha hb gv_neS
theorem et_eqS (ha : Ev X Γ e rStr u) (hb : Ev X Γ f rStr v) : EvT X Γ (.Compare e [.Eq] [f] pos) (decide (u = v)) := et_cmpR op_eq ha hb gv_eqS
theorem et_neS (ha : Ev X Γ e rStr u) (hb : Ev X Γ f rStr v) : EvT X Γ (.Compare e [.NotEq] [f] pos) (!decide (u = v)) := et_cmpR op_ne ha hb gv_neS
theorem ev_eqB (ha : Ev X Γ e rBool p) (hb : Ev X Γ f rBool q) : Ev X Γ (.Compare e [.Eq] [f] pos) rBool (p == q) := ev_cmpR op_eq ha hb gv_eqB
theorem ev_neB (ha : Ev X Γ e rBool p) (hb : Ev X Γ f rBool q) : Ev X Γ (.Compare e [.NotEq] [f] pos) rBool (p != q) := ev_cmpR op_ne ha hb gv_neB
theorem et_eqB (ha : Ev X Γ e rBool p) (hb : Ev X Γ f rBool q) : EvT X Γ (.Compare e [.Eq] [f] pos) (p == q) := et_cmpR op_eq ha hb gv_eqB
theorem et_neB (ha : Ev X Γ e rBool p) (hb : Ev X Γ f rBool q) : EvT X Γ (.Compare e [.NotEq] [f] pos) (p != q) := et_cmpR op_ne ha hb gv_neB
/-- two comparisons in a chain -/
theorem ev_chain {op op' : CmpOp} {ρ ρ' : R2} (ho : OpR X (compareOp op) ρ) (ho' : OpR X (compareOp op') ρ') (ha : Ev X Γ e r x) (hb : Ev X Γ f s y) (hc : p = true → Ev X Γ g t z) (h1 : Gives ρ r x s y rBool p) (h2 : p = true → Gives ρ' s y t z rBool q)
    (hm : lastMarks [op, op'] [f, g] = false := by with_unfolding_all rfl) : Ev X Γ (.Compare e [op, op'] [f, g] pos) rBool (p && q) := fun E G H σ h Q k =>
  WE.of (pe_chain ho ho' WE.pe WE.pe WE.pe hm) (ha E G H σ h _ fun a G1 H1 l1 r1 => hb E G1 H1 σ (h.step l1) _ fun b G2 H2 l2 r2 => h1 G2 H2 a b l2.gh (r.mono l2.g r1) r2 _ fun c G3 H3 l3 r3 => ⟨p, r3, by
    have l := (l1.trans l2).trans l3
    cases p with
    | false =>
      rw [if_neg Bool.false_ne_true]
      exact k _ G3 H3 l rfl
    | true =>
      rw [if_pos rfl]
      exact hc rfl E G3 H3 σ (h.step l) _ fun d G4 H4 l4 r4 => h2 rfl G4 H4 b d l4.gh (s.mono (l3.trans l4).g r2) r4 Q fun c G5 H5 l5 r5 => k c G5 H5 ((l.trans l4).trans l5) r5⟩)
theorem et_chain {op op' : CmpOp} {ρ ρ' : R2} (ho : OpR X (compareOp op) ρ) (ho' : OpR X (compareOp op') ρ') (ha : Ev X Γ e r x) (hb : Ev X Γ f s y) (hc : p = true → Ev X Γ g t z) (h1 : Gives ρ r x s y rBool p) (h2 : p = true → Gives ρ' s y t z rBool q)
    (hm : lastMarks [op, op'] [f, g] = false := by with_unfolding_all rfl) : EvT X Γ (.Compare e [op, op'] [f, g] pos) (p && q) := fun E G H σ h Q k =>
  WT.of (pt_chain ho ho' WE.pe WE.pe WE.pe hm) (ha E G H σ h _ fun a G1 H1 l1 r1 => hb E G1 H1 σ (h.step l1) _ fun b G2 H2 l2 r2 => h1 G2 H2 a b l2.gh (r.mono l2.g r1) r2 _ fun c G3 H3 l3 r3 => ⟨p, r3, by
    have l := (l1.trans l2).trans l3
    cases p with
    | false =>
      rw [if_neg Bool.false_ne_true]
      exact ⟨false, rfl, k G3 H3 l⟩
    | true =>
      rw [if_pos rfl]
      exact hc rfl E G3 H3 σ (h.step l) _ fun d G4 H4 l4 r4 => h2 rfl G4 H4 b d l4.gh (s.mono (l3.trans l4).g r2) r4 _ fun c G5 H5 l5 r5 => ⟨q, r5, k G5 H5 ((l.trans l4).trans l5)⟩⟩)
theorem gv_lt : Gives (rI0 fun i j => .bl (decide (i < j))) rInt i rInt j rBool (decide (i < j)) := gv_I0 fun _ => rfl
theorem gv_le : Gives (rI0 fun i j => .bl (decide (i ≤ j))) rInt i rInt j rBool (decide (i ≤ j)) := gv_I0 fun _ => rfl
theorem gv_gt : Gives (rI0 fun i j => .bl (decide (j < i))) rInt i rInt j rBool (decide (j < i)) := gv_I0 fun _ => rfl
theorem gv_ge : Gives (rI0 fun i j => .bl (decide (j ≤ i))) rInt i rInt j rBool (decide (j ≤ i)) := gv_I0 fun _ => rfl

/-! ### tests, and, or, not -/
theorem et_val (h : Ev X Γ e rBool p) (he : ∀ whole, isTrue e X.env whole = (do let v ← whole; standAt e.pos; holding [v] (truthy v)) := by intro _; rfl) : EvT X Γ e p := fun E G H σ hh Q k =>
  WT.of (pt_val WE.pe he) (h E G H σ hh _ fun a G1 H1 l1 r1 => ⟨p, r1, k G1 H1 l1⟩)
theorem et_not (h : EvT X Γ e p) : EvT X Γ (.UnaryOp .Not e pos) (!p) := fun E G H σ hh Q k => WT.of (pt_not WT.pt) (h E G H σ hh _ fun G1 H1 l1 => k G1 H1 l1)
theorem ev_not (h : Ev X Γ e rBool p) : Ev X Γ (.UnaryOp .Not e pos) rBool (!p) := fun E G H σ hh Q k => WE.of (pe_not WE.pe) (h E G H σ hh _ fun a G1 H1 l1 r1 => ⟨p, r1, k _ G1 H1 l1 rfl⟩)
theorem et_bool (h : EvW X Γ e p) : EvT X Γ e p := fun E G H σ hh Q k => WT.of WW.pw.pt (h E G H σ hh Q k)
theorem ew_and1 (h : EvT X Γ e p) : EvW X Γ (.BoolOp .And [e] pos) p := fun E G H σ hh Q k => WW.of (pw_and1 WT.pt) (h E G H σ hh Q k)
theorem ew_or1 (h : EvT X Γ e p) : EvW X Γ (.BoolOp .Or [e] pos) p := fun E G H σ hh Q k => WW.of (pw_or1 WT.pt) (h E G H σ hh Q k)
theorem ew_and (h : EvT X Γ e p) (h2 : p = true → EvW X Γ (.BoolOp .And (f :: es) pos) q) : EvW X Γ (.BoolOp .And (e :: f :: es) pos) (p && q) := fun E G H σ hh Q k => WW.of (pw_and WT.pt WW.pw) (h E G H σ hh _ fun G1 H1 l1 => by
  cases p with
  | false =>
    rw [if_neg Bool.false_ne_true]
    exact k G1 H1 l1
  | true =>
    rw [if_pos rfl]
    exact h2 rfl E G1 H1 σ (hh.step l1) Q fun G2 H2 l2 => k G2 H2 (l1.trans l2))
theorem ew_or (h : EvT X Γ e p) (h2 : p = false → EvW X Γ (.BoolOp .Or (f :: es) pos) q) : EvW X Γ (.BoolOp .Or (e :: f :: es) pos) (p || q) := fun E G H σ hh Q k => WW.of (pw_or WT.pt WW.pw) (h E G H σ hh _ fun G1 H1 l1 => by
  cases p with
  | true =>
    rw [if_pos rfl]
    exact k G1 H1 l1
  | false =>
    rw [if_neg Bool.false_ne_true]
    exact h2 rfl E G1 H1 σ (hh.step l1) Q fun G2 H2 l2 => k G2 H2 (l1.trans l2))
theorem ev_one {op : BoolOp} (h : Ev X Γ e r x) : Ev X Γ (.BoolOp op [e] pos) r x := fun E G H σ hh Q k => WE.of (pe_one WE.pe) (h E G H σ hh Q k)
theorem ev_and (h : Ev X Γ e rBool p) (h2 : p = true → Ev X Γ (.BoolOp .And (f :: es) pos) rBool q) : Ev X Γ (.BoolOp .And (e :: f :: es) pos) rBool (p && q) := fun E G H σ hh Q k => WE.of (pe_and WE.pe WE.pe) (h E G H σ hh _ fun a G1 H1 l1 r1 => ⟨p, r1, by
  cases p with
  | false =>
    rw [if_neg Bool.false_ne_true]
    exact k _ G1 H1 l1 rfl
  | true =>
    rw [if_pos rfl]
    exact h2 rfl E G1 H1 σ (hh.step l1) Q fun a G2 H2 l2 r2 => k a G2 H2 (l1.trans l2) r2⟩)
theorem ev_or (h : Ev X Γ e rBool p) (h2 : p = false → Ev X Γ (.BoolOp .Or (f :: es) pos) rBool q) : Ev X Γ (.BoolOp .Or (e :: f :: es) pos) rBool (p || q) := fun E G H σ hh Q k => WE.of (pe_or WE.pe WE.pe) (h E G H σ hh _ fun a G1 H1 l1 r1 => ⟨p, r1, by
  cases p with
  | true =>
    rw [if_pos rfl]
    exact k _ G1 H1 l1 rfl
  | false =>
    rw [if_neg Bool.false_ne_true]
    exact h2 rfl E G1 H1 σ (hh.step l1) Q fun a G2 H2 l2 r2 => k a G2 H2 (l1.trans l2) r2⟩)
theorem ev_ifE {x' : α} (h : EvT X Γ e p) (h1 : p = true → Ev X Γ f r x) (h2 : p = false → Ev X Γ g r x') : Ev X Γ (.IfExp e f g pos) r (if p = true then x else x') := fun E G H σ hh Q k => WE.of (pe_ifExp WT.pt WE.pe WE.pe) (h E G H σ hh _ fun G1 H1 l1 => by
  cases p with
  | true =>
    rw [if_pos rfl] at k ⊢
    exact h1 rfl E G1 H1 σ (hh.step l1) Q fun a G2 H2 l2 r2 => k a G2 H2 (l1.trans l2) r2
  | false =>
    rw [if_neg Bool.false_ne_true] at k ⊢
    exact h2 rfl E G1 H1 σ (hh.step l1) Q fun a G2 H2 l2 r2 => k a G2 H2 (l1.trans l2) r2)
/-- an arm that is taken for sure -/
theorem ev_ifT (h : EvT X Γ e true) (h1 : Ev X Γ f r x) : Ev X Γ (.IfExp e f g pos) r x := (ev_ifE (x' := x) (g := g) h (fun _ => h1) (fun q => by cases q)).eq (if_pos rfl)
theorem ev_ifF (h : EvT X Γ e false) (h1 : Ev X Γ g r x) : Ev X Γ (.IfExp e f g pos) r x := (ev_ifE (x := x) (f := f) h (fun q => by cases q) (fun _ => h1)).eq (if_neg Bool.false_ne_true)
end
end Hf

namespace Hf
open PySem PySem.Spec PyProof.Rows L2

/-! ### blocks of statements -/
/-- from any state that these slots tell, the block leads where D wants -/
def Bk (X : Cx) (E : Ent) (Γ : List Slot) (sts : List Stmt) (D : Ends) : Prop := ∀ (G H : Hp) (σ : L2.St), Holds E G H σ Γ → WB X sts σ H D
/-- some state that these slots tell -/
def At (E : Ent) (Γ : List Slot) (σ : L2.St) (H : Hp) : Prop := ∃ G, Holds E G H σ Γ
/-- what comes behind a block -/
abbrev thenD (X : Cx) (rest : List Stmt) (D : Ends) : Ends := { D with nx := fun σ H => WB X rest σ H D }
/-- an answer is told -/
def RetOk (E : Ent) (D : Ends) {α : Type} (r : Rp α) (a : α) : Prop := ∀ v G H, LeE E.G E.H E.M G H → r.rel G v a → D.rt v H
/-- an answer that is a new object -/
def RetO (E : Ent) (D : Ends) (c : Oc) : Prop := ∀ p o G H, LeE E.G E.H E.M G H → G p = none → E.H p = none → H p = some o → c.rel G o → D.rt (.ref p) H
section
variable {X : Cx} {E : Ent} {Γ Γ' : List Slot} {D : Ends} {e f g : Expr} {es : List Expr} {st : Stmt} {rest body : List Stmt} {pos : Pos} {α β γ : Type} {r : Rp α} {x : α} {s : Rp β} {y : β} {t : Rp γ} {z : γ}
theorem RetOk.eq {x' : α} (h : RetOk E D r x) (q : x = x') : RetOk E D r x' := q ▸ h
theorem bk_end (h : ∀ G H σ, Holds E G H σ Γ → D.nx σ H) : Bk X E Γ [] D := fun G H σ hh => WB.of pss_nil (h G H σ hh)
/-- the end of an inner block: on with what follows -/
theorem bk_then (h : Bk X E Γ rest D) : Bk X E Γ [] (thenD X rest D) := bk_end h
theorem bk_at (h : ∀ σ H, At E Γ σ H → D.nx σ H) : Bk X E Γ [] D := bk_end fun G H σ hh => h σ H ⟨G, hh⟩
theorem bk_of {t : TS} (p : PS X st t) (h : ∀ G H σ, Holds E G H σ Γ → t (thenD X rest D) σ H) : Bk X E Γ (st :: rest) D := fun G H σ hh => WB.of (pss_cons p WB.pss) (h G H σ hh)
theorem bk_weak (h : Bk X E Γ' rest D) (l : Γ'.length = Γ.length) (w : ∀ (i : Nat) (s : Slot), Γ'[i]? = some s → s = .no ∨ Γ[i]? = some s) : Bk X E Γ rest D := fun G H σ hh => h G H σ (hh.weak l w)
/-- x = e -/
theorem bk_set (i : Nat) {a : Str} {p : Pos} (nd : X.N.Nodup) (he : Ev X Γ e r x) (k : Bk X E (Γ.set i (.sh r x)) rest D) (hi : X.N[i]? = some a := by rfl) (hx : Loc X.env.scope a := by first | exact Or.inl rfl | exact Or.inr rfl)
    (hs : swapsWith e (some (.Name a p)) pos.line X.env = pure false := by rfl) (hf : X.fn a = true ∨ X.env.scope.names.lookup a = some .local := by first | exact .inl rfl | exact .inr rfl) : Bk X E Γ (.Assign [.Name a p] e pos :: rest) D :=
  bk_of (ps_set nd hi hx WE.pe hs hf) fun G H σ hh => he E G H σ hh _ fun v G1 H1 l1 r1 => k G1 H1 _ ((hh.step l1).set_sh r1)
/-- x = e, e a new object that will change -/
theorem bk_setO (i : Nat) {a : Str} {p : Pos} {c : Oc} (nd : X.N.Nodup) (he : EvO X Γ e c) (k : Bk X E (Γ.set i (.ow c)) rest D) (hi : X.N[i]? = some a := by rfl) (hx : Loc X.env.scope a := by first | exact Or.inl rfl | exact Or.inr rfl)
    (hs : swapsWith e (some (.Name a p)) pos.line X.env = pure false := by rfl) (hf : X.fn a = true ∨ X.env.scope.names.lookup a = some .local := by first | exact .inl rfl | exact .inr rfl) : Bk X E Γ (.Assign [.Name a p] e pos :: rest) D :=
  bk_of (ps_set nd hi hx WE.pe hs hf) fun G H σ hh => he E G H σ hh _ fun q o G1 H1 n l1 g1 h1 c1 => k G1 H1 _ (hh.set_ow l1 n g1 h1 c1)
theorem bk_ret (he : Ev X Γ e r x) (k : RetOk E D r x) : Bk X E Γ (.Return (some e) pos :: rest) D :=
  bk_of (ps_ret WE.pe) fun G H σ hh => he E G H σ hh _ fun v G1 H1 l1 r1 => k v G1 H1 (hh.step l1).le r1
theorem bk_retO {c : Oc} (he : EvO X Γ e c) (k : RetO E D c) : Bk X E Γ (.Return (some e) pos :: rest) D :=
  bk_of (ps_ret WE.pe) fun G H σ hh => he E G H σ hh _ fun q o G1 H1 n l1 g1 h1 c1 => k q o G1 H1 (hh.step l1).le g1 (hh.le.fresh n) h1 c1
/-- a list of one's own is handed back -/
theorem bk_retv (i : Nat) {a : Str} {c : Oc} {p : Pos} (k : RetO E D c) (hg : Γ[i]? = some (.ow c) := by rfl) (hN : X.N[i]? = some a := by rfl) (hv : Vis X.env.scope a := by first | exact Or.inl rfl | exact Or.inr (Or.inl rfl) | exact Or.inr (Or.inr rfl))
    (hd : (a == ("__debug__" : Str)) = false := by decide) (hcd : (a == ("__classdict__" : Str)) = false := by decide) : Bk X E Γ (.Return (some (.Name a p)) pos :: rest) D :=
  bk_of (ps_ret (pe_var hN hv hd hcd)) fun G H σ hh => by
    obtain ⟨q, o, h1, h2, h3, h4, h5⟩ := hh.ow hg
    exact ⟨_, h1, k q o G H hh.le h2 h3 h4 h5⟩
theorem bk_if {c : Expr} {A B : List Stmt} {p : Bool} (hc : EvT X Γ c p) (ha : p = true → Bk X E Γ A (thenD X rest D)) (hb : p = false → Bk X E Γ B (thenD X rest D)) : Bk X E Γ (.If c A B pos :: rest) D :=
  bk_of (ps_if WT.pt WB.pss WB.pss) fun G H σ hh => hc E G H σ hh _ fun G1 H1 l1 => by
    cases p with
    | true =>
      rw [if_pos rfl]
      exact ha rfl G1 H1 σ (hh.step l1)
    | false =>
      rw [if_neg Bool.false_ne_true]
      exact hb rfl G1 H1 σ (hh.step l1)
theorem bk_expr (he : Ev X Γ e r x) (k : Bk X E Γ rest D) (hs : swapsWith e none pos.line X.env = pure false := by rfl) : Bk X E Γ (.Expr e pos :: rest) D :=
  bk_of (ps_expr WE.pe hs) fun G H σ hh => he E G H σ hh _ fun v G1 H1 l1 r1 => k G1 H1 _ (hh.step l1)
/-- x, y = a, b -/
theorem bk_par (i j : Nat) {a b : Str} {e1 e2 : Expr} {px py pt : Pos} {kt k2 : Nat} {pt2 : Pos} (nd : X.N.Nodup) (h1 : Ev X Γ e1 r x) (h2 : Ev X Γ e2 s y) (k : Bk X E ((Γ.set i (.sh r x)).set j (.sh s y)) rest D) (hc : X.calm = true := by rfl) (hi : X.N[i]? = some a := by rfl) (hj : X.N[j]? = some b := by rfl) (hij : i ≠ j := by decide)
    (hx : X.env.scope.names.lookup a = some .local := by rfl) (hy : X.env.scope.names.lookup b = some .local := by rfl) (hs1 : starEach (e1 :: [e2]) X.env = (false, eval e1 X.env) :: starEach [e2] X.env := by rfl) (hs2 : starEach (e2 :: []) X.env = (false, eval e2 X.env) :: starEach [] X.env := by rfl)
    (hw : swappedStores [.Tuple [.Name a px, .Name b py] kt pt] (.Tuple [e1, e2] k2 pt2) X.env = pure (some [a, b]) := by rfl)
    (hs : swapsWithSole [.Tuple [.Name a px, .Name b py] kt pt] (.Tuple [e1, e2] k2 pt2) pos.line X.env = pure false := by rfl) : Bk X E Γ (.Assign [.Tuple [.Name a px, .Name b py] kt pt] (.Tuple [e1, e2] k2 pt2) pos :: rest) D :=
  bk_of (ps_par hc nd hi hj hij hx hy (pa_cons WE.pe (pa_cons WE.pe pa_nil hs2) hs1) hw hs) fun G H σ hh => h1 E G H σ hh _ fun v G1 H1 l1 r1 => h2 E G1 H1 σ (hh.step l1) _ fun w G2 H2 l2 r2 =>
    ⟨v, w, rfl, k G2 H2 _ ((((hh.step l1).step l2).set_sh (r.mono l2.g r1)).set_sh r2)⟩

/-! ### where a value is stored -/
/-- alike but at these places -/
def SameBut (vs : List Nat) (σ σ' : L2.St) : Prop := σ'.length = σ.length ∧ ∀ i, i ∉ vs → σ'[i]? = σ[i]?
theorem SameBut.set {i : Nat} {x : Option V} {σ : L2.St} : SameBut [i] σ (σ.set i x) := ⟨by rw [List.length_set], fun j hj => by
  rw [List.getElem?_set_ne]
  intro e
  exact hj (by simp [e])⟩
theorem SameBut.trans {vs ws : List Nat} {σ σ' σ'' : L2.St} (a : SameBut vs σ σ') (b : SameBut ws σ' σ'') : SameBut (vs ++ ws) σ σ'' := ⟨b.1.trans a.1, fun i hi => by
  rw [List.mem_append, not_or] at hi
  rw [b.2 i hi.2, a.2 i hi.1]⟩
/-- a store by a rule -/
structure WG (X : Cx) (tg : Expr) (v : V) (σ : L2.St) (H : Hp) (Q : L2.St → Hp → Prop) : Prop where
  run : ∀ (pins : List (Addr × Obj)) (s : Shared) (u : Value), Inv X pins σ H s → RelV v u → wpAny (model X.prog X.w) X.A (assign tg X.env u) (fun _ s' => ∃ σ' H', Inv X pins σ' H' s' ∧ Q σ' H') X.xe s
theorem WG.pg {X : Cx} {tg : Expr} : PG X tg (WG X tg) := ⟨fun pins s σ H v u Q I r h => h.run pins s u I r⟩
theorem WG.of {X : Cx} {tg : Expr} {t : TG} {v : V} {σ : L2.St} {H : Hp} {Q : L2.St → Hp → Prop} (p : PG X tg t) (h : t v σ H Q) : WG X tg v σ H Q := ⟨fun pins s u I r => p.run pins s σ H v u Q I r h⟩
def TgOk (X : Cx) (tg : Expr) (r : Rp α) (U : α → List Slot → List Slot) (vs : List Nat) : Prop := ∀ (E : Ent) (G H : Hp) (σ : L2.St) (Γ : List Slot) (v : V) (a : α), Holds E G H σ Γ → r.rel G v a → ∀ Q : L2.St → Hp → Prop, (∀ σ', SameBut vs σ σ' → Holds E G H σ' (U a Γ) → Q σ' H) → WG X tg v σ H Q
theorem tg_name (i : Nat) {a : Str} (nd : X.N.Nodup) (hi : X.N[i]? = some a := by rfl) (hx : Loc X.env.scope a := by first | exact Or.inl rfl | exact Or.inr rfl) (hf : X.fn a = true ∨ X.env.scope.names.lookup a = some .local := by first | exact .inl rfl | exact .inr rfl) :
    TgOk X (.Name a pos) r (fun a Γ => Γ.set i (.sh r a)) [i] := fun E G H σ Γ v a hh hv Q q => WG.of (pg_name nd hi hx hf) (q _ .set (hh.set_sh hv))
theorem tg_tup2 {t1 t2 : Expr} {n : Nat} {U : α → List Slot → List Slot} {W : β → List Slot → List Slot} {vs ws : List Nat} (h1 : TgOk X t1 r U vs) (h2 : TgOk X t2 s W ws) (hc : X.calm = true := by rfl) (hs1 : (assignEach (t1 :: [t2]) X.env).map (·.2) = assign t1 X.env :: (assignEach [t2] X.env).map (·.2) := by rfl)
    (hs2 : (assignEach (t2 :: []) X.env).map (·.2) = assign t2 X.env :: (assignEach [] X.env).map (·.2) := by rfl) (hn : (assignEach [t1, t2] X.env).length = 2 := by rfl) (hst : (assignEach [t1, t2] X.env).findIdx? (·.1) = none := by rfl) :
    TgOk X (.Tuple [t1, t2] n pos) (rT2 X.K r s) (fun a Γ => W a.2 (U a.1 Γ)) (vs ++ ws) := fun E G H σ Γ v a hh hv Q q => by
  obtain ⟨p, v1, v2, e, hp, q1, q2⟩ := hv
  subst e
  refine WG.of (pg_tup hc (pgs_cons (t := WG X t1) WG.pg (pgs_cons (t := WG X t2) WG.pg pgs_nil hs2) hs1) hn hst) ⟨p, [v1, v2], rfl, Evl.ex_t hh.le.gh hp, rfl, v1, [v2], rfl, ?_⟩
  exact h1 E G H σ Γ v1 a.1 hh q1 _ fun σ1 b1 hh1 => ⟨v2, [], rfl, h2 E G H σ1 _ v2 a.2 hh1 q2 _ fun σ2 b2 hh2 => ⟨rfl, q σ2 (b1.trans b2) hh2⟩⟩

/-! ### what is walked -/
/-- the items that an iterator gives, one behind another, whatever else is done meanwhile -/
def ItOk (J : It) (G0 : Hp) (r : Rp α) (xs : List α) : Prop := ∀ (i : Nat) (G H : Hp), Ex G0 G → Ex G H →
  (∀ a, xs[i]? = some a → J.go i H ∧ ∀ x H', J.yld i H x H' → ∃ G', Le G H G' H' ∧ r.rel G' x a) ∧ (xs.length ≤ i → J.stop i H)
def EvI (X : Cx) (Γ : List Slot) (tg iter : Expr) (r : Rp α) (xs : List α) : Prop := ∃ wi : TI, PI X tg iter wi ∧ ∀ (E : Ent) (G H : Hp) (σ : L2.St), Holds E G H σ Γ → ∀ R : It → Hp → Prop, (∀ J G' H', Le G H G' H' → ItOk J G' r xs → R J H') → wi σ H R
theorem ei_seq {tg : Expr} {xs : List α} (h : Ev X Γ e (rSeq X.K r) xs) : EvI X Γ tg e r xs := ⟨_, pi_list WE.pe, fun E G H σ hh R q => h E G H σ hh _ fun v G1 H1 l1 ⟨p, vs, e1, hp, ha⟩ =>
  ⟨p, e1, ⟨vs, Evl.ex_l l1.gh hp⟩, q _ G1 H1 l1 fun i G2 H2 g1 g2 => ⟨fun a ea => by
    obtain ⟨v, ev, rv⟩ := ha.get ea
    have hp2 := Evl.ex_l (g1.trans g2) hp
    exact ⟨⟨vs, v, hp2, ev⟩, fun x H' y => by
      obtain ⟨e3, y2⟩ := y
      have e4 := y2 vs hp2
      rw [ev] at e4
      cases e4
      rw [e3]
      exact ⟨G2, .refl g2, r.mono g1 rv⟩⟩, fun le => ⟨vs, Evl.ex_l (g1.trans g2) hp, by rw [ha.length]; exact le⟩⟩⟩⟩
theorem Ev.seq {xs : List α} (h : Ev X Γ e (rLst r) xs) : Ev X Γ e (rSeq X.K r) xs := fun E G H σ hh Q q => h E G H σ hh Q fun v G1 H1 l1 ⟨p, vs, e1, hp, ha⟩ => q v G1 H1 l1 ⟨p, vs, e1, .inl (.inl hp), ha⟩
theorem ei_lst {tg : Expr} {xs : List α} (h : Ev X Γ e (rLst r) xs) : EvI X Γ tg e r xs := ei_seq h.seq
/-- range(n) -/
def rangeL (lo : Int) (n : Nat) : List Int := (List.range n).map fun i : Nat => lo + (i : Int)
theorem ei_range1 {tg : Expr} {p : Pos} {n : Int} (h : Ev X Γ e rInt n) (hn : -(2 ^ 62) ≤ n ∧ n < 2 ^ 62) (hm : X.mg "range" = none) (hg : Gl X "range" := by rfl) (hs : starEach [e] X.env = [(false, eval e X.env)] := by rfl) (hs2 : starEach (e :: []) X.env = (false, eval e X.env) :: starEach [] X.env := by rfl) :
    EvI X Γ tg (.Call (.Name "range" p) [e] [] pos) rInt (rangeL 0 n.toNat) := ⟨_, pi_range1 hg hm (pa_cons WE.pe pa_nil hs2) hs, fun E G H σ hh R q => h E G H σ hh _ fun v G1 H1 l1 r1 => by
  refine ⟨n, by rw [show v = _ from r1], hn.1, hn.2, q _ G1 H1 l1 fun i G2 H2 g1 g2 => ⟨fun a ea => ?_, fun le => ?_⟩⟩
  · have lt : i < n.toNat := by
      have z := (List.getElem?_eq_some_iff.mp ea).1
      simpa [rangeL] using z
    refine ⟨lt, fun x H' y => ?_⟩
    obtain ⟨e1, e2⟩ := y
    subst e1
    refine ⟨G2, .refl g2, ?_⟩
    have : a = 0 + (i : Int) := by
      rw [rangeL, List.getElem?_map, List.getElem?_range lt] at ea
      exact (Option.some.inj ea).symm
    rw [e2, this]
    rfl
  · have z : (rangeL 0 n.toNat).length = n.toNat := by simp [rangeL]
    rw [z] at le
    exact le⟩

/-! ### for -/
/-- for: I tells what holds of the data that the turns change, mk the slots -/
theorem bk_for {S : Type} {tg : Expr} {U : α → List Slot → List Slot} {vs : List Nat} {xs : List α} (mk : S → List Slot) (I : Nat → S → Prop) (s0 : S) (hp : PassesOwn (model X.prog X.w) X.A X.env X.xe) (hi : EvI X Γ tg e r xs) (ht : TgOk X tg r U vs)
    (h0 : I 0 s0) (hΓ : ∀ G H σ, Holds E G H σ Γ → Holds E G H σ (mk s0))
    (step : ∀ F i s a, xs[i]? = some a → I i s → Bk X { E with F := F } (U a (mk s)) body { D with nx := fun σ H => ∃ s', I (i + 1) s' ∧ At { E with F := F } (mk s') σ H, ct := fun σ H => ∃ s', I (i + 1) s' ∧ At { E with F := F } (mk s') σ H, bk := fun σ H => WB X rest σ H D })
    (done : ∀ s, I xs.length s → Bk X E (mk s) rest D) (hc : X.calm = true := by rfl) (hs : ∀ x, foldedSetIterable e X.env x = pure x := by intro _; rfl) : Bk X E Γ (.For tg e body [] pos :: rest) D := by
  obtain ⟨wi, pi, hwi⟩ := hi
  refine bk_of (ps_for hp hc pi (WG.pg (tg := tg)) WB.pss hs) fun G H σ hh => hwi E G H σ hh _ fun J G1 H1 l1 it => ?_
  refine ⟨fun i m σ H => m = xs.length - i ∧ i ≤ xs.length ∧ ∃ s G, I i s ∧ Holds { E with F := G1 } G H σ (mk s), ⟨xs.length, by simp, Nat.zero_le _, s0, G1, h0, (hΓ _ _ _ (hh.step l1)).floor (.refl _)⟩, ?_⟩
  rintro i m σ H ⟨rfl, hi, s, G2, hs, hh2⟩
  obtain ⟨go, stop⟩ := it i G2 H hh2.fl hh2.le.gh
  by_cases lt : i < xs.length
  · obtain ⟨g, y⟩ := go xs[i] (by simp [lt])
    refine .inr ⟨g, fun σ' H' => ∃ s', I (i + 1) s' ∧ At { E with F := G1 } (mk s') σ' H', fun σ' H' ⟨s', i', G', h'⟩ => ⟨xs.length - (i + 1), by omega, rfl, lt, s', G', i', h'⟩, fun x H' yy => ?_⟩
    obtain ⟨G3, l3, rx⟩ := y x H' yy
    refine ht { E with F := G1 } G3 H' σ (mk s) x _ (hh2.step l3) rx _ fun σ3 _ hh3 => ?_
    exact step G1 i s xs[i] (by simp [lt]) hs G3 H' σ3 hh3
  · have e : i = xs.length := by omega
    subst e
    exact .inl ⟨stop (Nat.le_refl _), done s hs G2 H σ (hh2.unfloor ((hh.step l1).fl.trans hh2.fl))⟩
/-- the end of a turn -/
theorem bk_next {S : Type} {mk : S → List Slot} {I : Nat → S → Prop} {i : Nat} (s' : S) (hI : I (i + 1) s') (l : (mk s').length = Γ.length) (w : ∀ (i : Nat) (s : Slot), (mk s')[i]? = some s → s = .no ∨ Γ[i]? = some s) {bk ct : L2.St → Hp → Prop} {rt : VK} :
    Bk X E Γ [] { nx := fun σ H => ∃ s', I (i + 1) s' ∧ At E (mk s') σ H, rt := rt, bk := bk, ct := ct } := bk_end fun G H σ hh => ⟨s', hI, G, hh.weak l w⟩
end
end Hf

namespace Hf
open PySem PySem.Spec PyProof.Rows L2

/-! ### what a def promises, by data -/
/-- a def that only reads: ι the data, Pre what is asked of it, args the arguments, the answer told by r -/
def PSp {ι : Type} (Pre : ι → Prop) (args : ι → List Ty) {α : Type} (r : Rp α) (res : ι → α) : Sp := fun vs H Q _ => ∃ (x : ι) (G : Hp), Pre x ∧ Ex G H ∧ Args G vs (args x) ∧ ∀ v G' H', Le G H G' H' → r.rel G' v (res x) → Q v H'
/-- the same, the answer a new object that may change -/
def OSp {ι : Type} (Pre : ι → Prop) (args : ι → List Ty) (c : ι → Oc) : Sp := fun vs H Q _ => ∃ (x : ι) (G : Hp), Pre x ∧ Ex G H ∧ Args G vs (args x) ∧ ∀ p o G' H', H p = none → Le G H G' H' → G' p = none → H' p = some o → (c x).rel G' o → Q (.ref p) H'
theorem args_length {G : Hp} : ∀ {vs : List V} {ts : List Ty}, Args G vs ts → vs.length = ts.length
  | [], [], _ => rfl
  | _ :: _, _ :: _, h => congrArg (· + 1) (args_length h.2)
/-- slots at the entry -/
def slots0 (ts : List Ty) (n : Nat) : List Slot := ts.map (fun t => Slot.sh t.r t.a) ++ List.replicate n .no
theorem args_get {G : Hp} : ∀ {vs : List V} {ts : List Ty} {i : Nat} {t : Ty}, Args G vs ts → ts[i]? = some t → ∃ v, vs[i]? = some v ∧ t.r.rel G v t.a
  | [], [], i, t, _, e => by cases e
  | _ :: _, _ :: _, 0, t, h, e => ⟨_, rfl, by cases e; exact h.1⟩
  | _ :: _, _ :: _, i + 1, t, h, e => args_get (i := i) h.2 e
theorem holds_start {G H : Hp} {N : List Str} {vs : List V} {ts : List Ty} (e : Ex G H) (a : Args G vs ts) (hn : ts.length ≤ N.length) : Holds { G := G, H := H } G H (L2.start N vs) (slots0 ts (N.length - ts.length)) := by
  have hl := args_length a
  refine ⟨.start e, (fun a o q => by cases q), ?_, fun i s q => ?_, fun i j s t q1 q2 w1 w2 => ?_⟩
  · unfold L2.start slots0
    simp only [List.length_append, List.length_map, List.length_replicate]
    omega
  · unfold slots0 at q
    by_cases lt : i < ts.length
    · rw [List.getElem?_append_left (by simpa using lt), List.getElem?_map] at q
      cases w : ts[i]? with
      | none =>
        rw [w] at q
        cases q
      | some t =>
        rw [w] at q
        cases q
        obtain ⟨v, h1, h2⟩ := args_get a w
        refine ⟨v, ?_, h2⟩
        unfold L2.start
        rw [List.getElem?_append_left (by rw [List.length_map, hl]; exact lt), List.getElem?_map, h1]
        rfl
    · rw [List.getElem?_append_right (by simpa using lt)] at q
      have z := List.mem_of_getElem? q
      rw [List.mem_replicate] at z
      rw [z.2]
      trivial
  · have none : ∀ (i : Nat) (s : Slot), (slots0 ts (N.length - ts.length))[i]? = some s → s.isOw = true → False := fun i s q w => by
      have z := List.mem_of_getElem? q
      unfold slots0 at z
      rcases List.mem_append.mp z with z | z
      · obtain ⟨t, _, e⟩ := List.mem_map.mp z
        rw [← e] at w
        cases w
      · rw [List.mem_replicate] at z
        rw [z.2] at w
        cases w
    exact (none i s q1 w1).elim

section
variable {P : Program} {w : World} {K : PySem.W.Frag} {mg : Str → Option Value} {base : Heap} {x qual : Str} {params : Arguments} {body : List Stmt} {scope : Scope} {dvs : List V} {kws : List (Str × V)} {f : Addr} {fd : FuncData}
abbrev CXL (P : Program) (w : World) : CXT := L2.CX P w
/-- a def that only reads keeps its promise -/
theorem fn_pure {N ps : List Str} {k : Nat} {ι : Type} {Pre : ι → Prop} {args : ι → List Ty} {α : Type} {r : Rp α} {res : ι → α} (F : FunD K x qual params body scope dvs kws f fd) (S : FnScope N ps scope) (hl : ∀ y, (args y).length = ps.length)
    (hb : ∀ (y : ι), Pre y → ∀ (cdv : Value) (A : Around) (outer : List Env) (s : Shared) (H : Hp) (E0 : XK) (G : Hp) (D : Ends), Room k (A.deeper (envOfC qual scope s.heap.objs.size f cdv)) → RetOk { G := G, H := H } D r (res y) → (∀ σ G' H', LeE G H (fun _ => False) G' H' → r.rel G' .non (res y) → D.nx σ H') →
      Bk (cxOf (CXL P w) P w K mg base N qual scope f cdv A outer s H E0) { G := G, H := H } (slots0 (args y) (N.length - ps.length)) body D) :
    FnOk P w K mg base (CXL P w) (k + 1) f fd ps (PSp Pre args r res) := by
  refine F.ok S (fun vs H Q E ⟨y, G, _, _, a, _⟩ => by rw [args_length a, hl]) fun cdv A outer s H vs Q E hr ⟨y, G, hp, e, a, hq⟩ => ⟨_, WB.pss, ?_⟩
  have h := holds_start (N := N) e a (by rw [hl]; have z := congrArg List.length S.pre; rw [List.length_take] at z; omega)
  rw [hl] at h
  exact hb y hp cdv A outer s H E G _ hr (fun v G' H' l rv => hq v G' H' (l.le fun _ z => z) rv) (fun σ G' H' l rv => hq _ G' H' (l.le fun _ z => z) rv) G H _ h
theorem fn_own {N ps : List Str} {k : Nat} {ι : Type} {Pre : ι → Prop} {args : ι → List Ty} {c : ι → Oc} (F : FunD K x qual params body scope dvs kws f fd) (S : FnScope N ps scope) (hl : ∀ y, (args y).length = ps.length)
    (hb : ∀ (y : ι), Pre y → ∀ (cdv : Value) (A : Around) (outer : List Env) (s : Shared) (H : Hp) (E0 : XK) (G : Hp) (D : Ends), Room k (A.deeper (envOfC qual scope s.heap.objs.size f cdv)) → RetO { G := G, H := H } D (c y) →
      Bk (cxOf (CXL P w) P w K mg base N qual scope f cdv A outer s H E0) { G := G, H := H } (slots0 (args y) (N.length - ps.length)) body D) :
    FnOk P w K mg base (CXL P w) (k + 1) f fd ps (OSp Pre args c) := by
  refine F.ok S (fun vs H Q E ⟨y, G, _, _, a, _⟩ => by rw [args_length a, hl]) fun cdv A outer s H vs Q E hr ⟨y, G, hp, e, a, hq⟩ => ⟨_, WB.pss, ?_⟩
  have h := holds_start (N := N) e a (by rw [hl]; have z := congrArg List.length S.pre; rw [List.length_take] at z; omega)
  rw [hl] at h
  exact hb y hp cdv A outer s H E G _ hr (fun p o G' H' l g n h1 h2 => hq p o G' H' n (l.le fun _ z => z) g h1 h2) G H _ h
end

/-! ### a def of the module, as callers see it -/
structure Has (P : Program) (w : World) (K : PySem.W.Frag) (mg : Str → Option Value) (base : Heap) (x : Str) (k : Nat) (sp : Sp) : Prop where
  ex : ∃ (f : Addr) (fd : FuncData) (ps : List Str) (spF : Sp) (dvs : List V) (ds : List Value), mg x = some (.ref f) ∧ PySem.W.keepIn K (.ref f) = true ∧ Binds K fd ps ds ∧ Vals dvs ds ∧ FnOk P w K mg base (CXL P w) k f fd ps spF ∧ ∀ vs H Q, sp vs H Q E0 → spF (vs ++ dvs) H Q E0
/-- all parameters written -/
theorem Has.mk0 {P : Program} {w : World} {K : PySem.W.Frag} {mg : Str → Option Value} {base : Heap} {x : Str} {k : Nat} {sp : Sp} {f : Addr} {fd : FuncData} {ps : List Str} (hm : mg x = some (.ref f)) (hk : PySem.W.keepIn K (.ref f) = true) (hb : Binds K fd ps []) (F : FnOk P w K mg base (CXL P w) k f fd ps sp) : Has P w K mg base x k sp :=
  ⟨f, fd, ps, sp, [], [], hm, hk, hb, .nil, F, fun vs H Q h => by rw [List.append_nil]; exact h⟩
section
variable {X : Cx} {Γ : List Slot} {e a : Expr} {es : List Expr} {pos p : Pos} {α ι : Type} {r : Rp α} {k j : Nat} {f : Str} {Pre : ι → Prop} {args : ι → List Ty} {res : ι → α} {c : ι → Oc}
theorem we_call {sp : Sp} {σ : L2.St} {H : Hp} {Q : VK} (h : Has X.prog X.w X.K X.mg X.base f k sp) (hr : Room j X.A) (hk : k ≤ j) (ha : WA X (e :: es) σ H fun vs H1 => sp vs H1 Q E0) (hg : Gl X f := by rfl) (hdb : (f == ("__debug__" : Str)) = false := by decide)
    (he : starEach (e :: es) X.env = (false, eval e X.env) :: starEach es X.env := by rfl) (hpl : (backTo pos (starEach es X.env)).any (·.1) = false := by rfl) : WE X (.Call (.Name f p) (e :: es) [] pos) σ H Q := by
  obtain ⟨f0, fd, ps, spF, dvs, ds, hm, hkp, hb, hd, F, hi⟩ := h.ex
  refine WE.of (pe_call F (hr.mono hk) hg hm hkp hb hd passL WA.pa hdb he hpl) ?_
  exact ⟨fun pos pins s I => thn (ha.run pos pins s I) fun us s1 ⟨vs, H1, I1, r1, q⟩ => ⟨vs, H1, I1, r1, hi vs H1 Q q⟩⟩
theorem we_call0 {sp : Sp} {σ : L2.St} {H : Hp} {Q : VK} (h : Has X.prog X.w X.K X.mg X.base f k sp) (hr : Room j X.A) (hk : k ≤ j) (ha : sp [] H Q E0) (hg : Gl X f := by rfl) (hdb : (f == ("__debug__" : Str)) = false := by decide) : WE X (.Call (.Name f p) [] [] pos) σ H Q := by
  obtain ⟨f0, fd, ps, spF, dvs, ds, hm, hkp, hb, hd, F, hi⟩ := h.ex
  exact WE.of (pe_call0 F (hr.mono hk) hg hm hkp hb hd passL hdb) (hi [] H Q ha)
/-- f(e, ..), a def that only reads -/
theorem ev_call {z : α} (h : Has X.prog X.w X.K X.mg X.base f k (PSp Pre args r res)) (hr : Room j X.A) (hk : k ≤ j) (y : ι) (hp : Pre y) (ha : EvA X Γ (e :: es) (args y)) (hz : res y = z := by rfl) (hg : Gl X f := by rfl) (hdb : (f == ("__debug__" : Str)) = false := by decide)
    (he : starEach (e :: es) X.env = (false, eval e X.env) :: starEach es X.env := by rfl) (hpl : (backTo pos (starEach es X.env)).any (·.1) = false := by rfl) : Ev X Γ (.Call (.Name f p) (e :: es) [] pos) r z := fun E G H σ hh Q q =>
  we_call h hr hk (ha E G H σ hh _ fun vs G1 H1 l1 a1 => ⟨y, G1, hp, l1.gh, a1, fun v G2 H2 l2 r2 => q v G2 H2 (l1.trans l2) (hz ▸ r2)⟩) hg hdb he hpl
theorem ev_call0 {z : α} (h : Has X.prog X.w X.K X.mg X.base f k (PSp Pre args r res)) (hr : Room j X.A) (hk : k ≤ j) (y : ι) (hp : Pre y) (ha : args y = []) (hz : res y = z := by rfl) (hg : Gl X f := by rfl) (hdb : (f == ("__debug__" : Str)) = false := by decide) : Ev X Γ (.Call (.Name f p) [] [] pos) r z := fun E G H σ hh Q q =>
  we_call0 h hr hk ⟨y, G, hp, hh.le.gh, by rw [ha]; trivial, fun v G2 H2 l2 r2 => q v G2 H2 l2 (hz ▸ r2)⟩ hg hdb
theorem eo_call {z : Oc} (h : Has X.prog X.w X.K X.mg X.base f k (OSp Pre args c)) (hr : Room j X.A) (hk : k ≤ j) (y : ι) (hp : Pre y) (ha : EvA X Γ (e :: es) (args y)) (hz : c y = z := by rfl) (hg : Gl X f := by rfl) (hdb : (f == ("__debug__" : Str)) = false := by decide)
    (he : starEach (e :: es) X.env = (false, eval e X.env) :: starEach es X.env := by rfl) (hpl : (backTo pos (starEach es X.env)).any (·.1) = false := by rfl) : EvO X Γ (.Call (.Name f p) (e :: es) [] pos) z := fun E G H σ hh Q q =>
  we_call h hr hk (ha E G H σ hh _ fun vs G1 H1 l1 a1 => ⟨y, G1, hp, l1.gh, a1, fun p o G2 H2 n l2 g h1 h2 => q p o G2 H2 (Evl.fresh_back l1.h n) (l1.trans l2) g h1 (hz ▸ h2)⟩) hg hdb he hpl
theorem eo_call0 {z : Oc} (h : Has X.prog X.w X.K X.mg X.base f k (OSp Pre args c)) (hr : Room j X.A) (hk : k ≤ j) (y : ι) (hp : Pre y) (ha : args y = []) (hz : c y = z := by rfl) (hg : Gl X f := by rfl) (hdb : (f == ("__debug__" : Str)) = false := by decide) : EvO X Γ (.Call (.Name f p) [] [] pos) z := fun E G H σ hh Q q =>
  we_call0 h hr hk ⟨y, G, hp, hh.le.gh, by rw [ha]; trivial, fun p o G2 H2 n l2 g h1 h2 => q p o G2 H2 n l2 g h1 (hz ▸ h2)⟩ hg hdb
end

/-! ### built-ins, displays, subscripts -/
def noSlice : Expr → Bool
  | .Slice .. => false
  | _ => true
theorem plain_of {f : Expr} (h : noSlice f = true) : PlainIx f := fun o i => by
  cases f <;> first | (cases h; done) | (unfold subscripted; rfl)
section
variable {X : Cx} {Γ : List Slot} {e f g : Expr} {es : List Expr} {pos p : Pos} {α β γ : Type} {r : Rp α} {x : α} {s : Rp β} {y : β} {t : Rp γ} {z : γ} {i j : Int} {as bs : List α} {u v : Str}
/-- [e, ..] -/
theorem eo_list {ts : List Ty} (h : EvA X Γ es ts) (hl : ts.length ≤ 100000) (hr : ∀ G vs, Args G vs ts → All2 r G vs as) : EvO X Γ (.List es pos) (oLst r as) := fun E G H σ hh Q q =>
  WE.of (pe_lst WA.pa) (h E G H σ hh _ fun vs G1 H1 l1 a1 => ⟨by rw [args_length a1]; exact Evl.sz_of hl, fun p n => q p _ G1 _ (Evl.fresh_back l1.h n) (l1.addO n) (Evl.fresh_back l1.gh n) upd_same ⟨vs, rfl, hr G1 vs a1⟩⟩)
/-- items of one kind -/
def tys (r : Rp α) (as : List α) : List Ty := as.map fun a => ⟨r, a⟩
theorem args_tys {G : Hp} : ∀ {vs : List V} {as : List α}, Args G vs (tys r as) → All2 r G vs as
  | [], [], _ => .nil
  | _ :: _, _ :: _, h => .cons h.1 (args_tys h.2)
theorem eo_lst (h : EvA X Γ es (tys r as)) (hl : as.length ≤ 100000) : EvO X Γ (.List es pos) (oLst r as) := eo_list h (by simpa [tys] using hl) fun _ _ => args_tys
theorem eo_nil : EvO X Γ (.List [] pos) (oLst r []) := eo_lst ea_nil (Nat.zero_le _)
/-- (a, b) -/
theorem ev_tup2 {n : Nat} (h : EvA X Γ es [⟨r, x⟩, ⟨s, y⟩]) : Ev X Γ (.Tuple es n pos) (rT2 X.K r s) (x, y) := fun E G H σ hh Q q =>
  WE.of (pe_tup WA.pa) (h E G H σ hh _ fun vs G1 H1 l1 a1 => by
    match vs, a1 with
    | [v1, v2], ⟨h1, h2, _⟩ =>
      exact ⟨by show 2 ≤ sizeLine; decide, fun p n => q _ (upd G1 p (.tup [v1, v2])) _ (l1.add n) ⟨p, v1, v2, rfl, .inl (.inl upd_same), r.mono (Evl.Ex.new (Evl.fresh_back l1.gh n)) h1, s.mono (Evl.Ex.new (Evl.fresh_back l1.gh n)) h2⟩⟩)
theorem ev_tup3 {n : Nat} (h : EvA X Γ es [⟨r, x⟩, ⟨s, y⟩, ⟨t, z⟩]) : Ev X Γ (.Tuple es n pos) (rT3 X.K r s t) (x, y, z) := fun E G H σ hh Q q =>
  WE.of (pe_tup WA.pa) (h E G H σ hh _ fun vs G1 H1 l1 a1 => by
    match vs, a1 with
    | [v1, v2, v3], ⟨h1, h2, h3, _⟩ =>
      exact ⟨by show 3 ≤ sizeLine; decide, fun p n => q _ (upd G1 p (.tup [v1, v2, v3])) _ (l1.add n) ⟨p, v1, v2, v3, rfl, .inl (.inl upd_same), r.mono (Evl.Ex.new (Evl.fresh_back l1.gh n)) h1, s.mono (Evl.Ex.new (Evl.fresh_back l1.gh n)) h2, t.mono (Evl.Ex.new (Evl.fresh_back l1.gh n)) h3⟩⟩)
/-- x[0], x[1] of a pair -/
theorem ev_fst {a : α × β} {k : Nat} {p2 : Pos} (h : Ev X Γ e (rT2 X.K r s) a) : Ev X Γ (.Subscript e (.Constant (.int 0) k p2) pos) r a.1 := fun E G H σ hh Q q =>
  WE.of (pe_ix ix_tup WE.pe pe_int (plain_of rfl)) (h E G H σ hh _ fun v G1 H1 l1 ⟨p, v1, v2, e1, hp, h1, h2⟩ => ⟨p, _, 0, v1, e1, rfl, Evl.ex_t l1.gh hp, rfl, q _ G1 H1 l1 h1⟩)
theorem ev_snd {a : α × β} {k : Nat} {p2 : Pos} (h : Ev X Γ e (rT2 X.K r s) a) : Ev X Γ (.Subscript e (.Constant (.int 1) k p2) pos) s a.2 := fun E G H σ hh Q q =>
  WE.of (pe_ix ix_tup WE.pe pe_int (plain_of rfl)) (h E G H σ hh _ fun v G1 H1 l1 ⟨p, v1, v2, e1, hp, h1, h2⟩ => ⟨p, _, 1, v2, e1, rfl, Evl.ex_t l1.gh hp, rfl, q _ G1 H1 l1 h2⟩)
/-- xs[i] -/
theorem ev_ixS {k : Nat} (h : Ev X Γ e (rSeq X.K r) as) (h2 : Ev X Γ f rInt (k : Int)) (hx : as[k]? = some x) (hs : PlainIx f := by exact plain_of rfl) : Ev X Γ (.Subscript e f pos) r x := fun E G H σ hh Q q =>
  WE.of (pe_ix ix_list WE.pe WE.pe hs) (h E G H σ hh _ fun v G1 H1 l1 ⟨p, vs, e1, hp, ha⟩ => h2 E G1 H1 σ (hh.step l1) _ fun w G2 H2 l2 r2 => by
    obtain ⟨a, ea, ra⟩ := ha.get hx
    exact ⟨p, vs, (k : Int), a, e1, r2, Evl.ex_l (l1.gh.trans l2.h) hp, atI_nat ea, q _ G2 H2 (l1.trans l2) (r.mono l2.g ra)⟩)
theorem ev_ix {k : Nat} (h : Ev X Γ e (rLst r) as) (h2 : Ev X Γ f rInt (k : Int)) (hx : as[k]? = some x) (hs : PlainIx f := by exact plain_of rfl) : Ev X Γ (.Subscript e f pos) r x := ev_ixS h.seq h2 hx hs
/-- of a list that may change -/
theorem ev_ixB {k : Nat} (h : EvB X Γ e (oLst r as)) (h2 : Ev X Γ f rInt (k : Int)) (hx : as[k]? = some x) (hs : PlainIx f := by exact plain_of rfl) : Ev X Γ (.Subscript e f pos) r x := fun E G H σ hh Q q =>
  WE.of (pe_ix ix_list WE.pe WE.pe hs) (h E G H σ hh _ fun p o G1 H1 l1 hp ⟨vs, e1, ha⟩ => h2 E G1 H1 σ (hh.step l1) _ fun w G2 H2 l2 r2 => by
    subst e1
    obtain ⟨a, ea, ra⟩ := ha.get hx
    exact ⟨p, vs, (k : Int), a, rfl, r2, .inl (.inl (l2.h _ _ hp)), atI_nat ea, q _ G2 H2 (l1.trans l2) (r.mono l2.g ra)⟩)
/-- len(xs) -/
theorem ev_lenS (h : Ev X Γ e (rSeq X.K r) as) (hm : X.mg "len" = none) (hg : Gl X "len" := by rfl) (he : starEach (e :: []) X.env = (false, eval e X.env) :: starEach [] X.env := by rfl) (hpl : (backTo pos (starEach [] X.env)).any (·.1) = false := by rfl) : Ev X Γ (.Call (.Name "len" p) [e] [] pos) rInt (as.length : Int) := fun E G H σ hh Q q =>
  WE.of (pe_callB call_len_seq hg hm PySem.boot_len (pa_cons WE.pe pa_nil he) (he := he) (hpl := hpl)) (h E G H σ hh _ fun v G1 H1 l1 ⟨p, vs, e1, hp, ha⟩ => ⟨p, vs, by rw [e1], .inl (Evl.ex_l l1.gh hp), by rw [ha.length]; exact q _ G1 H1 l1 rfl⟩)
theorem ev_len (h : Ev X Γ e (rLst r) as) (hm : X.mg "len" = none) (hg : Gl X "len" := by rfl) (he : starEach (e :: []) X.env = (false, eval e X.env) :: starEach [] X.env := by rfl) (hpl : (backTo pos (starEach [] X.env)).any (·.1) = false := by rfl) : Ev X Γ (.Call (.Name "len" p) [e] [] pos) rInt (as.length : Int) := ev_lenS h.seq hm hg he hpl
theorem ev_lenB (h : EvB X Γ e (oLst r as)) (hm : X.mg "len" = none) (hg : Gl X "len" := by rfl) (he : starEach (e :: []) X.env = (false, eval e X.env) :: starEach [] X.env := by rfl) (hpl : (backTo pos (starEach [] X.env)).any (·.1) = false := by rfl) : Ev X Γ (.Call (.Name "len" p) [e] [] pos) rInt (as.length : Int) := fun E G H σ hh Q q =>
  WE.of (pe_callB call_len_seq hg hm PySem.boot_len (pa_cons WE.pe pa_nil he) (he := he) (hpl := hpl)) (h E G H σ hh _ fun p o G1 H1 l1 hp ⟨vs, e1, ha⟩ => by
    subst e1
    exact ⟨p, vs, rfl, .inl (.inl (.inl hp)), by rw [ha.length]; exact q _ G1 H1 l1 rfl⟩)
/-- len of a text -/
theorem ev_lenT (h : Ev X Γ e rStr u) (hl : u.length ≤ sizeLine) (hm : X.mg "len" = none) (hg : Gl X "len" := by rfl) (he : starEach (e :: []) X.env = (false, eval e X.env) :: starEach [] X.env := by rfl) (hpl : (backTo pos (starEach [] X.env)).any (·.1) = false := by rfl) : Ev X Γ (.Call (.Name "len" p) [e] [] pos) rInt (u.length : Int) := fun E G H σ hh Q q =>
  WE.of (pe_callB call_len_str hg hm PySem.boot_len (pa_cons WE.pe pa_nil he) (he := he) (hpl := hpl)) (h E G H σ hh _ fun v G1 H1 l1 e1 => ⟨u, by rw [show v = _ from e1], hl, q _ G1 H1 l1 rfl⟩)
/-- xs + ys -/
theorem eo_cat (h : EvB X Γ e (oLst r as)) (h2 : EvB X Γ f (oLst r bs)) (hl : as.length + bs.length ≤ sizeLine) : EvO X Γ (.BinOp e .Add f pos) (oLst r (as ++ bs)) := fun E G H σ hh Q q =>
  WE.of (pe_op op_cat WE.pe WE.pe) (h E G H σ hh _ fun p o G1 H1 l1 hp ⟨vs, e1, ha⟩ => h2 E G1 H1 σ (hh.step l1) _ fun p2 o2 G2 H2 l2 hp2 ⟨ws, e2, hb⟩ => by
    subst e1 e2
    exact ⟨p, p2, vs, ws, rfl, rfl, l2.h _ _ hp, hp2, by rw [ha.length, hb.length]; exact hl, fun p3 n => q p3 _ G2 _ (Evl.fresh_back (l1.trans l2).h n) ((l1.trans l2).addO n) (Evl.fresh_back l2.gh n) upd_same ⟨vs ++ ws, rfl, (ha.mono l2.g).append hb⟩⟩)
/-- list(xs) -/
theorem eo_listOf (h : EvB X Γ e (oLst r as)) (hm : X.mg "list" = none) (hg : Gl X "list" := by rfl) (he : starEach (e :: []) X.env = (false, eval e X.env) :: starEach [] X.env := by rfl) (hpl : (backTo pos (starEach [] X.env)).any (·.1) = false := by rfl) : EvO X Γ (.Call (.Name "list" p) [e] [] pos) (oLst r as) := fun E G H σ hh Q q =>
  WE.of (pe_callTy call_list_of hg hm (by decide +kernel) (pa_cons WE.pe pa_nil he) (he := he) (hpl := hpl)) (h E G H σ hh _ fun p o G1 H1 l1 hp ⟨vs, e1, ha⟩ => by
    subst e1
    exact ⟨p, vs, rfl, .inl (.inl (.inl hp)), fun p3 n => q p3 _ G1 _ (Evl.fresh_back l1.h n) (l1.addO n) (Evl.fresh_back l1.gh n) upd_same ⟨vs, rfl, ha⟩⟩)
/-- abs(n) -/
theorem ev_abs (h : Ev X Γ e rInt i) (hm : X.mg "abs" = none) (hg : Gl X "abs" := by rfl) (he : starEach (e :: []) X.env = (false, eval e X.env) :: starEach [] X.env := by rfl) (hpl : (backTo pos (starEach [] X.env)).any (·.1) = false := by rfl) : Ev X Γ (.Call (.Name "abs" p) [e] [] pos) rInt (if i < 0 then -i else i) := fun E G H σ hh Q q =>
  WE.of (pe_callB call_abs hg hm (by decide +kernel) (pa_cons WE.pe pa_nil he) (he := he) (hpl := hpl)) (h E G H σ hh _ fun v G1 H1 l1 e1 => ⟨i, by rw [show v = _ from e1], q _ G1 H1 l1 rfl⟩)
/-- max(a, b), min(a, b) -/
theorem ev_max2 (h : EvA X Γ [e, f] [⟨rInt, i⟩, ⟨rInt, j⟩]) (hm : X.mg "max" = none) (hc : X.calm = true := by rfl) (hg : Gl X "max" := by rfl) (he : starEach (e :: [f]) X.env = (false, eval e X.env) :: starEach [f] X.env := by rfl) (hpl : (backTo pos (starEach [f] X.env)).any (·.1) = false := by rfl) : Ev X Γ (.Call (.Name "max" p) [e, f] [] pos) rInt (if j > i then j else i) := fun E G H σ hh Q q =>
  WE.of (pe_callB (call_max2 hc) hg hm (by decide +kernel) WA.pa (he := he) (hpl := hpl)) (h E G H σ hh _ fun vs G1 H1 l1 a1 => by
    match vs, a1 with
    | [v1, v2], ⟨h1, h2, _⟩ => exact ⟨i, j, by rw [show v1 = _ from h1, show v2 = _ from h2], q _ G1 H1 l1 rfl⟩)
theorem ev_min2 (h : EvA X Γ [e, f] [⟨rInt, i⟩, ⟨rInt, j⟩]) (hm : X.mg "min" = none) (hc : X.calm = true := by rfl) (hg : Gl X "min" := by rfl) (he : starEach (e :: [f]) X.env = (false, eval e X.env) :: starEach [f] X.env := by rfl) (hpl : (backTo pos (starEach [f] X.env)).any (·.1) = false := by rfl) : Ev X Γ (.Call (.Name "min" p) [e, f] [] pos) rInt (if j < i then j else i) := fun E G H σ hh Q q =>
  WE.of (pe_callB (call_min2 hc) hg hm (by decide +kernel) WA.pa (he := he) (hpl := hpl)) (h E G H σ hh _ fun vs G1 H1 l1 a1 => by
    match vs, a1 with
    | [v1, v2], ⟨h1, h2, _⟩ => exact ⟨i, j, by rw [show v1 = _ from h1, show v2 = _ from h2], q _ G1 H1 l1 rfl⟩)
/-- sum, all, any of a list -/
theorem ev_sum {ns : List Int} (h : EvB X Γ e (oLst rInt ns)) (hm : X.mg "sum" = none) (hc : X.calm = true := by rfl) (hg : Gl X "sum" := by rfl) (he : starEach (e :: []) X.env = (false, eval e X.env) :: starEach [] X.env := by rfl) (hpl : (backTo pos (starEach [] X.env)).any (·.1) = false := by rfl) : Ev X Γ (.Call (.Name "sum" p) [e] [] pos) rInt ns.sum := fun E G H σ hh Q q =>
  WE.of (pe_callB (cr_sum hc) hg hm (by decide +kernel) (pa_cons WE.pe pa_nil he) (he := he) (hpl := hpl)) (h E G H σ hh _ fun p o G1 H1 l1 hp ⟨vs, e1, ha⟩ => by
    subst e1
    rw [all2_int ha] at hp
    exact ⟨p, ns, rfl, .inl (.inl hp), q _ G1 H1 l1 rfl⟩)
theorem ev_all {ns : List Bool} (h : EvB X Γ e (oLst rBool ns)) (hm : X.mg "all" = none) (hc : X.calm = true := by rfl) (hg : Gl X "all" := by rfl) (he : starEach (e :: []) X.env = (false, eval e X.env) :: starEach [] X.env := by rfl) (hpl : (backTo pos (starEach [] X.env)).any (·.1) = false := by rfl) : Ev X Γ (.Call (.Name "all" p) [e] [] pos) rBool (ns.all id) := fun E G H σ hh Q q =>
  WE.of (pe_callB (cr_all hc) hg hm (by decide +kernel) (pa_cons WE.pe pa_nil he) (he := he) (hpl := hpl)) (h E G H σ hh _ fun p o G1 H1 l1 hp ⟨vs, e1, ha⟩ => by
    subst e1
    rw [all2_bool ha] at hp
    exact ⟨p, ns, rfl, .inl (.inl hp), q _ G1 H1 l1 rfl⟩)
theorem ev_any {ns : List Bool} (h : EvB X Γ e (oLst rBool ns)) (hm : X.mg "any" = none) (hc : X.calm = true := by rfl) (hg : Gl X "any" := by rfl) (he : starEach (e :: []) X.env = (false, eval e X.env) :: starEach [] X.env := by rfl) (hpl : (backTo pos (starEach [] X.env)).any (·.1) = false := by rfl) : Ev X Γ (.Call (.Name "any" p) [e] [] pos) rBool (ns.any id) := fun E G H σ hh Q q =>
  WE.of (pe_callB (cr_any hc) hg hm (by decide +kernel) (pa_cons WE.pe pa_nil he) (he := he) (hpl := hpl)) (h E G H σ hh _ fun p o G1 H1 l1 hp ⟨vs, e1, ha⟩ => by
    subst e1
    rw [all2_bool ha] at hp
    exact ⟨p, ns, rfl, .inl (.inl hp), q _ G1 H1 l1 rfl⟩)
/-- str(n) -/
theorem ev_strI (h : Ev X Γ e rInt i) (hz : i.natAbs.log2 < 1920) (hm : X.mg "str" = none) (hg : Gl X "str" := by rfl) (he : starEach (e :: []) X.env = (false, eval e X.env) :: starEach [] X.env := by rfl) (hpl : (backTo pos (starEach [] X.env)).any (·.1) = false := by rfl) : Ev X Γ (.Call (.Name "str" p) [e] [] pos) rStr (Str.ofString (toString i)) := fun E G H σ hh Q q =>
  WE.of (pe_callTy call_str_int hg hm (by decide +kernel) (pa_cons WE.pe pa_nil he) (he := he) (hpl := hpl)) (h E G H σ hh _ fun v G1 H1 l1 e1 => ⟨i, by rw [show v = _ from e1], hz, q _ G1 H1 l1 rfl⟩)
end

/-! ### statements that change a list of one's own -/
section
variable {X : Cx} {E : Ent} {Γ : List Slot} {D : Ends} {e f g : Expr} {es : List Expr} {rest : List Stmt} {pos p apos cpos : Pos} {α β : Type} {r : Rp α} {x : α} {as bs : List α}
theorem bk_append (i : Nat) {a : Str} {pq : Option Addr} (hg : Γ[i]? = some (.ow (oLst r as) pq)) (he : Ev X Γ e r x) (hl : as.length < sizeLine) (k : Bk X E (Γ.set i (.ow (oLst r (as ++ [x])) pq)) rest D)
    (hpe : PE X (.Call (.Attribute (.Name a p) "append" apos) [e] [] cpos) (tBM X.K "list" rAppend (tVar i) (tCons (WE X e) tNil)) := by exact pe_bm PySem.F.plainAttrs_list PySem.F.slot_list_append PySem.F.type_list_append mt_append (pv _) (pa_cons WE.pe pa_nil))
    (hs : swapsWith (.Call (.Attribute (.Name a p) "append" apos) [e] [] cpos) none pos.line X.env = pure false := by rfl) : Bk X E Γ (.Expr (.Call (.Attribute (.Name a p) "append" apos) [e] [] cpos) pos :: rest) D :=
  bk_of (ps_expr hpe hs) fun G H σ hh => by
    obtain ⟨q, o, h1, h2, h3, h4, vs, h5, h6⟩ := hh.ow hg
    subst h5
    refine ⟨_, h1, .inl ⟨rfl, vs, .inl (.inl h4)⟩, he E G H σ hh _ fun v G1 H1 l1 r1 => ?_⟩
    have hh1 := hh.step l1
    refine ⟨q, vs, v, rfl, rfl, l1.h _ _ h4, by rw [h6.length]; exact hl, ?_⟩
    exact k G1 _ σ (hh1.mut hg h1 ⟨_, rfl, (h6.mono l1.g).append (.one r1)⟩)
end
end Hf

namespace Hf
open PySem PySem.Spec PyProof.Rows L2

/-! ### list comprehensions -/
theorem Le.keepO {G H G' H' : Hp} (l : Le G H G' H') {p : Addr} {o : HO} (h : H p = some o) (g : G p = none) : G' p = none := by
  cases q : G' p with
  | none => rfl
  | some u =>
    have z := l.new p u q g
    rw [h] at z
    cases z
def wipeS (Γ : List Slot) : List Nat → List Slot
  | [] => Γ
  | v :: vs => (wipeS Γ vs).set v .no
theorem Holds.wipe {E : Ent} {G H : Hp} {σ : L2.St} {Γ : List Slot} (h : Holds E G H σ Γ) : ∀ vs : List Nat, Holds E G H (L2.wipe σ vs) (wipeS Γ vs)
  | [] => h
  | v :: vs => (Holds.wipe h vs).set_no
theorem wipe_get {σ : L2.St} {i : Nat} : ∀ vs : List Nat, (L2.wipe σ vs)[i]? = if i ∈ vs ∧ i < σ.length then some none else σ[i]?
  | [] => by simp [L2.wipe]
  | v :: vs => by
    unfold L2.wipe
    by_cases e : v = i
    · subst e
      by_cases lt : v < σ.length
      · rw [List.getElem?_set_self (by rw [wipe_length]; exact lt), if_pos ⟨List.mem_cons_self, lt⟩]
      · rw [if_neg (fun q => lt q.2), List.getElem?_eq_none (by rw [List.length_set, wipe_length]; omega), List.getElem?_eq_none (by omega)]
    · rw [List.getElem?_set_ne e, wipe_get vs]
      have z : i ∈ v :: vs ↔ i ∈ vs := ⟨fun q => (List.mem_cons.mp q).elim (fun w => absurd w.symm e) id, List.mem_cons_of_mem _⟩
      simp only [z]
theorem wipe_same {σ σ' : L2.St} {vs : List Nat} (h : SameBut vs (L2.wipe σ vs) σ') : L2.wipe σ' vs = L2.wipe σ vs := by
  apply List.ext_getElem?
  intro i
  have hl : σ'.length = σ.length := by rw [h.1, wipe_length]
  rw [wipe_get, wipe_get, hl]
  by_cases q : i ∈ vs ∧ i < σ.length
  · rw [if_pos q, if_pos q]
  · rw [if_neg q, if_neg q]
    by_cases m : i ∈ vs
    · have n : ¬ i < σ.length := fun z => q ⟨m, z⟩
      rw [List.getElem?_eq_none (by omega), List.getElem?_eq_none (by omega)]
    · rw [h.2 i m, wipe_get, if_neg q]
def WTs (X : Cx) (cs : List Expr) (σ : L2.St) (H : Hp) (Q : Bool → Hp → Prop) : Prop := ∃ t : TT, PTs X cs t ∧ t σ H Q
theorem PTs.all {X : Cx} {cs : List Expr} : PTs X cs (WTs X cs) := ⟨fun pins s σ H Q I h => by
  obtain ⟨t, p, h⟩ := h
  exact p.run pins s σ H Q I h⟩
/-- the tests of a comprehension -/
def EvTs (X : Cx) (Γ : List Slot) (cs : List Expr) (b : Bool) : Prop := ∀ (E : Ent) (G H : Hp) (σ : L2.St), Holds E G H σ Γ → ∀ Q : Bool → Hp → Prop, (∀ G' H', Le G H G' H' → Q b H') → WTs X cs σ H Q
theorem ets_nil {X : Cx} {Γ : List Slot} : EvTs X Γ [] true := fun E G H σ h Q q => ⟨_, pts_nil, q G H (.refl h.le.gh)⟩
theorem ets_one {X : Cx} {Γ : List Slot} {c : Expr} {b : Bool} (h : EvT X Γ c b) : EvTs X Γ [c] b := fun E G H σ hh Q q => ⟨_, pts_one WT.pt, h E G H σ hh Q q⟩
section
variable {X : Cx} {E : Ent} {Γ : List Slot} {D : Ends} {elt tg iter : Expr} {ifs : List Expr} {scope : Scope} {own : List (Str × Nat)} {pos spos : Pos} {α β : Type} {r : Rp α} {s : Rp β} {U : α → List Slot → List Slot} {xs : List α} {keep : α → Bool} {val : α → β} {rest : List Stmt}
/-- the block of a comprehension -/
abbrev blkX (X : Cx) (scope : Scope) (q : Shared × Hp × Addr × List (Str × Addr) × List Addr) : Cx := X.blk q.1 q.2.1 scope (compEnvC scope q.2.2.2.1 q.2.2.1 X.env) q.2.2.2.2
def gAll (X : Cx) (scope : Scope) (tg : Expr) : TG := fun v σ H Q => ∀ q, WG (blkX X scope q) tg v σ H Q
def tAll (X : Cx) (scope : Scope) (cs : List Expr) : TT := fun σ H Q => ∀ q, WTs (blkX X scope q) cs σ H Q
def eAll (X : Cx) (scope : Scope) (e : Expr) : TE := fun σ H Q => ∀ q, WE (blkX X scope q) e σ H Q
theorem gAll.pg (q : Shared × Hp × Addr × List (Str × Addr) × List Addr) : PG (blkX X scope q) tg (gAll X scope tg) := ⟨fun pins s σ H v u Q I r h => (h q).run pins s u I r⟩
theorem tAll.pts (q : Shared × Hp × Addr × List (Str × Addr) × List Addr) : PTs (blkX X scope q) ifs (tAll X scope ifs) := ⟨fun pins s σ H Q I h => by
  obtain ⟨t, p, h⟩ := h q
  exact p.run pins s σ H Q I h⟩
theorem eAll.pe (q : Shared × Hp × Addr × List (Str × Addr) × List Addr) : PE (blkX X scope q) elt (eAll X scope elt) := ⟨fun pins s σ H Q I h => (h q).run pins s I⟩
theorem tlc_of {wi : TI} (hwi : ∀ (E : Ent) (G H : Hp) (σ : L2.St), Holds E G H σ Γ → ∀ R : It → Hp → Prop, (∀ J G' H', Le G H G' H' → ItOk J G' r xs → R J H') → wi σ H R)
    (ht : ∀ q, TgOk (blkX X scope q) tg r U (own.map (·.2))) (hk : ∀ q, ∀ a ∈ xs, EvTs (blkX X scope q) (U a (wipeS Γ (own.map (·.2)))) ifs (keep a))
    (hv : ∀ q, ∀ a ∈ xs, keep a = true → Ev (blkX X scope q) (U a (wipeS Γ (own.map (·.2)))) elt s (val a)) (hl : xs.length ≤ 100000)
    {G H : Hp} {σ : L2.St} (hh : Holds E G H σ Γ) {Q : VK} (hQ : ∀ p o G' H', H p = none → Le G H G' H' → G' p = none → H' p = some o → (oLst s ((xs.filter keep).map val)).rel G' o → Q (.ref p) H') :
    tLc wi (gAll X scope tg) (tAll X scope ifs) (eAll X scope elt) (own.map (·.2)) σ H Q := by
  refine hwi E G H σ hh _ fun J G1 H1 l1 it D hD => ?_
  have gD : G1 D = none := Evl.fresh_back l1.gh hD
  have hh1 := hh.step l1
  refine ⟨fun i m H2 => m = xs.length - i ∧ i ≤ xs.length ∧ ∃ G2 acc, Le G1 H1 G2 H2 ∧ G2 D = none ∧ H2 D = some (.lst acc) ∧ All2 s G2 acc (((xs.take i).filter keep).map val), ⟨xs.length, by simp, Nat.zero_le _, G1, [], (Le.refl l1.gh).addO hD, gD, upd_same, .nil⟩, ?_⟩
  rintro i m H2 ⟨rfl, hi, G2, acc, l2, g2, h2, a2⟩
  obtain ⟨go, stop⟩ := it i G2 H2 l2.g l2.gh
  by_cases lt : i < xs.length
  · have ex : xs[i]? = some xs[i] := by simp [lt]
    have mem : xs[i] ∈ xs := List.getElem_mem lt
    obtain ⟨g, y⟩ := go xs[i] ex
    have la : acc.length ≤ i := by
      rw [a2.length, List.length_map]
      exact Nat.le_trans (List.length_filter_le _ _) (by rw [List.length_take]; omega)
    have take : xs.take (i + 1) = xs.take i ++ [xs[i]] := by rw [List.take_add_one]; simp [lt]
    refine .inr ⟨g, fun H' => ∃ G' acc, Le G1 H1 G' H' ∧ G' D = none ∧ H' D = some (.lst acc) ∧ All2 s G' acc (((xs.take (i + 1)).filter keep).map val), fun H' ⟨G', acc', l', q1, q2, q3⟩ => ⟨xs.length - (i + 1), by omega, rfl, lt, G', acc', l', q1, q2, q3⟩, fun x H' yy q => ?_⟩
    obtain ⟨G3, l3, rx⟩ := y x H' yy
    have hh3 : Holds E G3 H' σ Γ := (hh1.step l2).step l3
    refine ht q E G3 H' _ _ x _ (hh3.wipe _) rx _ fun σ4 sb hh4 => ⟨wipe_same sb, fun q2 => ?_⟩
    refine hk q2 _ mem E G3 H' σ4 hh4 _ fun G5 H5 l5 => ?_
    have l35 := l3.trans l5
    cases kv : keep xs[i] with
    | false =>
      rw [if_neg Bool.false_ne_true]
      refine ⟨G5, acc, l2.trans l35, l35.keepO h2 g2, l35.h _ _ h2, ?_⟩
      rw [take, List.filter_append, List.filter_cons_of_neg (by simp [kv])]
      simpa using a2.mono l35.g
    | true =>
      rw [if_pos rfl]
      intro q3
      refine hv q3 _ mem kv E G5 H5 σ4 (hh4.step l5) _ fun v G6 H6 l6 r6 => ?_
      have l := l35.trans l6
      refine ⟨acc, l.h _ _ h2, Evl.sz_lt (by omega), G6, acc ++ [v], ?_, l.keepO h2 g2, upd_same, ?_⟩
      · have z := l2.trans l
        refine ⟨z.g, fun a o h => ?_, fun a o h => ?_, z.new⟩
        · rw [upd_ne (ne_of_none h hD)]
          exact z.h a o h
        · have n : a ≠ D := fun e => by
            subst e
            rw [l.keepO h2 g2] at h
            cases h
          rw [upd_ne n]
          exact z.gh a o h
      · rw [take, List.filter_append, List.filter_cons_of_pos kv, List.map_append]
        exact (a2.mono l.g).append (.one r6)
  · have e : i = xs.length := by omega
    subst e
    rw [List.take_length] at a2
    exact .inl ⟨stop (Nat.le_refl _), hQ D _ G2 H2 (Evl.fresh_back l1.h hD) (l1.trans l2) g2 h2 ⟨acc, rfl, a2⟩⟩
theorem eo_lc (own : List (Str × Nat)) (nd : X.N.Nodup) (hi : EvI X Γ tg iter r xs) (ok : BlkOk X.N X.env.scope scope own) (ht : ∀ q, TgOk (blkX X scope q) tg r U (own.map (·.2)))
    (hk : ∀ q, ∀ a ∈ xs, EvTs (blkX X scope q) (U a (wipeS Γ (own.map (·.2)))) ifs (keep a)) (hv : ∀ q, ∀ a ∈ xs, keep a = true → Ev (blkX X scope q) (U a (wipeS Γ (own.map (·.2)))) elt s (val a)) (hl : xs.length ≤ 100000)
    (hc : X.calm = true := by rfl) (hs : ∀ x, foldedSetIterable iter X.env x = pure x := by intro _; rfl) : EvO X Γ (.ListComp elt [⟨tg, iter, ifs, 0⟩] scope pos) (oLst s ((xs.filter keep).map val)) := fun E G H σ hh Q q => by
  obtain ⟨wi, pi, hwi⟩ := hi
  exact WE.of (pe_lc hc nd pi ok (fun s H C cl fp => gAll.pg (s, H, C, cl, fp)) (fun s H C cl fp => tAll.pts (s, H, C, cl, fp)) (fun s H C cl fp => eAll.pe (s, H, C, cl, fp)) hs) (tlc_of hwi ht hk hv hl hh q)
theorem filter_tt {α : Type} (xs : List α) : xs.filter (fun _ => true) = xs := by simp
/-- without a test -/
theorem eo_lcm (own : List (Str × Nat)) (nd : X.N.Nodup) (hi : EvI X Γ tg iter r xs) (ok : BlkOk X.N X.env.scope scope own) (ht : ∀ q, TgOk (blkX X scope q) tg r U (own.map (·.2)))
    (hv : ∀ q, ∀ a ∈ xs, Ev (blkX X scope q) (U a (wipeS Γ (own.map (·.2)))) elt s (val a)) (hl : xs.length ≤ 100000)
    (hc : X.calm = true := by rfl) (hs : ∀ x, foldedSetIterable iter X.env x = pure x := by intro _; rfl) : EvO X Γ (.ListComp elt [⟨tg, iter, [], 0⟩] scope pos) (oLst s (xs.map val)) := by
  have h := eo_lc (pos := pos) (keep := fun _ => true) (val := val) own nd hi ok ht (fun q a m => ets_nil) (fun q a m _ => hv q a m) hl hc hs
  rw [filter_tt] at h
  exact h
/-- x = [..] -/
theorem bk_setLc (i : Nat) {y : Str} {py : Pos} (own : List (Str × Nat)) (nd : X.N.Nodup) (hi : EvI X Γ tg iter r xs) (ok : BlkOk X.N X.env.scope scope own) (ht : ∀ q, TgOk (blkX X scope q) tg r U (own.map (·.2)))
    (hk : ∀ q, ∀ a ∈ xs, EvTs (blkX X scope q) (U a (wipeS Γ (own.map (·.2)))) ifs (keep a)) (hv : ∀ q, ∀ a ∈ xs, keep a = true → Ev (blkX X scope q) (U a (wipeS Γ (own.map (·.2)))) elt s (val a)) (hl : xs.length ≤ 100000)
    (k : Bk X E (Γ.set i (.ow (oLst s ((xs.filter keep).map val)))) rest D) (hy : X.N[i]? = some y := by rfl) (hyl : X.env.scope.names.lookup y = some .local := by rfl)
    (hsw : swapsWith (.ListComp elt [⟨tg, iter, ifs, 0⟩] scope pos) (some (.Name y py)) spos.line X.env = pure true := by exact sw_true rfl rfl rfl (by decide +kernel))
    (hc : X.calm = true := by rfl) (hs : ∀ x, foldedSetIterable iter X.env x = pure x := by intro _; rfl) : Bk X E Γ (.Assign [.Name y py] (.ListComp elt [⟨tg, iter, ifs, 0⟩] scope pos) spos :: rest) D := by
  obtain ⟨wi, pi, hwi⟩ := hi
  refine bk_of (ps_setLc hc nd hy hyl hsw pi ok (fun s H C cl fp => gAll.pg (s, H, C, cl, fp)) (fun s H C cl fp => tAll.pts (s, H, C, cl, fp)) (fun s H C cl fp => eAll.pe (s, H, C, cl, fp)) hs) fun G H σ hh => ?_
  exact tlc_of hwi ht hk hv hl hh fun p o G' H' n l g h1 h2 => k G' H' _ (hh.set_ow l n g h1 h2)
/-- x = [..], never changed behind -/
theorem bk_setLf (i : Nat) {y : Str} {py : Pos} (own : List (Str × Nat)) (nd : X.N.Nodup) (hi : EvI X Γ tg iter r xs) (ok : BlkOk X.N X.env.scope scope own) (ht : ∀ q, TgOk (blkX X scope q) tg r U (own.map (·.2)))
    (hk : ∀ q, ∀ a ∈ xs, EvTs (blkX X scope q) (U a (wipeS Γ (own.map (·.2)))) ifs (keep a)) (hv : ∀ q, ∀ a ∈ xs, keep a = true → Ev (blkX X scope q) (U a (wipeS Γ (own.map (·.2)))) elt s (val a)) (hl : xs.length ≤ 100000)
    (k : Bk X E (Γ.set i (.sh (rLst s) ((xs.filter keep).map val))) rest D) (hy : X.N[i]? = some y := by rfl) (hyl : X.env.scope.names.lookup y = some .local := by rfl)
    (hsw : swapsWith (.ListComp elt [⟨tg, iter, ifs, 0⟩] scope pos) (some (.Name y py)) spos.line X.env = pure true := by exact sw_true rfl rfl rfl (by decide +kernel))
    (hc : X.calm = true := by rfl) (hs : ∀ x, foldedSetIterable iter X.env x = pure x := by intro _; rfl) : Bk X E Γ (.Assign [.Name y py] (.ListComp elt [⟨tg, iter, ifs, 0⟩] scope pos) spos :: rest) D := by
  obtain ⟨wi, pi, hwi⟩ := hi
  refine bk_of (ps_setLc hc nd hy hyl hsw pi ok (fun s H C cl fp => gAll.pg (s, H, C, cl, fp)) (fun s H C cl fp => tAll.pts (s, H, C, cl, fp)) (fun s H C cl fp => eAll.pe (s, H, C, cl, fp)) hs) fun G H σ hh => ?_
  refine tlc_of hwi ht hk hv hl hh fun p o G' H' n l g h1 ⟨vs, e, h2⟩ => ?_
  subst e
  exact k (upd G' p (.lst vs)) H' _ ((hh.step (l.frz h1 n g)).set_sh ⟨p, vs, rfl, upd_same, h2.mono (Evl.Ex.new g)⟩)
end

/-! ### while -/
section
variable {X : Cx} {E : Ent} {Γ : List Slot} {D : Ends} {c : Expr} {rest body : List Stmt} {pos : Pos}
/-- while: I and the measure over the data -/
theorem bk_while {S : Type} (mk : S → List Slot) (I : S → Prop) (μ : S → Nat) (b : S → Bool) (s0 : S) (hp : PassesOwn (model X.prog X.w) X.A X.env X.xe) (h0 : I s0) (hΓ : ∀ G H σ, Holds E G H σ Γ → Holds E G H σ (mk s0)) (hc : ∀ s, I s → EvT X (mk s) c (b s))
    (step : ∀ s, I s → b s = true → Bk X E (mk s) body { D with nx := fun σ H => ∃ s', (I s' ∧ μ s' < μ s) ∧ At E (mk s') σ H, ct := fun σ H => ∃ s', (I s' ∧ μ s' < μ s) ∧ At E (mk s') σ H, bk := fun σ H => WB X rest σ H D })
    (done : ∀ s, I s → b s = false → Bk X E (mk s) rest D) : Bk X E Γ (.While c body [] pos :: rest) D := by
  refine bk_of (ps_while hp WT.pt WB.pss) fun G H σ hh => ?_
  refine ⟨fun m σ H => ∃ s, m = μ s ∧ I s ∧ At E (mk s) σ H, ⟨μ s0, s0, rfl, h0, G, hΓ _ _ _ hh⟩, ?_⟩
  rintro m σ H ⟨s, rfl, hs, G2, hh2⟩
  refine hc s hs E G2 H σ hh2 _ fun G3 H3 l3 => ?_
  cases e : b s with
  | true =>
    rw [if_pos rfl]
    exact ⟨fun σ' H' => ∃ s', (I s' ∧ μ s' < μ s) ∧ At E (mk s') σ' H', fun σ' H' ⟨s', ⟨i', lt⟩, a'⟩ => ⟨μ s', lt, s', rfl, i', a'⟩, step s hs e G3 H3 σ (hh2.step l3)⟩
  | false =>
    rw [if_neg Bool.false_ne_true]
    exact done s hs e G3 H3 σ (hh2.step l3)
theorem bk_wnext {S : Type} {mk : S → List Slot} {J : S → Prop} (s' : S) (hI : J s') (l : (mk s').length = Γ.length) (w : ∀ (i : Nat) (s : Slot), (mk s')[i]? = some s → s = .no ∨ Γ[i]? = some s) {bk ct : L2.St → Hp → Prop} {rt : VK} :
    Bk X E Γ [] { nx := fun σ H => ∃ s', J s' ∧ At E (mk s') σ H, rt := rt, bk := bk, ct := ct } := bk_end fun G H σ hh => ⟨s', hI, G, hh.weak l w⟩
end

/-! ### isinstance -/
section
variable {X : Cx} {Γ : List Slot} {e : Expr} {pos p p2 : Pos} {α : Type} {r : Rp α} {x : α}
/-- the built-in class of whatever r tells -/
def Kind (K : PySem.W.Frag) (r : Rp α) (x : α) (T : String) : Prop := ∀ G v, r.rel G v x → TyX K G v (.type T)
theorem tyX_mono {K : PySem.W.Frag} {G H : Hp} (e : Ex G H) {v : V} {t : Value} (h : TyX K G v t) : TyX K H v t := by
  cases h with
  | base h =>
    refine .base ?_
    cases h with
    | non => exact .non
    | bl b => exact .bl b
    | int i => exact .int i
    | str x => exact .str x
    | flt x => exact .flt x
    | lst h => exact .lst (e _ _ h)
    | frz h => exact .frz (e _ _ h)
    | tup h => exact .tup (e _ _ h)
    | dK h => exact .dK (e _ _ h)
    | dT h => exact .dT (e _ _ h)
    | ins h c a b d f => exact .ins (e _ _ h) c a b d f
  | byt b => exact .byt b
  | set h => exact .set (e _ _ h)
  | kList h c => exact .kList h c
  | kTuple h c => exact .kTuple h c
  | kDict h c => exact .kDict h c
  | fTuple h => exact .fTuple (e _ _ h)
  | fDict h => exact .fDict (e _ _ h)
theorem kind_int {K : PySem.W.Frag} {i : Int} : Kind K rInt i "int" := fun G v h => by cases h; exact .base (.int i)
theorem kind_bool {K : PySem.W.Frag} {i : Bool} : Kind K rBool i "bool" := fun G v h => by cases h; exact .base (.bl i)
theorem kind_str {K : PySem.W.Frag} {i : Str} : Kind K rStr i "str" := fun G v h => by cases h; exact .base (.str i)
theorem kind_lst {K : PySem.W.Frag} {as : List α} : Kind K (rLst r) as "list" := fun G v ⟨p, vs, e, h, _⟩ => by subst e; exact .base (.lst h)
theorem sqT_kind {K : PySem.W.Frag} {G : Hp} {p : Addr} {vs : List V} (h : SqT K G p vs) : TyX K G (.ref p) (.type "tuple") := by
  rcases h with (h | ⟨o, h⟩) | ⟨o, its, n, h, c, _⟩
  · exact .base (.tup h)
  · exact .fTuple h
  · exact .kTuple h c
theorem kind_T2 {K : PySem.W.Frag} {β : Type} {s : Rp β} {a : α × β} : Kind K (rT2 K r s) a "tuple" := fun G v ⟨p, x, y, e, h, _⟩ => by subst e; exact sqT_kind h
theorem kind_T3 {K : PySem.W.Frag} {β γ : Type} {s : Rp β} {t : Rp γ} {a : α × β × γ} : Kind K (rT3 K r s t) a "tuple" := fun G v ⟨p, x, y, z, e, h, _⟩ => by subst e; exact sqT_kind h
theorem ev_isi {T C : String} {c : Str} {b : Bool} (h : Ev X Γ e r x) (kd : Kind X.K r x T) (hk : kitB T C = some b) (hm : X.mg "isinstance" = none) (hmc : X.mg c = none) (hvc : bootBuiltins c = some (.type C)) (hg : Gl X "isinstance" := by rfl) (hgc : Gl X c := by rfl) (hn : c ≠ "__name__" := by decide) (hd : (c == ("__debug__" : Str)) = false := by decide)
    (hs1 : starEach (e :: [.Name c p2]) X.env = (false, eval e X.env) :: starEach [.Name c p2] X.env := by rfl) (hs2 : starEach (.Name c p2 :: []) X.env = (false, eval (.Name c p2) X.env) :: starEach [] X.env := by rfl) (hpl : (backTo pos (starEach [.Name c p2] X.env)).any (·.1) = false := by rfl) :
    Ev X Γ (.Call (.Name "isinstance" p) [e, .Name c p2] [] pos) rBool b := fun E G H σ hh Q q =>
  WE.of (pe_callB call_isi hg hm (by decide +kernel) (pa_cons WE.pe (pa_cons (pe_bltn (v := .ty C) hgc hmc hvc rfl hn hd) pa_nil hs2) hs1) (he := hs1) (hpl := hpl)) (h E G H σ hh _ fun v G1 H1 l1 r1 => ⟨v, .ty C, .type T, .type C, b, rfl, .ty C, tyX_mono l1.gh (kd G1 v r1), kit_ty hk, q _ G1 H1 l1 rfl⟩)
end
end Hf

namespace Hf
open PySem PySem.Spec PyProof.Rows L2

/-! ### data of any form; ω: objects of one's own -/
inductive Dyn (ω : Type) where
  | non | bl (b : Bool) | int (i : Int) | str (s : Str) | lst (xs : List (Dyn ω)) | tup (xs : List (Dyn ω)) | dic (kvs : List (Str × Dyn ω)) | ob (o : ω)
mutual
inductive DynAt {ω : Type} (K : PySem.W.Frag) (ro : Rp ω) (G : Hp) : V → Dyn ω → Prop
  | non : DynAt K ro G .non .non
  | bl (b : Bool) : DynAt K ro G (.bl b) (.bl b)
  | int (i : Int) : DynAt K ro G (.int i) (.int i)
  | str (s : Str) : DynAt K ro G (.str s) (.str s)
  | lst {p : Addr} {vs : List V} {ds : List (Dyn ω)} : G p = some (.lst vs) → DynAll K ro G vs ds → DynAt K ro G (.ref p) (.lst ds)
  | tup {p : Addr} {vs : List V} {ds : List (Dyn ω)} : SqT K G p vs → DynAll K ro G vs ds → DynAt K ro G (.ref p) (.tup ds)
  | dic {p : Addr} {kvs : List (Key × V)} {ds : List (Str × Dyn ω)} : G p = some (.dK kvs) → DynKvs K ro G kvs ds → DynAt K ro G (.ref p) (.dic ds)
  | ob {v : V} {o : ω} : ro.rel G v o → DynAt K ro G v (.ob o)
inductive DynAll {ω : Type} (K : PySem.W.Frag) (ro : Rp ω) (G : Hp) : List V → List (Dyn ω) → Prop
  | nil : DynAll K ro G [] []
  | cons {v : V} {vs : List V} {d : Dyn ω} {ds : List (Dyn ω)} : DynAt K ro G v d → DynAll K ro G vs ds → DynAll K ro G (v :: vs) (d :: ds)
inductive DynKvs {ω : Type} (K : PySem.W.Frag) (ro : Rp ω) (G : Hp) : List (Key × V) → List (Str × Dyn ω) → Prop
  | nil : DynKvs K ro G [] []
  | cons {k : Str} {v : V} {vs : List (Key × V)} {d : Dyn ω} {ds : List (Str × Dyn ω)} : DynAt K ro G v d → DynKvs K ro G vs ds → DynKvs K ro G ((.inr k, v) :: vs) ((k, d) :: ds)
end
section
variable {ω : Type} {K : PySem.W.Frag} {ro : Rp ω} {G G' : Hp}
mutual
theorem DynAt.mono (e : Ex G G') : ∀ (d : Dyn ω) (v : V), DynAt K ro G v d → DynAt K ro G' v d
  | .non, _, h => by cases h; exact .non
  | .bl b, _, h => by cases h; exact .bl b
  | .int b, _, h => by cases h; exact .int b
  | .str b, _, h => by cases h; exact .str b
  | .lst ds, _, h => by
    cases h with
    | lst h1 h2 => exact .lst (e _ _ h1) (DynAll.mono e ds _ h2)
  | .tup ds, _, h => by
    cases h with
    | tup h1 h2 => exact .tup (Evl.ex_t e h1) (DynAll.mono e ds _ h2)
  | .dic ds, _, h => by
    cases h with
    | dic h1 h2 => exact .dic (e _ _ h1) (DynKvs.mono e ds _ h2)
  | .ob o, _, h => by
    cases h with
    | ob h => exact .ob (ro.mono e h)
theorem DynAll.mono (e : Ex G G') : ∀ (ds : List (Dyn ω)) (vs : List V), DynAll K ro G vs ds → DynAll K ro G' vs ds
  | [], _, h => by cases h; exact .nil
  | d :: ds, _, h => by
    cases h with
    | cons h1 h2 => exact .cons (DynAt.mono e d _ h1) (DynAll.mono e ds _ h2)
theorem DynKvs.mono (e : Ex G G') : ∀ (ds : List (Str × Dyn ω)) (vs : List (Key × V)), DynKvs K ro G vs ds → DynKvs K ro G' vs ds
  | [], _, h => by cases h; exact .nil
  | (k, d) :: ds, _, h => by
    cases h with
    | cons h1 h2 => exact .cons (DynAt.mono e d _ h1) (DynKvs.mono e ds _ h2)
end
end
def rDyn {ω : Type} (K : PySem.W.Frag) (ro : Rp ω) : Rp (Dyn ω) := ⟨DynAt K ro, fun {G G' v a} e h => DynAt.mono e a v h⟩
/-- no objects -/
def rOb0 : Rp Empty := ⟨fun _ _ _ => False, fun _ h => h⟩

/-! ### == at any depth -/
/-- data that == reads -/
structure Eqv (K : PySem.W.Frag) {α : Type} (r : Rp α) (x : α) (d : PyData) : Prop where
  dp : ∀ G v, r.rel G v x → Dp K G v d
  sh : SeqAt.shaped d = true
theorem dpSq {K : PySem.W.Frag} {G H : Hp} {p : Addr} {vs : List V} (e : Ex G H) (h : SqL K G p vs) : SqL K H p vs := Evl.ex_l e h
mutual
theorem dp_mono {K : PySem.W.Frag} {G H : Hp} (e : Ex G H) : ∀ (d : PyData) (v : V), Dp K G v d → Dp K H v d
  | .none, _, h => by cases h; exact .non
  | .bool b, _, h => by cases h; exact .bl b
  | .int i, _, h => by cases h; exact .int i
  | .str x, _, h => by cases h; exact .str x
  | .list ds, _, h => by
    cases h with
    | lst h1 h2 => exact .lst (Evl.ex_l e h1) (dpAll_mono e ds _ h2)
  | .tuple ds, _, h => by
    cases h with
    | tup h1 h2 => exact .tup (Evl.ex_t e h1) (dpAll_mono e ds _ h2)
  | .dict _, _, h => by cases h
theorem dpAll_mono {K : PySem.W.Frag} {G H : Hp} (e : Ex G H) : ∀ (d : List PyData) (v : List V), DpAll K G v d → DpAll K H v d
  | [], _, h => by cases h; exact .nil
  | d :: ds, _, h => by
    cases h with
    | cons h1 h2 => exact .cons (dp_mono e d _ h1) (dpAll_mono e ds _ h2)
end
section
variable {X : Cx} {Γ : List Slot} {e f g : Expr} {es : List Expr} {pos p : Pos} {α β γ ω : Type} {r : Rp α} {x : α} {s : Rp β} {y : β} {i j : Int} {u v : Str} {c d : PyData} {k : Nat} {ro : Rp ω} {as bs : List α}
theorem gv_eqD (a : Eqv X.K r x c) (b : Eqv X.K s y d) : Gives (rEqD X.K) r x s y rBool (PyData.eqv c d) := fun G H v w e h1 h2 Q q => ⟨c, d, dp_mono e _ _ (a.dp G v h1), dp_mono e _ _ (b.dp G w h2), a.sh, b.sh, q _ G H (.refl e) rfl⟩
theorem gv_neD (a : Eqv X.K r x c) (b : Eqv X.K s y d) : Gives (rNeD X.K) r x s y rBool (!PyData.eqv c d) := fun G H v w e h1 h2 Q q => ⟨c, d, dp_mono e _ _ (a.dp G v h1), dp_mono e _ _ (b.dp G w h2), a.sh, b.sh, q _ G H (.refl e) rfl⟩
theorem ev_eqD (hr : Room k X.A) (a : Eqv X.K r x c) (b : Eqv X.K s y d) (ha : Ev X Γ e r x) (hb : Ev X Γ f s y) : Ev X Γ (.Compare e [.Eq] [f] pos) rBool (PyData.eqv c d) := ev_cmpR (op_eqD hr.units) ha hb (gv_eqD a b)
theorem ev_neD (hr : Room k X.A) (a : Eqv X.K r x c) (b : Eqv X.K s y d) (ha : Ev X Γ e r x) (hb : Ev X Γ f s y) : Ev X Γ (.Compare e [.NotEq] [f] pos) rBool (!PyData.eqv c d) := ev_cmpR (op_neD hr.units) ha hb (gv_neD a b)
theorem et_eqD (hr : Room k X.A) (a : Eqv X.K r x c) (b : Eqv X.K s y d) (ha : Ev X Γ e r x) (hb : Ev X Γ f s y) : EvT X Γ (.Compare e [.Eq] [f] pos) (PyData.eqv c d) := et_cmpR (op_eqD hr.units) ha hb (gv_eqD a b)
theorem et_neD (hr : Room k X.A) (a : Eqv X.K r x c) (b : Eqv X.K s y d) (ha : Ev X Γ e r x) (hb : Ev X Γ f s y) : EvT X Γ (.Compare e [.NotEq] [f] pos) (!PyData.eqv c d) := et_cmpR (op_neD hr.units) ha hb (gv_neD a b)

/-! ### texts -/
def rMulS : R2 := fun x y H Q => ∃ a n, x = .str a ∧ y = .int n ∧ MulOk a n ∧ Q (.str (Txt.mul a n)) H
theorem op_mulS : OpR X (binaryOp .Mult) rMulS := by
  intro pins s σ H x y v u Q I rx ry h
  obtain ⟨i, j, rfl, rfl, hz, q⟩ := h
  obtain ⟨t, rfl⟩ := rx
  obtain ⟨t', rfl⟩ := ry
  exact SB.mul hz fun t' k => ⟨.str (Txt.mul i j), H, I.tok _, ⟨_, rfl⟩, q⟩
theorem ev_mulS (hc : MulOk u i) (ha : Ev X Γ e rStr u) (hb : Ev X Γ f rInt i) : Ev X Γ (.BinOp e .Mult f pos) rStr (Txt.mul u i) := ev_bin op_mulS ha hb fun G H a b e h1 h2 Q q => ⟨u, i, h1, h2, hc, q _ G H (.refl e) rfl⟩
/-- a method of a text with one argument -/
theorem ev_m1 {id : String} {name : Str} {apos : Pos} {ρ : V → List V → Hp → VK → Prop} (slot : PySem.Slot "str" name id) (ty : typeOf (.builtin id) = pure (.type "method_descriptor")) (rule : MtR X id ρ) (ha : Ev X Γ e rStr u) (hb : Ev X Γ f r x)
    (hs : ∀ (G H : Hp) (b : V), Ex G H → r.rel G b x → ∀ Q : VK, (∀ c G' H', Le G H G' H' → s.rel G' c y → Q c H') → ρ (.str u) [b] H Q)
    (hst : starEach [f] X.env = [(false, eval f X.env)] := by rfl) (hbase : attributeBase e name X.env (eval e X.env) = eval e X.env := by rfl) (hline : (apos.endLine == pos.line) = true := by rfl) : Ev X Γ (.Call (.Attribute e name apos) [f] [] pos) s y := fun E G H σ hh Q q =>
  WE.of (pe_m1 slot ty rule WE.pe WE.pe hst hbase hline) (ha E G H σ hh _ fun v G1 H1 l1 r1 => by
    cases r1
    exact ⟨⟨u, rfl⟩, hb E G1 H1 σ (hh.step l1) _ fun w G2 H2 l2 r2 => hs G2 H2 w l2.gh r2 Q fun c G3 H3 l3 r3 => q c G3 H3 ((l1.trans l2).trans l3) r3⟩)
/-- the same, a new list -/
theorem eo_m1 {id : String} {name : Str} {apos : Pos} {ρ : V → List V → Hp → VK → Prop} {cc : Oc} (slot : PySem.Slot "str" name id) (ty : typeOf (.builtin id) = pure (.type "method_descriptor")) (rule : MtR X id ρ) (ha : Ev X Γ e rStr u) (hb : Ev X Γ f r x)
    (hs : ∀ (G H : Hp) (b : V), Ex G H → r.rel G b x → ∀ Q : VK, (∀ p o H', H p = none → H' = upd H p o → cc.rel G o → Q (.ref p) H') → ρ (.str u) [b] H Q)
    (hst : starEach [f] X.env = [(false, eval f X.env)] := by rfl) (hbase : attributeBase e name X.env (eval e X.env) = eval e X.env := by rfl) (hline : (apos.endLine == pos.line) = true := by rfl) : EvO X Γ (.Call (.Attribute e name apos) [f] [] pos) cc := fun E G H σ hh Q q =>
  WE.of (pe_m1 slot ty rule WE.pe WE.pe hst hbase hline) (ha E G H σ hh _ fun v G1 H1 l1 r1 => by
    cases r1
    refine ⟨⟨u, rfl⟩, hb E G1 H1 σ (hh.step l1) _ fun w G2 H2 l2 r2 => hs G2 H2 w l2.gh r2 Q fun p o H3 n e3 c3 => ?_⟩
    subst e3
    have l := l1.trans l2
    exact q p o G2 _ (Evl.fresh_back l.h n) (l.addO n) (Evl.fresh_back l2.gh n) upd_same c3)
end
end Hf

namespace Hf
open PySem PySem.Spec PyProof.Rows L2
theorem All2.concat {α : Type} {r : Rp α} {G : Hp} {b : α} : ∀ {vs : List V} {l : List α}, All2 r G vs (l ++ [b]) → ∃ ws w, vs = ws ++ [w] ∧ r.rel G w b
  | _, [], .cons h .nil => ⟨[], _, rfl, h⟩
  | _, _ :: l, .cons (v := v) h t => by
    obtain ⟨ws, w, e, k⟩ := All2.concat (l := l) t
    exact ⟨v :: ws, w, by rw [e]; rfl, k⟩
/-- a slice -/
def cutL {α : Type} (xs : List α) (lo hi : Option Int) : List α := (xs.drop (HT.sIx xs.length 0 lo)).take (HT.sIx xs.length xs.length hi - HT.sIx xs.length 0 lo)
theorem All2.cut {α : Type} {r : Rp α} {G : Hp} {vs : List V} {l : List α} (lo hi : Option Int) (h : All2 r G vs l) : All2 r G (cutV vs lo hi) (cutL l lo hi) := by
  unfold cutV cutL
  rw [h.length]
  exact (h.drop _).take _
theorem cutL_from {α : Type} {xs : List α} {i : Int} (h : 0 ≤ i) : cutL xs (some i) none = xs.drop i.toNat := by
  obtain ⟨k, rfl⟩ := Int.eq_ofNat_of_zero_le h
  unfold cutL
  rw [HT.sIx_none, HT.sIx_nat, Int.toNat_natCast]
  by_cases q : k ≤ xs.length
  · rw [Nat.min_eq_left q, List.take_of_length_le (by simp)]
  · rw [Nat.min_eq_right (by omega), List.drop_eq_nil_of_le (Nat.le_refl _), List.drop_eq_nil_of_le (by omega)]
    simp
theorem cutL_to {α : Type} {xs : List α} {i : Int} (h : 0 ≤ i) : cutL xs none (some i) = xs.take i.toNat := by
  obtain ⟨k, rfl⟩ := Int.eq_ofNat_of_zero_le h
  unfold cutL
  rw [HT.sIx_none, HT.sIx_nat, Int.toNat_natCast, List.drop_zero, Nat.sub_zero]
  by_cases q : k ≤ xs.length
  · rw [Nat.min_eq_left q]
  · rw [Nat.min_eq_right (by omega), List.take_of_length_le (Nat.le_refl _), List.take_of_length_le (by omega)]
theorem Holds.forget {E : Ent} {G H : Hp} {σ : L2.St} {Γ : List Slot} (i : Nat) (h : Holds E G H σ Γ) : Holds E G H σ (Γ.set i .no) := h.weak (by rw [List.length_set]) fun j s q => by
  rcases get_set q with ⟨_, e⟩ | ⟨_, e⟩
  · exact .inl e
  · exact .inr e
/-- a list of one's own, frozen where it stands -/
theorem Holds.freeze {E : Ent} {G H : Hp} {σ : L2.St} {Γ : List Slot} {α : Type} {r : Rp α} {as : List α} {i : Nat} (h : Holds E G H σ Γ) (e : Γ[i]? = some (.ow (oLst r as))) : ∃ G', Holds E G' H σ (Γ.set i (.sh (rLst r) as)) := by
  obtain ⟨p, o, h1, h2, h3, h4, vs, h5, h6⟩ := h.ow e
  subst h5
  have hn : E.H p = none := h3
  refine ⟨upd G p (.lst vs), ⟨h.le.g.trans (Evl.Ex.new h2), h.le.h, fun a o q => ?_, fun a o q1 q2 => ?_, h.le.m⟩, h.fl.trans (Evl.Ex.new h2), by rw [List.length_set]; exact h.len, fun j s q => ?_, fun j k s t e1 e2 w1 w2 q => ?_⟩
  · by_cases z : a = p
    · subst z; rw [upd_same] at q; cases q; exact h4
    · rw [upd_ne z] at q; exact h.le.gh a o q
  · by_cases z : a = p
    · subst z; exact hn
    · rw [upd_ne z] at q1; exact h.le.new a o q1 q2
  · rcases get_set q with ⟨rfl, rfl⟩ | ⟨n, q⟩
    · exact ⟨_, h1, p, vs, rfl, upd_same, h6.mono (Evl.Ex.new h2)⟩
    · have w := h.ok j s q
      cases s with
      | no => trivial
      | sh r a =>
        obtain ⟨v, w1, w2⟩ := w
        exact ⟨v, w1, r.mono (Evl.Ex.new h2) w2⟩
      | ow c2 q2 =>
        obtain ⟨p2, o2, w1, w2, w3, w4, w5⟩ := w
        have np : p2 ≠ p := fun z => by
          subst z
          exact n (h.sep i j _ _ e q rfl rfl (by rw [h1, w1]))
        exact ⟨p2, o2, w1, by rw [upd_ne np]; exact w2, w3, w4, c2.mono (Evl.Ex.new h2) w5⟩
  · rcases get_set e1 with ⟨rfl, rfl⟩ | ⟨n1, e1⟩
    · cases w1
    · rcases get_set e2 with ⟨rfl, rfl⟩ | ⟨n2, e2⟩
      · cases w2
      · exact h.sep j k s t e1 e2 w1 w2 q
section
variable {X : Cx} {E : Ent} {Γ : List Slot} {D : Ends} {e f g elt tg iter : Expr} {es : List Expr} {rest : List Stmt} {pos p spos : Pos} {α β γ ω : Type} {r : Rp α} {x : α} {s : Rp β} {y : β} {t : Rp γ} {z : γ} {i j : Int} {u v : Str} {as bs : List α} {ro : Rp ω}
theorem bk_freeze (i : Nat) (hg : Γ[i]? = some (.ow (oLst r as))) (k : Bk X E (Γ.set i (.sh (rLst r) as)) rest D) : Bk X E Γ rest D := fun G H σ hh => by
  obtain ⟨G', h'⟩ := hh.freeze hg
  exact k G' H σ h'
theorem bk_setg (i : Nat) {a : Str} {p : Pos} (nd : X.N.Nodup) (he : Ev X Γ e r x) (k : ∀ y, y = x → Bk X E (Γ.set i (.sh r y)) rest D) (hi : X.N[i]? = some a := by rfl) (hx : Loc X.env.scope a := by first | exact Or.inl rfl | exact Or.inr rfl)
    (hs : swapsWith e (some (.Name a p)) pos.line X.env = pure false := by rfl) (hf : X.fn a = true ∨ X.env.scope.names.lookup a = some .local := by first | exact .inl rfl | exact .inr rfl) : Bk X E Γ (.Assign [.Name a p] e pos :: rest) D := bk_set i nd he (k x rfl) hi hx hs hf
theorem bk_setLm (i : Nat) {y : Str} {py : Pos} {scope : Scope} {U : α → List Slot → List Slot} {val : α → β} (own : List (Str × Nat)) (nd : X.N.Nodup) (hi : EvI X Γ tg iter r as) (ok : BlkOk X.N X.env.scope scope own) (ht : ∀ q, TgOk (blkX X scope q) tg r U (own.map (·.2)))
    (hv : ∀ q, ∀ a ∈ as, Ev (blkX X scope q) (U a (wipeS Γ (own.map (·.2)))) elt s (val a)) (hl : as.length ≤ 100000)
    (k : Bk X E (Γ.set i (.sh (rLst s) (as.map val))) rest D) (hy : X.N[i]? = some y := by rfl) (hyl : X.env.scope.names.lookup y = some .local := by rfl)
    (hsw : swapsWith (.ListComp elt [⟨tg, iter, [], 0⟩] scope pos) (some (.Name y py)) spos.line X.env = pure true := by exact sw_true rfl rfl rfl (by decide +kernel))
    (hc : X.calm = true := by rfl) (hs : ∀ x, foldedSetIterable iter X.env x = pure x := by intro _; rfl) : Bk X E Γ (.Assign [.Name y py] (.ListComp elt [⟨tg, iter, [], 0⟩] scope pos) spos :: rest) D :=
  bk_setLf (keep := fun _ => true) (val := val) i own nd hi ok ht (fun q a m => ets_nil) (fun q a m _ => hv q a m) hl (by rw [filter_tt]; exact k) hy hyl hsw hc hs
theorem RetO.eqO {as' : List α} (h : RetO E D (oLst r as)) (q : as = as') : RetO E D (oLst r as') := q ▸ h
/-- an answer that is told frozen, handed back as it stands -/
theorem RetOk.own (h : RetOk E D (rLst r) as) : RetO E D (oLst r as) := fun p o G H l g n h1 ⟨vs, e, h2⟩ => by
  subst e
  refine h _ (upd G p (.lst vs)) H ⟨l.g.trans (Evl.Ex.new g), l.h, fun a o q => ?_, fun a o q1 q2 => ?_, l.m⟩ ⟨p, vs, rfl, upd_same, h2.mono (Evl.Ex.new g)⟩
  · by_cases z : a = p
    · subst z; rw [upd_same] at q; cases q; exact h1
    · rw [upd_ne z] at q; exact l.gh a o q
  · by_cases z : a = p
    · subst z; exact n
    · rw [upd_ne z] at q1; exact l.new a o q1 q2
/-- xs[i], any int in bounds -/
theorem getD_some {l : List α} {n : Nat} {d : α} (h : n < l.length) : l[n]? = some (l.getD n d) := by
  rw [List.getD_eq_getElem?_getD, List.getElem?_eq_getElem h]
  rfl
theorem ev_atS {d : α} (hb : 0 ≤ i ∧ i < (as.length : Int)) (h : Ev X Γ e (rSeq X.K r) as) (h2 : Ev X Γ f rInt i) (hs : PlainIx f := by exact plain_of rfl) : Ev X Γ (.Subscript e f pos) r (as.getD i.toNat d) :=
  ev_ixS (k := i.toNat) h (h2.eq (by omega)) (getD_some (by omega)) hs
theorem ev_at {d : α} (hb : 0 ≤ i ∧ i < (as.length : Int)) (h : Ev X Γ e (rLst r) as) (h2 : Ev X Γ f rInt i) (hs : PlainIx f := by exact plain_of rfl) : Ev X Γ (.Subscript e f pos) r (as.getD i.toNat d) := ev_atS hb h.seq h2 hs
theorem ev_atB {d : α} (hb : 0 ≤ i ∧ i < (as.length : Int)) (h : EvB X Γ e (oLst r as)) (h2 : Ev X Γ f rInt i) (hs : PlainIx f := by exact plain_of rfl) : Ev X Γ (.Subscript e f pos) r (as.getD i.toNat d) :=
  ev_ixB (k := i.toNat) h (h2.eq (by omega)) (getD_some (by omega)) hs
/-- xs[-1] -/
theorem ev_lastB {d : α} {k : Nat} {p1 p2 : Pos} (h : EvB X Γ e (oLst r as)) (hn : as ≠ []) : Ev X Γ (.Subscript e (.UnaryOp .USub (.Constant (.int 1) k p1) p2) pos) r (as.getLastD d) := fun E G H σ hh Q q =>
  WE.of (pe_ix ix_list WE.pe (pe_un un_neg pe_int) (plain_of rfl)) (h E G H σ hh _ fun p o G1 H1 l1 hp ⟨vs, e1, ha⟩ => by
    subst e1
    refine ⟨1, rfl, ?_⟩
    obtain ⟨l, b, rfl⟩ : ∃ l b, as = l ++ [b] := ⟨as.dropLast, as.getLast hn, (List.dropLast_concat_getLast hn).symm⟩
    have hv := ha.concat
    obtain ⟨ws, w, rfl, rw'⟩ := hv
    exact ⟨p, ws ++ [w], -1, w, rfl, rfl, .inl (.inl hp), atI_last ws w, by
      have z : (l ++ [b]).getLastD d = b := by simp [List.getLastD_eq_getLast?]
      rw [z] at q
      exact q w G1 H1 l1 rw'⟩)
theorem ev_last {d : α} {k : Nat} {p1 p2 : Pos} (h : Ev X Γ e (rLst r) as) (hn : as ≠ []) : Ev X Γ (.Subscript e (.UnaryOp .USub (.Constant (.int 1) k p1) p2) pos) r (as.getLastD d) := ev_lastB h.bor hn
/-- data that == reads -/
theorem eqv_int {K : PySem.W.Frag} : Eqv K rInt i (.int i) := ⟨fun G v h => by cases h; exact .int i, rfl⟩
theorem eqv_bool {K : PySem.W.Frag} {b : Bool} : Eqv K rBool b (.bool b) := ⟨fun G v h => by cases h; exact .bl b, rfl⟩
theorem eqv_str {K : PySem.W.Frag} (h : PyData.strOk u = true) : Eqv K rStr u (.str u) := ⟨fun G v h => by cases h; exact .str u, by simp [SeqAt.shaped, PyData.canLay0, h, PyData.depth]⟩
def pdPair (a : Int × Int) : PyData := .tuple [.int a.1, .int a.2]
theorem eqv_pair {K : PySem.W.Frag} {a : Int × Int} : Eqv K (rT2 K rInt rInt) a (pdPair a) := ⟨fun G v ⟨p, v1, v2, e, h, h1, h2⟩ => by
  cases e; cases h1; cases h2
  exact .tup h (.cons (.int _) (.cons (.int _) .nil)), rfl⟩
theorem pdPair_eqv {a b : Int × Int} : PyData.eqv (pdPair a) (pdPair b) = decide (a = b) := by
  obtain ⟨a1, a2⟩ := a
  obtain ⟨b1, b2⟩ := b
  simp [pdPair, PyData.eqv, PyData.eqvAll]
  by_cases h1 : a1 = b1 <;> by_cases h2 : a2 = b2 <;> simp [h1, h2]
def pdInts (a : List Int) : PyData := .list (a.map .int)
theorem dpAll_ints {K : PySem.W.Frag} {G : Hp} : ∀ {vs : List V} {ns : List Int}, All2 rInt G vs ns → DpAll K G vs (ns.map .int)
  | _, _, .nil => .nil
  | _, _, .cons h t => by cases h; exact .cons (.int _) (dpAll_ints t)
def pdStrs (a : List Str) : PyData := .list (a.map .str)
theorem dpAll_strs {K : PySem.W.Frag} {G : Hp} : ∀ {vs : List V} {ns : List Str}, All2 rStr G vs ns → DpAll K G vs (ns.map .str)
  | _, _, .nil => .nil
  | _, _, .cons h t => by cases h; exact .cons (.str _) (dpAll_strs t)
theorem eqv_strs {K : PySem.W.Frag} {ns : List Str} (hk : ∀ z ∈ ns, PyData.strOk z = true) : Eqv K (rLst rStr) ns (pdStrs ns) := ⟨fun G v ⟨p, vs, e, h, h2⟩ => by
  subst e
  exact .lst (.inl (.inl h)) (dpAll_strs h2), by
  have z : ∀ l : List Str, (∀ z ∈ l, PyData.strOk z = true) → PyData.canLayAll0 (l.map .str) = true := fun l => by
    induction l with
    | nil => intro _; rfl
    | cons a l ih =>
      intro h
      simp [PyData.canLayAll0, PyData.canLay0, ih (fun z m => h z (List.mem_cons_of_mem _ m)), h a List.mem_cons_self]
  have d : ∀ l : List Str, PyData.depthAll (l.map PyData.str) ≤ 1 := fun l => by
    induction l with
    | nil => simp [PyData.depthAll]
    | cons a l ih => simp [PyData.depthAll, PyData.depth]; omega
  unfold SeqAt.shaped pdStrs
  have := d ns
  simp only [PyData.canLay0, z ns hk, PyData.depth, Bool.true_and]
  exact decide_eq_true (by omega)⟩
theorem eqvAll_ints : ∀ {a b : List Int}, PyData.eqvAll (a.map .int) (b.map .int) = decide (a = b)
  | [], [] => rfl
  | [], _ :: _ => rfl
  | _ :: _, [] => rfl
  | x :: a, y :: b => by
    show (PyData.eqv (.int x) (.int y) && PyData.eqvAll (a.map .int) (b.map .int)) = _
    rw [eqvAll_ints]
    simp [PyData.eqv]
    by_cases h1 : x = y <;> by_cases h2 : a = b <;> simp [h1, h2]
theorem eqvAll_strs : ∀ {a b : List Str}, PyData.eqvAll (a.map .str) (b.map .str) = decide (a = b)
  | [], [] => rfl
  | [], _ :: _ => rfl
  | _ :: _, [] => rfl
  | x :: a, y :: b => by
    show (PyData.eqv (.str x) (.str y) && PyData.eqvAll (a.map .str) (b.map .str)) = _
    rw [eqvAll_strs]
    simp [PyData.eqv]
    by_cases h1 : x = y <;> by_cases h2 : a = b <;> simp [h1, h2]
theorem pdInts_eqv {a b : List Int} : PyData.eqv (pdInts a) (pdInts b) = decide (a = b) := by
  unfold pdInts PyData.eqv
  exact eqvAll_ints
theorem pdStrs_eqv {a b : List Str} : PyData.eqv (pdStrs a) (pdStrs b) = decide (a = b) := by
  unfold pdStrs PyData.eqv
  exact eqvAll_strs
/-! methods of texts -/
theorem ev_count {apos : Pos} (ha : Ev X Γ e rStr u) (hb : Ev X Γ f rStr v) (hst : starEach [f] X.env = [(false, eval f X.env)] := by rfl) (hbase : attributeBase e "count" X.env (eval e X.env) = eval e X.env := by rfl) (hline : (apos.endLine == pos.line) = true := by rfl) :
    Ev X Γ (.Call (.Attribute e "count" apos) [f] [] pos) rInt (Txt.count u v) := ev_m1 PySem.F.slot_str_count PySem.F.type_str_count mt_count ha hb (fun G H b ex hb Q q => by
  cases hb
  exact ⟨u, v, rfl, rfl, q _ G H (.refl ex) rfl⟩) hst hbase hline
theorem eo_split {apos : Pos} (hv : (v.length == 0) = false) (hn : u.length + 2 ≤ sizeLine) (ha : Ev X Γ e rStr u) (hb : Ev X Γ f rStr v) (hst : starEach [f] X.env = [(false, eval f X.env)] := by rfl) (hbase : attributeBase e "split" X.env (eval e X.env) = eval e X.env := by rfl) (hline : (apos.endLine == pos.line) = true := by rfl) :
    EvO X Γ (.Call (.Attribute e "split" apos) [f] [] pos) (oLst rStr (Txt.split u v)) := eo_m1 PySem.F.slot_str_split PySem.F.type_str_split mt_split ha hb (fun G H b ex hb Q q => by
  cases hb
  exact ⟨u, v, rfl, rfl, hv, hn, fun p n => q p _ _ n rfl ⟨_, rfl, all2_ofStr _⟩⟩) hst hbase hline
theorem ev_intT (hi : ∃ n, PySem.intText? u = some n) (hl : u.length ≤ 640) (h : Ev X Γ e rStr u) (hm : X.mg "int" = none) (hg : Gl X "int" := by rfl) (he : starEach (e :: []) X.env = (false, eval e X.env) :: starEach [] X.env := by rfl) (hpl : (backTo pos (starEach [] X.env)).any (·.1) = false := by rfl) :
    Ev X Γ (.Call (.Name "int" p) [e] [] pos) rInt ((PySem.intText? u).getD 0) := fun E G H σ hh Q q => by
  obtain ⟨n, hn⟩ := hi
  exact WE.of (pe_callTy call_int_str hg hm (by decide +kernel) (pa_cons WE.pe pa_nil he) (he := he) (hpl := hpl)) (h E G H σ hh _ fun v G1 H1 l1 r1 => ⟨u, n, by rw [show v = _ from r1], hn, hl, q _ G1 H1 l1 (by rw [hn]; rfl)⟩)
/-! slices -/
theorem eo_from {p2 : Pos} (h : EvB X Γ e (oLst r as)) (h2 : Ev X Γ f rInt i) : EvO X Γ (.Subscript e (.Slice (some f) none none p2) pos) (oLst r (cutL as (some i) none)) := fun E G H σ hh Q q =>
  WE.of (pe_slice sl_list WE.pe (po_some WE.pe) po_none) (h E G H σ hh _ fun p o G1 H1 l1 hp ⟨vs, e1, ha⟩ => by
    subst e1
    exact h2 E G1 H1 σ (hh.step l1) _ fun w G2 H2 l2 r2 => ⟨i, r2, p, vs, rfl, .inl (.inl (l2.h _ _ hp)), fun p3 n => q p3 _ G2 _ (Evl.fresh_back (l1.trans l2).h n) ((l1.trans l2).addO n) (Evl.fresh_back l2.gh n) upd_same ⟨_, rfl, (ha.mono l2.g).cut _ _⟩⟩)
theorem eo_to {p2 : Pos} (h : EvB X Γ e (oLst r as)) (h2 : Ev X Γ f rInt i) : EvO X Γ (.Subscript e (.Slice none (some f) none p2) pos) (oLst r (cutL as none (some i))) := fun E G H σ hh Q q =>
  WE.of (pe_slice sl_list WE.pe po_none (po_some WE.pe)) (h E G H σ hh _ fun p o G1 H1 l1 hp ⟨vs, e1, ha⟩ => by
    subst e1
    exact h2 E G1 H1 σ (hh.step l1) _ fun w G2 H2 l2 r2 => ⟨i, r2, p, vs, rfl, .inl (.inl (l2.h _ _ hp)), fun p3 n => q p3 _ G2 _ (Evl.fresh_back (l1.trans l2).h n) ((l1.trans l2).addO n) (Evl.fresh_back l2.gh n) upd_same ⟨_, rfl, (ha.mono l2.g).cut _ _⟩⟩)
theorem eo_fromto {g : Expr} {p2 : Pos} (h : EvB X Γ e (oLst r as)) (h2 : Ev X Γ f rInt i) (h3 : Ev X Γ g rInt j) : EvO X Γ (.Subscript e (.Slice (some f) (some g) none p2) pos) (oLst r (cutL as (some i) (some j))) := fun E G H σ hh Q q =>
  WE.of (pe_slice sl_list WE.pe (po_some WE.pe) (po_some WE.pe)) (h E G H σ hh _ fun p o G1 H1 l1 hp ⟨vs, e1, ha⟩ => by
    subst e1
    exact h2 E G1 H1 σ (hh.step l1) _ fun w G2 H2 l2 r2 => ⟨i, r2, h3 E G2 H2 σ ((hh.step l1).step l2) _ fun w G3 H3 l3 r3 => ⟨j, r3, p, vs, rfl, .inl (.inl ((l2.trans l3).h _ _ hp)), fun p3 n => q p3 _ G3 _ (Evl.fresh_back ((l1.trans l2).trans l3).h n) (((l1.trans l2).trans l3).addO n) (Evl.fresh_back l3.gh n) upd_same ⟨_, rfl, (ha.mono (l2.trans l3).g).cut _ _⟩⟩⟩)
/-- a for over a pair of like things -/
theorem ei_t2 {tg : Expr} {a : α × α} (h : Ev X Γ e (rT2 X.K r r) a) : EvI X Γ tg e r [a.1, a.2] := ⟨_, pi_tup WE.pe, fun E G H σ hh R q => h E G H σ hh _ fun v G1 H1 l1 ⟨p, v1, v2, e1, hp, h1, h2⟩ =>
  ⟨p, e1, ⟨_, Evl.ex_t l1.gh hp⟩, q _ G1 H1 l1 fun i G2 H2 g1 g2 => ⟨fun b eb => by
    have hp2 := Evl.ex_t (g1.trans g2) hp
    have ha : All2 r G1 [v1, v2] [a.1, a.2] := .cons h1 (.cons h2 .nil)
    obtain ⟨v, ev, rv⟩ := ha.get eb
    exact ⟨⟨_, v, hp2, ev⟩, fun x H' y => by
      obtain ⟨e3, y2⟩ := y
      have e4 := y2 _ hp2
      rw [ev] at e4
      cases e4
      rw [e3]
      exact ⟨G2, .refl g2, r.mono g1 rv⟩⟩, fun le => ⟨_, Evl.ex_t (g1.trans g2) hp, by exact le⟩⟩⟩⟩
theorem tg_tup3 {t1 t2 t3 : Expr} {n : Nat} {U : α → List Slot → List Slot} {W : β → List Slot → List Slot} {Z : γ → List Slot → List Slot} {vs ws zs : List Nat} (h1 : TgOk X t1 r U vs) (h2 : TgOk X t2 s W ws) (h3 : TgOk X t3 t Z zs) (hc : X.calm = true := by rfl)
    (hs1 : (assignEach (t1 :: [t2, t3]) X.env).map (·.2) = assign t1 X.env :: (assignEach [t2, t3] X.env).map (·.2) := by rfl) (hs2 : (assignEach (t2 :: [t3]) X.env).map (·.2) = assign t2 X.env :: (assignEach [t3] X.env).map (·.2) := by rfl) (hs3 : (assignEach (t3 :: []) X.env).map (·.2) = assign t3 X.env :: (assignEach [] X.env).map (·.2) := by rfl)
    (hn : (assignEach [t1, t2, t3] X.env).length = 3 := by rfl) (hst : (assignEach [t1, t2, t3] X.env).findIdx? (·.1) = none := by rfl) :
    TgOk X (.Tuple [t1, t2, t3] n pos) (rT3 X.K r s t) (fun a Γ => Z a.2.2 (W a.2.1 (U a.1 Γ))) (vs ++ (ws ++ zs)) := fun E G H σ Γ v a hh hv Q q => by
  obtain ⟨p, v1, v2, v3, e, hp, q1, q2, q3⟩ := hv
  subst e
  refine WG.of (pg_tup hc (pgs_cons (t := WG X t1) WG.pg (pgs_cons (t := WG X t2) WG.pg (pgs_cons (t := WG X t3) WG.pg pgs_nil hs3) hs2) hs1) hn hst) ⟨p, [v1, v2, v3], rfl, Evl.ex_t hh.le.gh hp, rfl, v1, [v2, v3], rfl, ?_⟩
  exact h1 E G H σ Γ v1 a.1 hh q1 _ fun σ1 b1 hh1 => ⟨v2, [v3], rfl, h2 E G H σ1 _ v2 a.2.1 hh1 q2 _ fun σ2 b2 hh2 => ⟨v3, [], rfl, h3 E G H σ2 _ v3 a.2.2 hh2 q3 _ fun σ3 b3 hh3 => ⟨rfl, q σ3 (b1.trans (b2.trans b3)) hh3⟩⟩⟩
theorem ev_t3a {a : α × β × γ} {k : Nat} {p2 : Pos} (h : Ev X Γ e (rT3 X.K r s t) a) : Ev X Γ (.Subscript e (.Constant (.int 0) k p2) pos) r a.1 := fun E G H σ hh Q q =>
  WE.of (pe_ix ix_tup WE.pe pe_int (plain_of rfl)) (h E G H σ hh _ fun v G1 H1 l1 ⟨p, v1, v2, v3, e1, hp, h1, h2, h3⟩ => ⟨p, _, 0, v1, e1, rfl, Evl.ex_t l1.gh hp, rfl, q _ G1 H1 l1 h1⟩)
theorem ev_t3b {a : α × β × γ} {k : Nat} {p2 : Pos} (h : Ev X Γ e (rT3 X.K r s t) a) : Ev X Γ (.Subscript e (.Constant (.int 1) k p2) pos) s a.2.1 := fun E G H σ hh Q q =>
  WE.of (pe_ix ix_tup WE.pe pe_int (plain_of rfl)) (h E G H σ hh _ fun v G1 H1 l1 ⟨p, v1, v2, v3, e1, hp, h1, h2, h3⟩ => ⟨p, _, 1, v2, e1, rfl, Evl.ex_t l1.gh hp, rfl, q _ G1 H1 l1 h2⟩)
theorem ev_t3c {a : α × β × γ} {k : Nat} {p2 : Pos} (h : Ev X Γ e (rT3 X.K r s t) a) : Ev X Γ (.Subscript e (.Constant (.int 2) k p2) pos) t a.2.2 := fun E G H σ hh Q q =>
  WE.of (pe_ix ix_tup WE.pe pe_int (plain_of rfl)) (h E G H σ hh _ fun v G1 H1 l1 ⟨p, v1, v2, v3, e1, hp, h1, h2, h3⟩ => ⟨p, _, 2, v3, e1, rfl, Evl.ex_t l1.gh hp, rfl, q _ G1 H1 l1 h3⟩)
/-! names of the module -/
theorem ev_gint {n : Str} (h : ∃ t, X.mg n = some (.int i t)) (hg : Gl X n := by rfl) (hd : (n == ("__debug__" : Str)) = false := by decide) : Ev X Γ (.Name n pos) rInt i := fun E G H σ hh Q q => by
  obtain ⟨t, h⟩ := h
  exact WE.of (pe_glob (v := .int i) hg h ⟨t, rfl⟩ hd) (q _ G H (.refl hh.le.gh) rfl)
theorem ev_gstr {n : Str} (h : ∃ t, X.mg n = some (.str u t)) (hg : Gl X n := by rfl) (hd : (n == ("__debug__" : Str)) = false := by decide) : Ev X Γ (.Name n pos) rStr u := fun E G H σ hh Q q => by
  obtain ⟨t, h⟩ := h
  exact WE.of (pe_glob (v := .str u) hg h ⟨t, rfl⟩ hd) (q _ G H (.refl hh.le.gh) rfl)
theorem ev_gref {n : Str} {a : Addr} (h : X.mg n = some (.ref a)) (hr : ∀ G, r.rel G (.ref a) x) (hg : Gl X n := by rfl) (hd : (n == ("__debug__" : Str)) = false := by decide) : Ev X Γ (.Name n pos) r x := fun E G H σ hh Q q =>
  WE.of (pe_glob (v := .ref a) hg h rfl hd) (q _ G H (.refl hh.le.gh) (hr G))
/-! data of any form -/
theorem ev_dint (h : Ev X Γ e rInt i) : Ev X Γ e (rDyn X.K ro) (.int i) := fun E G H σ hh Q q => h E G H σ hh Q fun v G1 H1 l1 r1 => q v G1 H1 l1 (by cases r1; exact .int i)
theorem ev_dstr (h : Ev X Γ e rStr u) : Ev X Γ e (rDyn X.K ro) (.str u) := fun E G H σ hh Q q => h E G H σ hh Q fun v G1 H1 l1 r1 => q v G1 H1 l1 (by cases r1; exact .str u)
end
end Hf

namespace Hf
open PySem PySem.Spec PyProof.Rows L2
abbrev FnP (K : PySem.W.Frag) (x : Str) (st : Stmt) (f : Addr) (fd : FuncData) : Prop := FunD K x x (defArgs st) (defBody st) (defScope st) [] [] f fd
/-! sizes of ints -/
def Top (i : Int) : Prop := i.natAbs.log2 < 100000
def Bot (j : Int) : Prop := 0 < j ∧ j.natAbs.log2 < 9000
theorem log2_lt {n k : Nat} (h0 : 0 < k) (h : n < 2 ^ k) : n.log2 < k := PySem.Flt.log2_lt_of h0 h
theorem top_of {i : Int} {k : Nat} (h : i.natAbs < 2 ^ k) (h0 : 0 < k) (hk : k ≤ 100000) : Top i := Nat.lt_of_lt_of_le (log2_lt h0 h) hk
theorem bot_of {i : Int} {k : Nat} (hp : 0 < i) (h : i.natAbs < 2 ^ k) (h0 : 0 < k) (hk : k ≤ 9000) : Bot i := ⟨hp, Nat.lt_of_lt_of_le (log2_lt h0 h) hk⟩
theorem Bot.top {i : Int} (h : Bot i) : Top i := Nat.lt_trans h.2 (by decide)
theorem top1 : Top 1 := by unfold Top; decide
theorem cm {i j : Int} (h : Top i) (k : Top j) : CMulW i j := by unfold CMulW Top at *; omega
theorem Bot.div {i j : Int} (h : Bot j) : CDivW i j := h
theorem log2_mono {m n : Nat} (h : m ≤ n) : m.log2 ≤ n.log2 := by
  by_cases hm : m = 0
  · subst hm; simp
  · exact (Nat.le_log2 (by omega)).mpr (Nat.le_trans ((Nat.le_log2 hm).mp (Nat.le_refl _)) h)
theorem Bot.le {i j : Int} (h : Bot j) (h0 : 0 < i) (h1 : i ≤ j) : Bot i := ⟨h0, Nat.lt_of_le_of_lt (log2_mono (by omega)) h.2⟩
/-! shares -/
def share (t b : Int) : Int × Int := (t / (Int.gcd t b : Int), b / (Int.gcd t b : Int))
def isMore (a b : Int × Int) : Bool := decide (b.1 * a.2 < a.1 * b.2)
theorem gcd_pos_r {t b : Int} (h : 0 < b) : 0 < (Int.gcd t b : Int) := by
  have := Int.gcd_pos_of_ne_zero_right t (b := b) (by omega)
  omega
theorem gcd_le_r {t b : Int} (h : 0 < b) : (Int.gcd t b : Int) ≤ b := Int.le_of_dvd h (Int.gcd_dvd_right ..)
theorem gcd_step {x y : Int} (hx : 0 ≤ x) (hy : 0 ≤ y) : Int.gcd y (x % y) = Int.gcd x y := by
  obtain ⟨m, rfl⟩ := Int.eq_ofNat_of_zero_le hx
  obtain ⟨n, rfl⟩ := Int.eq_ofNat_of_zero_le hy
  show Nat.gcd _ _ = Nat.gcd _ _
  rw [← Int.natCast_emod, Int.natAbs_natCast, Int.natAbs_natCast, Int.natAbs_natCast]
  rw [Nat.gcd_comm, Nat.gcd_comm m n, Nat.gcd_rec n m]
theorem gcd_absif {t b : Int} : (Int.gcd (if t < 0 then -t else t) b) = Int.gcd t b := by
  split
  · simp
  · rfl
/-- an own global that is an object of the written part -/
theorem ev_gref' {X : Cx} {Γ : List Slot} {α : Type} {r : Rp α} {x : α} {pos : Pos} {n : Str} (h : ∃ a, X.mg n = some (.ref a) ∧ ∀ G, r.rel G (.ref a) x) (hg : Gl X n := by rfl) (hd : (n == ("__debug__" : Str)) = false := by decide) : Ev X Γ (.Name n pos) r x := by
  obtain ⟨a, h1, h2⟩ := h
  exact ev_gref h1 h2 hg hd
theorem ev_lenT2 {X : Cx} {Γ : List Slot} {α β : Type} {r : Rp α} {s : Rp β} {a : α × β} {e : Expr} {pos p : Pos} (h : Ev X Γ e (rT2 X.K r s) a) (hm : X.mg "len" = none) (hg : Gl X "len" := by rfl) (he : starEach (e :: []) X.env = (false, eval e X.env) :: starEach [] X.env := by rfl) (hpl : (backTo pos (starEach [] X.env)).any (·.1) = false := by rfl) :
    Ev X Γ (.Call (.Name "len" p) [e] [] pos) rInt 2 := fun E G H σ hh Q q =>
  WE.of (pe_callB call_len_seq hg hm PySem.boot_len (pa_cons WE.pe pa_nil he) (he := he) (hpl := hpl)) (h E G H σ hh _ fun v G1 H1 l1 ⟨p, v1, v2, e1, hp, _, _⟩ => ⟨p, _, by rw [e1], .inr (Evl.ex_t l1.gh hp), q _ G1 H1 l1 rfl⟩)
theorem kind_seq {K : PySem.W.Frag} {α : Type} {r : Rp α} {as : List α} : Kind K (rSeq K r) as "list" := fun G v ⟨p, vs, e, h, _⟩ => by
  subst e
  rcases h with (h | ⟨o, h⟩) | ⟨o, its, n, h, c, _⟩
  · exact .base (.lst h)
  · exact .base (.frz h)
  · exact .kList h c
/-- int(..) // .. of the law's cells -/
def cellAt (script : List Int) (k : Int) : Int :=
  if decide (k < (script.length : Int)) = true then script.getD k.toNat 0
  else if PyData.eqv (pdInts script) (pdInts []) = true then k * 48271
  else (script.getD (k % (script.length : Int)).toNat 0 + k) * 48271 % 2147483647
theorem eqv_seqInts {K : PySem.W.Frag} {ns : List Int} : Eqv K (rSeq K rInt) ns (pdInts ns) := ⟨fun G v ⟨p, vs, e, h, h2⟩ => by
  subst e
  exact .lst h (dpAll_ints h2), by
  have z : ∀ l : List Int, PyData.canLayAll0 (l.map .int) = true := fun l => by
    induction l with
    | nil => rfl
    | cons a l ih => simp [PyData.canLayAll0, PyData.canLay0, ih]
  have d : ∀ l : List Int, PyData.depthAll (l.map PyData.int) ≤ 1 := fun l => by
    induction l with
    | nil => simp [PyData.depthAll]
    | cons a l ih => simp [PyData.depthAll, PyData.depth]; omega
  unfold SeqAt.shaped pdInts
  have := d ns
  simp only [PyData.canLay0, z, PyData.depth, Bool.true_and]
  exact decide_eq_true (by omega)⟩
theorem eqv_ints {K : PySem.W.Frag} {ns : List Int} : Eqv K (rLst rInt) ns (pdInts ns) := ⟨fun G v ⟨p, vs, e, h, h2⟩ => (eqv_seqInts (K := K)).dp G v ⟨p, vs, e, .inl (.inl h), h2⟩, (eqv_seqInts (K := K)).sh⟩
end Hf

namespace Hf
open PySem PySem.Spec PyProof.Rows L2
def isShare (t : Int × Int) : Bool := decide (0 ≤ t.1) && decide (1 ≤ t.2) && decide (share t.1 t.2 = t)
def isNum (i lo hi : Int) : Bool := decide (lo ≤ i) && decide (i ≤ hi)
theorem foldl_next {α β : Type} {xs : List α} {i : Nat} {a : α} {f : β → α → β} {b s : β} (h : xs[i]? = some a) (e : s = (xs.take i).foldl f b) {s' : β} (k : s' = f s a) : s' = (xs.take (i + 1)).foldl f b := by
  rw [List.take_add_one, h, List.foldl_append, ← e, k]
  rfl
/-! one sign many times -/
theorem mul_length {x : Str} {n : Int} (h : 0 ≤ n) (h1 : x.length = 1) : (Txt.mul x n).length = n.toNat := by
  unfold Txt.mul
  by_cases z : n < 1
  · rw [if_pos z]
    have : n = 0 := by omega
    subst this
    rfl
  · rw [if_neg z]
    by_cases e : n = 1
    · subst e
      rw [if_pos (by simp)]
      simpa using h1
    · rw [if_neg (by simp [e, h1])]
      have g : ∀ (k : Nat) (acc : Array Nat), ((List.replicate k x.cps).foldl (· ++ ·) acc).size = acc.size + k := fun k => by
        induction k with
        | zero => intro acc; simp
        | succ k ih =>
          intro acc
          rw [List.replicate_succ, List.foldl_cons, ih, Array.size_append]
          have : x.cps.size = 1 := h1
          omega
      show ((List.replicate n.toNat x.cps).foldl (· ++ ·) #[]).size = n.toNat
      rw [g]
      simp
theorem mulOk_one {x : Str} {n : Int} (h : 0 ≤ n ∧ n ≤ 1000) (h1 : x.length = 1 := by rfl) : MulOk x n := by
  refine ⟨by simp; omega, fun _ _ => ?_, fun _ _ => ?_⟩
  · rw [h1]
    have : (2 ^ 63 - 1 : Int) / n ≥ 1 := by
      have : (2 ^ 63 - 1 : Int) / n ≥ (2 ^ 63 - 1) / 1000 * 1 / 1 := by
        rw [ge_iff_le, Int.le_ediv_iff_mul_le (by omega)]
        omega
      omega
    omega
  · rw [h1]
    unfold Builtin.Str.tooLong
    have : n.toNat ≤ 1000 := by omega
    have z : 1 * n.toNat ≤ sizeLine := Evl.sz_of (by omega)
    simp only [decide_eq_false_iff_not]
    omega
/-! shares of the whole -/
def isPart (thing : Int × Int) : Bool := (isShare thing && !isMore thing (1, 1))
theorem part_facts {t : Int × Int} (h : isPart t = true) : 0 ≤ t.1 ∧ 1 ≤ t.2 ∧ t.1 ≤ t.2 := by
  simp [isPart, isShare, isMore] at h
  omega
theorem part_pos {t : Int × Int} (h : isPart t = true) (hl : t.2.natAbs.log2 < 30) : 0 < t.2 ∧ t.2 < 1073741824 := by
  have := part_facts h
  refine ⟨by omega, ?_⟩
  have : t.2.natAbs < 2 ^ 30 := (Nat.log2_lt (by omega)).mp hl
  omega
def doneOf (s : Int × Int) (many : Int) : Int := s.1 * many / s.2
def barT (s : Int × Int) (many : Int) : Str := Txt.mul "#" (doneOf s many) ++ Txt.mul "." (many - doneOf s many)
theorem done_bounds {t : Int × Int} {m : Int} (h : isPart t = true) (hm : 1 ≤ m) : 0 ≤ doneOf t m ∧ doneOf t m ≤ m := by
  obtain ⟨h0, h1, h2⟩ := part_facts h
  unfold doneOf
  refine ⟨Int.ediv_nonneg (Int.mul_nonneg h0 (by omega)) (by omega), ?_⟩
  have : t.1 * m ≤ m * t.2 := by
    rw [Int.mul_comm m]
    exact Int.mul_le_mul_of_nonneg_right h2 (by omega)
  have := Int.ediv_le_ediv (by omega : 0 < t.2) this
  rw [Int.mul_ediv_cancel _ (by omega)] at this
  exact this
end Hf

namespace Hf
open PySem PySem.Spec PyProof.Rows L2
abbrev FnD (K : PySem.W.Frag) (x : Str) (st : Stmt) (dvs : List V) (f : Addr) (fd : FuncData) : Prop := FunD K x x (defArgs st) (defBody st) (defScope st) dvs [] f fd
theorem cxl_no {P : Program} {w : World} {l : List Env} {H : Hp} {s : Shared} {e : Value} {s' : Shared} (h : L2.CX P w l H s E0 e s') : False := by
  obtain ⟨_, _, _, _, _, _, _, _, _, _, _, _, z⟩ := h
  exact z.elim
theorem fn_quiet {P : Program} {w : World} {K : PySem.W.Frag} {mg : Str → Option Value} {base : Heap} {k : Nat} {f : Addr} {fd : FuncData} {ps : List Str} {sp : Sp} (F : FnOk P w K mg base (CXL P w) k f fd ps sp) (h : ∀ vs H Q E E', sp vs H Q E → sp vs H Q E') : FnOk P w K mg base CX0 k f fd ps sp :=
  ⟨F.len, fun A outer s H args us vs Q E hr he hb hv hs => codeAny_mono (F.run A outer s H args us vs Q E0 hr he hb hv (h _ _ _ _ _ hs)) fun r s' q => by
    cases r with
    | error e => exact (cxl_no q).elim
    | ok fl => cases fl <;> exact q⟩
/-- a def of which the last parameters may be left out -/
theorem Has.mkD {P : Program} {w : World} {K : PySem.W.Frag} {mg : Str → Option Value} {base : Heap} {x : Str} {k : Nat} {sp spF : Sp} {f : Addr} {fd : FuncData} {ps : List Str} {dvs : List V} (hm : mg x = some (.ref f)) (hk : PySem.W.keepIn K (.ref f) = true) (hb : ∃ ds, Vals dvs ds ∧ Binds K fd ps ds) (F : FnOk P w K mg base (CXL P w) k f fd ps spF)
    (h : ∀ vs H Q, sp vs H Q E0 → spF (vs ++ dvs) H Q E0) : Has P w K mg base x k sp := by
  obtain ⟨ds, h1, h2⟩ := hb
  exact ⟨f, fd, ps, spF, dvs, ds, hm, hk, h2, h1, F, h⟩
theorem args_app {G : Hp} {v : V} {t : Ty} (h : t.r.rel G v t.a) : ∀ {vs : List V} {ts : List Ty}, Args G vs ts → Args G (vs ++ [v]) (ts ++ [t])
  | [], [], _ => ⟨h, trivial⟩
  | _ :: _, _ :: _, k => ⟨k.1, args_app h k.2⟩
end Hf

/-! set(list of ints), sorted(set of ints), any number of them -/
namespace Hf
open PySem PySem.Spec PyProof.Rows L2 PySem.W PySem.Calls
/-- the set that is made first -/
abbrev nset (w : World) : Obj := { cls := .type "set", dict := none, data := .set #[] 0 (.fresh 0 0 (!w.params.followText "set-order")) }
section
variable {P : Program} {w : World} {A : Around} {E : Value → Shared → Prop} {s : Shared}
set_option maxHeartbeats 3200000 in
theorem set_of_list {l : Addr} {items : Array Value} (ns : List Int) {Q : Value → Shared → Prop} (nh : A.handled = none) (hl : s.heap.IsList l items) (it : IntsAre items.toList ns) (fit : ns.length + 1 < scanBound)
    (k : ∀ (g : Heap) (tk c : Nat), SetR w g s.heap.objs.size (fun j => decide (j ∈ ns)) c → c ≤ ns.length → (∀ b o, s.heap.get? b = some o → g.get? b = some o) → Q (.ref s.heap.objs.size) { s with heap := g, toks := tk }) :
    wpAny (model P w) A (call (.type "set") [.ref l]) Q E s := by
  have sz : items.size = ns.length := by have q := it.length; rw [Array.length_toList] at q; exact q
  have fs := F.called_set
  obtain ⟨mc, mt, hmro⟩ := fs.mro
  have x1 := fs.made; have x2 := fs.sub; have x3 := fs.notType; have x4 := fs.canCreate
  refine wpAny_call (codeAny_of_tree (wpAny_pure (show _ ∧ _ from ⟨Code.quiet_builtin _ (by decide +kernel), codeAny_builtin F.entry_type_call ?_⟩)))
  rw [Around.under_plain (weight_type_call_type "set" [.ref l] []) rfl]
  have x5 := F.typeCall_set_1 (.ref l)
  repeat (any_goals (first | assumption | wp_step))
  refine codeAny_mono (code_set_led1 (.ref l) (E := E) (Q₁ := fun ob u => ob = .ref s.heap.objs.size ∧ u = { s with heap := s.heap.push (nset w) }) ⟨rfl, rfl⟩) fun r u hr => ?_
  match r, hr with
  | .error e, hr => exact hr
  | .ok (.ret ob), hr =>
    obtain ⟨e1, e2⟩ := hr
    subst e1; subst e2
    have hS : (s.heap.push (nset w)).get? s.heap.objs.size = some (nset w) := Heap.get?_push_size _ rfl
    have hT : Shared.TypeIs { s with heap := s.heap.push (nset w) } (.ref s.heap.objs.size) "set" := ⟨_, hS, rfl⟩
    have x6 := fs.init.lookup; have x7 := fs.init.bind (.ref s.heap.objs.size)
    repeat (any_goals (first | assumption | wp_step))
    refine codeAny_mono (codeAny_call_builtin (R := wants (fun r s₂ => r = .none ∧ ∃ g tk c, s₂ = { s with heap := g, toks := tk } ∧ SetR w g s.heap.objs.size (fun j => decide (j ∈ ns)) c ∧ c ≤ ns.length ∧
        (∀ b o, s.heap.get? b = some o → g.get? b = some o)) E) fs.init.plain F.entry_set_init (check_set_init_1 hT ?_)) fun r₂ s₂ hr₂ => ?_
    · obtain ⟨⟨ocls, odict, odata, oslots⟩, hol, hcl, nl, hdl⟩ := hl
      simp only at hcl hdl
      subst hcl; subst hdl
      have hl1 : (s.heap.push (nset w)).IsList l items := ⟨_, Heap.get?_push_of_some _ hol, rfl, nl, rfl⟩
      have hol' : (s.heap.push (nset w)).get? l = some { cls := .type "list", dict := odict, data := .seq items nl, slots := oslots } := Heap.get?_push_of_some _ hol
      have y1 := F.sub_list_set; have y2 := F.sub_list_frozenset
      have y3 : (Value.type "list" == Value.type "dict") = false := by decide
      unfold Builtin.«set.__init__» noKeywords Builtin.Frozenset.updateFrom
      generalize hPI : pyIter = PI
      wp_walk
      subst hPI
      refine wpAny_pyIter_list hl1 (wpAny_bind (wpAny_runValue ?_))
      have ls : l < s.heap.objs.size := Heap.lt_size hol
      have pz : (s.heap.push (nset w)).objs.size = s.heap.objs.size + 1 := Heap.size_push ..
      have hh3 : A.in1.in1.in1.handled = none := by simp [nh]
      refine set_update_ints ((Walks.list hh3 (s.heap.push (nset w)).objs.size l (by rw [pz]; exact Nat.ne_of_lt (Nat.lt_succ_of_lt ls)) items).toS) s.heap.objs.size
        (by rw [pz]; simp only [List.mem_cons, List.not_mem_nil, or_false, not_or]; exact ⟨Nat.ne_of_lt (Nat.lt_succ_self _), Nat.ne_of_gt ls⟩) ns sz fit (fun i v hv => ?hval) (items.size - 0) 0 _ (by omega) (Nat.zero_le _) ⟨⟨_, Heap.get?_push_size _ rfl, rfl, rfl⟩, hl1.push _⟩ ⟨0, Nat.le_refl 0, setR_new_at (Heap.get?_push_of_some _ hS)⟩ fun s' c' hm hc' hS' => ?_
      case hval =>
        have hi : i < ns.length := by rw [← sz]; exact (Array.getElem?_eq_some_iff.mp hv).1
        obtain ⟨t, e⟩ := it.int_at i v (by rw [Array.getElem?_toList]; exact hv)
        refine ⟨ns[i], t, List.getElem?_eq_getElem hi, ?_⟩
        rw [e, List.getD_eq_getElem?_getD, List.getElem?_eq_getElem hi]; rfl
      obtain ⟨g, g2, d', tk, os'⟩ := s'
      have eg : g2 = s.gens := hm.gens
      have ed : d' = s.drawn := hm.drawn
      have eo : os' = s.os := hm.os
      subst eg; subst ed; subst eo
      rw [sz] at hc'
      refine wpAny_pure (show wpAny _ _ (ret Value.none) _ _ _ from wpAny_pure ⟨rfl, g, tk, c', rfl, hS', hc', fun b o e => ?_⟩)
      have hb0 : b < s.heap.objs.size := Heap.lt_size e
      exact hm.heap b o (by rw [pz]; simp only [List.mem_cons, List.not_mem_nil, or_false, not_or]; exact ⟨Nat.ne_of_lt hb0, Nat.ne_of_lt (Nat.lt_succ_of_lt hb0)⟩) (Heap.get?_push_of_some _ (Heap.get?_push_of_some _ e))
    · match r₂, hr₂ with
      | .error e, hr₂ => exact hr₂
      | .ok (.ret r), hr₂ =>
        obtain ⟨e1, g, tk, c', e2, hS', hc', hk'⟩ := hr₂
        subst e1; subst e2
        repeat (any_goals (first | assumption | wp_step))
        exact k _ _ _ hS' hc' hk'
theorem sorted_of_set {a : Addr} {S : Int → Bool} {n : Nat} {Q : Value → Shared → Prop} (R : SetR w s.heap a S n) (nh : A.handled = none)
    (k : ∀ u p (out : Array Value) (c : Nat) (ns : List Int), (∀ b o, s.heap.get? b = some o → u.heap.get? b = some o) → u.gens = s.gens → u.os = s.os → s.heap.objs.size ≤ p →
      u.heap.get? p = some (seqObj "list" out c) → IntsAre out.toList ns → ns.Pairwise (· < ·) → (∀ k, k ∈ ns ↔ S k = true) → ns.length ≤ scanBound → Q (.ref p) u) :
    wpAny (model P w) A (call (.builtin "sorted") [.ref a]) Q E s := by
  obtain ⟨o, es, ep, t, ho, hex, hd, g, nd, hm, hb, hf, hn, hr, hl⟩ := R
  refine call_function_entry kind_sorted plain_sorted entry_sorted (args_sorted1 _) ?_
  unfold Builtin.«sorted»
  refine wpAny_bind (m := checkCount "sorted" 1 1 _) (wpAny_pure (wpAny_bind (collect_set (A := A.in1) nh ⟨o, ho, hex.1, hd⟩ hf hb hr hl fun u vs k1 hz g1 o1 pm => ?_)))
  have vl : vs.length = es.size := by rw [pm.length_eq, List.length_map, Array.length_toList]
  have hI : IntsAre vs (vs.map Builtin.Re.reRawOf) := ints_of vs fun v hv => by
    obtain ⟨e, he, q⟩ := List.mem_map.mp (pm.mem_iff.mp hv)
    obtain ⟨i, tk, h1, _⟩ := g e he
    exact ⟨i, tk, q.symm.trans h1⟩
  have pk : (vs.map Builtin.Re.reRawOf).Perm (es.toList.map keyOf) := by
    have q := pm.map Builtin.Re.reRawOf
    rwa [List.map_map] at q
  have lim : vs.length ≤ sizeLine := by rw [vl]; exact fits_of_scanBound hb
  have hoL : (u.heap.push (seqObj "list" vs.toArray 0)).get? u.heap.objs.size = some (seqObj "list" vs.toArray 0) := Heap.get?_push_size _ rfl
  refine wpAny_bind (wpAny_newList (wpAny_bind (wpAny_holding (wpAny_call_entry slot_list_sort ⟨_, hoL, rfl⟩ entry_list_sort
    (SrtO.list_sort_ord SrtO.swo_int hoL lim (fun h2 => SrtO.ints_sortable hI h2) fun out h1 h2 => ⟨_, rfl, ?_⟩) (args_list_sort _)))) lim)
  obtain ⟨b1, b2, b3⟩ := SrtO.ints_out hI h1 h2
  obtain ⟨c, hc⟩ := sortedHeap_at (vs := vs) (out := out.toArray) hoL
  have pn := b2.trans pk
  refine wpAny_pure ⟨_, rfl, k _ u.heap.objs.size out.toArray c (out.map SrtO.iv) (fun b v e => ?_) g1 o1 hz hc b1 (lt_of_le_nodup _ b3 (pn.nodup_iff.mpr nd)) (fun i => by rw [pn.mem_iff, ← hm i]) ?_⟩
  · have q := k1 b v e
    have lt := Heap.lt_size q
    show (sortedHeap (u.heap.push (seqObj "list" vs.toArray 0)) u.heap.objs.size vs out.toArray).get? b = some v
    rw [sortedHeap_old (Nat.ne_of_lt lt) (by rw [size_push']; exact Nat.lt_succ_of_lt lt)]
    exact Heap.get?_push_of_some _ q
  · rw [pn.length_eq, List.length_map, Array.length_toList]; omega
end
end Hf

namespace Hf
open PySem PySem.Spec PyProof.Rows L2

/-! ### set, sorted -/
def insU (a : Int) : List Int → List Int
  | [] => [a]
  | b :: l => if a < b then a :: b :: l else if a = b then b :: l else b :: insU a l
def sortU (ns : List Int) : List Int := ns.foldr insU []
theorem insU_mem {a x : Int} : ∀ {l : List Int}, x ∈ insU a l ↔ x = a ∨ x ∈ l
  | [] => by simp [insU]
  | b :: l => by
    unfold insU
    split
    · simp
    · split
      · rename_i h; subst h; simp
      · simp [insU_mem (l := l)]
        grind
theorem insU_lt {a : Int} : ∀ {l : List Int}, l.Pairwise (· < ·) → (insU a l).Pairwise (· < ·)
  | [], _ => by simp [insU]
  | b :: l, h => by
    obtain ⟨h1, h2⟩ := List.pairwise_cons.mp h
    unfold insU
    split
    · rename_i q
      exact List.pairwise_cons.mpr ⟨fun y hy => (List.mem_cons.mp hy).elim (fun e => by omega) (fun e => by have := h1 y e; omega), h⟩
    · split
      · exact h
      · exact List.pairwise_cons.mpr ⟨fun y hy => (insU_mem.mp hy).elim (fun e => by omega) (fun e => h1 y e), insU_lt h2⟩
theorem sortU_mem {x : Int} : ∀ {l : List Int}, x ∈ sortU l ↔ x ∈ l
  | [] => by simp [sortU]
  | b :: l => by
    show x ∈ insU b (sortU l) ↔ _
    rw [insU_mem, sortU_mem (l := l), List.mem_cons]
theorem sortU_lt : ∀ {l : List Int}, (sortU l).Pairwise (· < ·)
  | [] => by simp [sortU]
  | b :: l => insU_lt (sortU_lt (l := l))
theorem strict_ext : ∀ {a b : List Int}, a.Pairwise (· < ·) → b.Pairwise (· < ·) → (∀ x, x ∈ a ↔ x ∈ b) → a = b
  | [], [], _, _, _ => rfl
  | [], b :: _, _, _, h => absurd ((h b).mpr List.mem_cons_self) (by simp)
  | a :: _, [], _, _, h => absurd ((h a).mp List.mem_cons_self) (by simp)
  | a :: l, b :: m, h1, h2, h => by
    obtain ⟨p1, p2⟩ := List.pairwise_cons.mp h1
    obtain ⟨q1, q2⟩ := List.pairwise_cons.mp h2
    have e : a = b := by
      have x := (h a).mp List.mem_cons_self
      have y := (h b).mpr List.mem_cons_self
      rcases List.mem_cons.mp x with x | x
      · exact x
      · rcases List.mem_cons.mp y with y | y
        · exact y.symm
        · have := p1 b y
          have := q1 a x
          omega
    subst e
    rw [strict_ext p2 q2 fun x => ?_]
    have z := h x
    simp only [List.mem_cons] at z
    constructor
    · intro hx
      have := p1 x hx
      rcases z.mp (.inr hx) with y | y
      · omega
      · exact y
    · intro hx
      have := q1 x hx
      rcases z.mpr (.inr hx) with y | y
      · omega
      · exact y
theorem sortU_eq {l : List Int} (h : l.Pairwise (· < ·)) : sortU l = l := strict_ext sortU_lt h fun x => sortU_mem
/-- set(xs), a list of ints -/
def rSetI (K : PySem.W.Frag) (w : World) : List V → Hp → VK → Prop := fun vs H Q => ∃ (a : Addr) (ns : List Int), vs = [V.ref a] ∧ SqL K H a (ns.map V.int) ∧ ns.length + 1 < scanBound ∧ ∀ (p : Addr) (c : Nat), H p = none → Q (.ref p) (upd H p (SetO w p (fun j => decide (j ∈ ns)) c))
def rSortSet (w : World) : List V → Hp → VK → Prop := fun vs H Q => ∃ (a : Addr) (S : Int → Bool) (n : Nat), vs = [V.ref a] ∧ H a = some (SetO w a S n) ∧
  ∀ (ns : List Int) (p : Addr), ns.Pairwise (· < ·) → (∀ k : Int, k ∈ ns ↔ S k = true) → H p = none → Q (.ref p) (upd H p (.lst (ns.map V.int)))
section
variable {X : Cx}
theorem cr_setI (hc : X.calm = true) : CallR X (.type "set") (rSetI X.K X.w) := by
  intro pins s σ H xs us Q I r h
  obtain ⟨l, ns, rfl, hl, fit, q⟩ := h
  rw [Vals.ref1 r]
  obtain ⟨its, rv, pl, hz⟩ := I.list hl
  have hn : H s.heap.objs.size = none := I.hok.fresh (Nat.le_refl _)
  refine set_of_list (P := X.prog) (w := X.w) ns (I.ok.hd hc) pl.isList (by simpa using rv.ints) fit fun g tk c R _ kp => ?_
  exact ⟨.ref s.heap.objs.size, upd H s.heap.objs.size (SetO X.w s.heap.objs.size (fun j => decide (j ∈ ns)) c), I.laid (t' := tk) kp (Nat.le_refl _) (setO_new R), rfl, q _ c hn⟩
theorem cr_sortSet (hc : X.calm = true) : CallR X (.builtin "sorted") (rSortSet X.w) := by
  intro pins s σ H vs us Q I r h
  obtain ⟨a, S, n, rfl, ha, q⟩ := h
  rw [Vals.ref1 r]
  refine sorted_of_set (setO_get I ha) (I.ok.hd hc) fun u p out c ns kp g o hp hg hi hs hm hl => ?_
  have hlen : (ns.map V.int).length ≤ sizeLine := by
    rw [List.length_map, sizeLine_eq]
    have : scanBound = 4096 := rfl
    omega
  have hn : H p = none := I.hok.fresh hp
  have e : u = { s with heap := u.heap, gens := u.gens, drawn := u.drawn, toks := u.toks } := by
    cases u; cases s; cases o; rfl
  rw [e]
  exact ⟨.ref p, upd H p (.lst (ns.map V.int)), I.call (ch := []) (Un.laid kp hp hn) (I.hok.laid kp hp ⟨hlen, out.toList, c, vals_of_ints hi, hg⟩) (by rw [g]; exact I.bare) (fun _ z => nomatch z), rfl, q ns p hs hm hn⟩
end
section
variable {X : Cx} {Γ : List Slot} {α β : Type} {r : Rp α} {s : Rp β} {x : α} {y : β} {e f : Expr} {pos p p2 : Pos} {i j : Int} {as : List α}
theorem eo_sortSet {ns : List Int} {pos2 : Pos} (hl : ns.length + 1 < scanBound) (h : EvB X Γ e (oLst rInt ns)) (hm : X.mg "sorted" = none) (hm2 : X.mg "set" = none) (hc : X.calm = true := by rfl) (hg : Gl X "sorted" := by rfl) (hg2 : Gl X "set" := by rfl) (he : starEach (e :: []) X.env = (false, eval e X.env) :: starEach [] X.env := by rfl) (hpl : (backTo pos2 (starEach [] X.env)).any (·.1) = false := by rfl)
    (he2 : starEach ((.Call (.Name "set" p2) [e] [] pos2) :: []) X.env = (false, eval (.Call (.Name "set" p2) [e] [] pos2) X.env) :: starEach [] X.env := by rfl) (hpl2 : (backTo pos (starEach [] X.env)).any (·.1) = false := by rfl) :
    EvO X Γ (.Call (.Name "sorted" p) [.Call (.Name "set" p2) [e] [] pos2] [] pos) (oLst rInt (sortU ns)) := fun E G H σ hh Q q =>
  WE.of (pe_callB (cr_sortSet hc) hg hm (by decide +kernel) (pa_cons (pe_callTy (cr_setI hc) hg2 hm2 (by decide +kernel) (pa_cons WE.pe pa_nil he) (he := he) (hpl := hpl)) pa_nil he2) (he := he2) (hpl := hpl2)) (h E G H σ hh _ fun p1 o G1 H1 l1 hp ⟨vs, e1, ha⟩ => by
    subst e1
    rw [all2_int ha] at hp
    refine ⟨p1, ns, rfl, .inl (.inl hp), hl, fun p3 c n => ?_⟩
    refine ⟨p3, _, c, rfl, upd_same, fun ms p4 h1 h2 n4 => ?_⟩
    have l2 := l1.addO (o := SetO X.w p3 (fun j => decide (j ∈ ns)) c) n
    have e2 : ms = sortU ns := strict_ext h1 sortU_lt fun x => by rw [h2, sortU_mem]; simp
    exact q p4 _ G1 _ (Evl.fresh_back l2.h n4) (l2.addO n4) (Evl.fresh_back l2.gh n4) upd_same ⟨_, rfl, by rw [e2]; exact all2_ofInt _⟩)
/-! ### shifts, in, is None -/
theorem ev_shl (hc : CPow i j) (ha : Ev X Γ e rInt i) (hb : Ev X Γ f rInt j) : Ev X Γ (.BinOp e .LShift f pos) rInt (i * 2 ^ j.toNat) := ev_bin op_shl ha hb (gv_I hc fun _ => rfl)
theorem ev_shr (hc : 0 ≤ j) (ha : Ev X Γ e rInt i) (hb : Ev X Γ f rInt j) : Ev X Γ (.BinOp e .RShift f pos) rInt (i / 2 ^ j.toNat) := ev_bin op_shr ha hb (gv_I hc fun _ => rfl)
theorem ev_and1 (ha : Ev X Γ e rInt i) (hb : Ev X Γ f rInt 1) : Ev X Γ (.BinOp e .BitAnd f pos) rInt (i % 2) := ev_bin op_andM ha hb fun G H a b e h1 h2 Q q => ⟨i, 1, h1, h2, q _ G H (.refl e) rfl⟩
theorem inV_int {i : Int} : ∀ {ns : List Int}, inV (.int i) (ns.map V.int) = decide (i ∈ ns)
  | [] => rfl
  | n :: ns => by
    show (eqV (.int n) (.int i) || inV (.int i) (ns.map V.int)) = _
    rw [inV_int]
    by_cases h : n = i
    · subst h; simp [eqV]
    · have h' : ¬ i = n := fun z => h z.symm
      simp [eqV, h, h']
theorem flat_ints {ns : List Int} : (ns.map V.int).all flatV = true := by simp [List.all_map, flatV]
theorem gv_inI {ns : List Int} : Gives (rIn X.K false) rInt i (rLst rInt) ns rBool (decide (i ∈ ns)) := fun G H a b e h1 ⟨p, vs, e2, hp, ha⟩ Q q => by
  cases h1
  rw [all2_int ha] at hp
  exact ⟨p, _, e2, .inl (.inl (.inl (e _ _ hp))), rfl, flat_ints, by rw [inV_int]; exact q _ G H (.refl e) rfl⟩
theorem ev_inI {ns : List Int} (ha : Ev X Γ e rInt i) (hb : Ev X Γ f (rLst rInt) ns) (hm : behindInMarks .In f = false := by rfl) : Ev X Γ (.Compare e [.In] [f] pos) rBool (decide (i ∈ ns)) := ev_cmpR op_in_seq ha hb gv_inI hm
theorem et_inI {ns : List Int} (ha : Ev X Γ e rInt i) (hb : Ev X Γ f (rLst rInt) ns) (hm : behindInMarks .In f = false := by rfl) : EvT X Γ (.Compare e [.In] [f] pos) (decide (i ∈ ns)) := et_cmpR op_in_seq ha hb gv_inI hm
structure NN {α : Type} (r : Rp α) : Prop where
  nn : ∀ G v a, r.rel G v a → v ≠ .non
theorem nn_int : NN rInt := ⟨fun G v a h => by cases h; simp⟩
theorem nn_str : NN rStr := ⟨fun G v a h => by cases h; simp⟩
theorem nn_bool : NN rBool := ⟨fun G v a h => by cases h; simp⟩
theorem nn_lst : NN (rLst r) := ⟨fun G v a ⟨p, vs, e, _⟩ => by rw [e]; simp⟩
theorem nn_T2 {K : PySem.W.Frag} : NN (rT2 K r s) := ⟨fun G v a ⟨p, v1, v2, e, _⟩ => by rw [e]; simp⟩
theorem gv_isN {o : Option α} (n : NN r) : Gives (fun a b H Q => b = V.non ∧ Q (.bl (decide (a = V.non))) H) (rOpt r) o rNon () rBool o.isNone := fun G H a b e h1 h2 Q q => by
  refine ⟨h2, ?_⟩
  cases o with
  | none =>
    have z : a = .non := h1
    subst z
    exact q _ G H (.refl e) rfl
  | some v =>
    rw [decide_eq_false (n.nn G a v h1)]
    exact q _ G H (.refl e) rfl
theorem ev_isN {o : Option α} (n : NN r) (ha : Ev X Γ e (rOpt r) o) (hb : Ev X Γ f rNon ()) : Ev X Γ (.Compare e [.Is] [f] pos) rBool o.isNone := ev_cmpR op_isN ha hb (gv_isN n)
theorem et_isN {o : Option α} (n : NN r) (ha : Ev X Γ e (rOpt r) o) (hb : Ev X Γ f rNon ()) : EvT X Γ (.Compare e [.Is] [f] pos) o.isNone := et_cmpR op_isN ha hb (gv_isN n)
theorem ev_unopt {o : Option α} {d : α} (h : o.isNone = false) (ha : Ev X Γ e (rOpt r) o) : Ev X Γ e r (o.getD d) := fun E G H σ hh Q q => ha E G H σ hh Q fun v G1 H1 l1 r1 => by
  cases o with
  | none => simp at h
  | some a => exact q v G1 H1 l1 r1
/-! ### enumerate, range(a, b) -/
def enumL (as : List α) : List (Int × α) := as.zipIdx.map fun q => ((q.2 : Int), q.1)
theorem enumL_get {i : Nat} : (enumL as)[i]? = as[i]?.map fun a => ((i : Int), a) := by
  unfold enumL
  rw [List.getElem?_map, List.getElem?_zipIdx]
  cases as[i]? <;> simp
theorem enumL_length : (enumL as).length = as.length := by simp [enumL]
theorem ei_enum {elts : List Expr} {kk : Nat} {tpos : Pos} (h : Ev X Γ e (rLst r) as) (hm : X.mg "enumerate" = none) (hg : Gl X "enumerate" := by rfl) (hs : starEach [e] X.env = [(false, eval e X.env)] := by rfl) (hs2 : starEach (e :: []) X.env = (false, eval e X.env) :: starEach [] X.env := by rfl) :
    EvI X Γ (.Tuple elts kk tpos) (.Call (.Name "enumerate" p) [e] [] pos) (rT2 X.K rInt r) (enumL as) := ⟨_, pi_enum hg hm (pa_cons WE.pe pa_nil hs2) hs, fun E G H σ hh R q => h E G H σ hh _ fun v G1 H1 l1 ⟨p, vs, e1, hp, ha⟩ => by
  refine ⟨p, vs, by rw [e1], .inl (.inl (l1.gh _ _ hp)), q _ G1 H1 l1 fun i G2 H2 g1 g2 => ⟨fun a ea => ?_, fun le => ⟨vs, .inl (.inl (g2 _ _ (g1 _ _ hp))), by rw [ha.length]; rw [enumL_length] at le; exact le⟩⟩⟩
  rw [enumL_get] at ea
  cases hb : as[i]? with
  | none => rw [hb] at ea; cases ea
  | some b =>
    rw [hb] at ea
    cases ea
    obtain ⟨u, eu, ru⟩ := ha.get hb
    have hq : SqL X.K H2 p vs := .inl (.inl (g2 _ _ (g1 _ _ hp)))
    refine ⟨⟨vs, u, hq, eu⟩, fun z H' ⟨T, w, e2, n, e3, e4⟩ => ?_⟩
    have e5 := e4 vs hq
    rw [eu] at e5
    cases e5
    subst e3
    subst e2
    have n2 := Evl.fresh_back g2 n
    exact ⟨upd G2 T (.tup [.int i, u]), (Le.refl g2).add n, T, _, _, rfl, .inl (.inl upd_same), rfl, r.mono (g1.trans (Evl.Ex.new n2)) ru⟩⟩
theorem ei_range2 {tg : Expr} {a b : Int} (h : EvA X Γ [e, f] [⟨rInt, a⟩, ⟨rInt, b⟩]) (hn : -(2 ^ 62) ≤ a ∧ a < 2 ^ 62 ∧ -(2 ^ 62) ≤ b ∧ b < 2 ^ 62) (hm : X.mg "range" = none) (hg : Gl X "range" := by rfl) (hs : starEach [e, f] X.env = [(false, eval e X.env), (false, eval f X.env)] := by rfl) (hs2 : starEach [f] X.env = [(false, eval f X.env)] := by rfl) :
    EvI X Γ tg (.Call (.Name "range" p) [e, f] [] pos) rInt (rangeL a (b - a).toNat) := ⟨_, pi_range2 hg hm WA.pa hs hs2, fun E G H σ hh R q => h E G H σ hh _ fun vs G1 H1 l1 a1 => by
  match vs, a1 with
  | [v1, v2], ⟨h1, h2, _⟩ =>
    refine ⟨a, b, by rw [show v1 = _ from h1, show v2 = _ from h2], hn, q _ G1 H1 l1 fun i G2 H2 g1 g2 => ⟨fun z ea => ?_, fun le => ?_⟩⟩
    · have lt : i < (b - a).toNat := by
        have z := (List.getElem?_eq_some_iff.mp ea).1
        simpa [rangeL] using z
      refine ⟨lt, fun x H' y => ?_⟩
      obtain ⟨e1, e2⟩ := y
      subst e1
      refine ⟨G2, .refl g2, ?_⟩
      have : z = a + (i : Int) := by
        rw [rangeL, List.getElem?_map, List.getElem?_range lt] at ea
        exact (Option.some.inj ea).symm
      rw [e2, this]
      rfl
    · have z : (rangeL a (b - a).toNat).length = (b - a).toNat := by simp [rangeL]
      rw [z] at le
      exact le⟩
/-! ### max of a list -/
def maxL : List Int → Int
  | [] => 0
  | a :: l => l.foldl max a
theorem foldl_max_mem : ∀ (l : List Int) (a : Int), (l.foldl max a ∈ a :: l) ∧ ∀ y ∈ a :: l, y ≤ l.foldl max a
  | [], a => by simp
  | b :: l, a => by
    obtain ⟨h1, h2⟩ := foldl_max_mem l (max a b)
    refine ⟨?_, fun y hy => ?_⟩
    · show l.foldl max (max a b) ∈ _
      rcases List.mem_cons.mp h1 with e | e
      · rw [e]
        rcases Int.le_total a b with q | q
        · rw [Int.max_eq_right q]; simp
        · rw [Int.max_eq_left q]; simp
      · simp [e]
    · show y ≤ l.foldl max (max a b)
      have hm := h2 (max a b) List.mem_cons_self
      rcases List.mem_cons.mp hy with e | hy
      · omega
      · rcases List.mem_cons.mp hy with e | hy
        · omega
        · exact h2 y (List.mem_cons_of_mem _ hy)
theorem maxL_eq {ns : List Int} {m : Int} (h1 : m ∈ ns) (h2 : ∀ y ∈ ns, y ≤ m) : maxL ns = m := by
  cases ns with
  | nil => simp at h1
  | cons a l =>
    obtain ⟨k1, k2⟩ := foldl_max_mem l a
    have := h2 _ k1
    have := k2 m h1
    show l.foldl max a = m
    omega
theorem ev_maxL {ns : List Int} (hn : ns ≠ []) (h : EvB X Γ e (oLst rInt ns)) (hm : X.mg "max" = none) (hc : X.calm = true := by rfl) (hg : Gl X "max" := by rfl) (he : starEach (e :: []) X.env = (false, eval e X.env) :: starEach [] X.env := by rfl) (hpl : (backTo pos (starEach [] X.env)).any (·.1) = false := by rfl) : Ev X Γ (.Call (.Name "max" p) [e] [] pos) rInt (maxL ns) := fun E G H σ hh Q q =>
  WE.of (pe_callB (cr_max hc) hg hm (by decide +kernel) (pa_cons WE.pe pa_nil he) (he := he) (hpl := hpl)) (h E G H σ hh _ fun p o G1 H1 l1 hp ⟨vs, e1, ha⟩ => by
    subst e1
    rw [all2_int ha] at hp
    exact ⟨p, ns, rfl, .inl (.inl hp), List.length_pos_iff.mpr hn, fun m h1 h2 => q _ G1 H1 l1 (show V.int m = .int (maxL ns) by rw [maxL_eq h1 h2])⟩)
/-! ### lists of pairs of ints, == -/
def pdPairs (a : List (Int × Int)) : PyData := .list (a.map pdPair)
theorem dpAll_pairs {K : PySem.W.Frag} {G : Hp} : ∀ {vs : List V} {ns : List (Int × Int)}, All2 (rT2 K rInt rInt) G vs ns → DpAll K G vs (ns.map pdPair)
  | _, _, .nil => .nil
  | _, _, .cons h t => .cons (eqv_pair.dp _ _ h) (dpAll_pairs t)
theorem eqv_pairs {K : PySem.W.Frag} {ns : List (Int × Int)} : Eqv K (rLst (rT2 K rInt rInt)) ns (pdPairs ns) := ⟨fun G v ⟨p, vs, e, h, h2⟩ => by
  subst e
  exact .lst (.inl (.inl h)) (dpAll_pairs h2), by
  have z : ∀ l : List (Int × Int), PyData.canLayAll0 (l.map pdPair) = true := fun l => by
    induction l with
    | nil => rfl
    | cons a l ih => simp [PyData.canLayAll0, pdPair, PyData.canLay0, ih]
  have d : ∀ l : List (Int × Int), PyData.depthAll (l.map pdPair) ≤ 4 := fun l => by
    induction l with
    | nil => simp [PyData.depthAll]
    | cons a l ih => simp [PyData.depthAll, pdPair, PyData.depth]; omega
  unfold SeqAt.shaped pdPairs
  have := d ns
  simp only [PyData.canLay0, z ns, PyData.depth, Bool.true_and]
  exact decide_eq_true (by omega)⟩
theorem eqvAll_pairs : ∀ {a b : List (Int × Int)}, PyData.eqvAll (a.map pdPair) (b.map pdPair) = decide (a = b)
  | [], [] => rfl
  | [], _ :: _ => by simp [PyData.eqvAll]
  | _ :: _, [] => by simp [PyData.eqvAll]
  | a :: l, b :: m => by
    simp only [List.map_cons, PyData.eqvAll, pdPair_eqv, eqvAll_pairs (a := l) (b := m)]
    by_cases h1 : a = b <;> by_cases h2 : l = m <;> simp [h1, h2]
theorem pdPairs_eqv {a b : List (Int × Int)} : PyData.eqv (pdPairs a) (pdPairs b) = decide (a = b) := by
  unfold pdPairs
  simp only [PyData.eqv, eqvAll_pairs]
end
end Hf

namespace Hf
open PySem PySem.Spec PyProof.Rows L2

/-! ### objects of one's own handed to a call, changed behind it -/
def OwnAt (σ : L2.St) : List Nat → List Addr → Prop
  | [], [] => True
  | i :: is, p :: ps => σ[i]? = some (some (.ref p)) ∧ OwnAt σ is ps
  | _, _ => False
def Ows (G H : Hp) : List Addr → List Oc → Prop
  | [], [] => True
  | p :: ps, c :: cs => (G p = none ∧ ∃ o, H p = some o ∧ c.rel G o) ∧ Ows G H ps cs
  | _, _ => False
def SlotsAre (Γ : List Slot) : List Nat → List Oc → Prop
  | [], [] => True
  | i :: is, c :: cs => (∃ q, Γ[i]? = some (.ow c q)) ∧ SlotsAre Γ is cs
  | _, _ => False
def updO (Γ : List Slot) (i : Nat) (c : Oc) : List Slot := match Γ[i]? with
  | some (.ow _ q) => Γ.set i (.ow c q)
  | _ => Γ
def setOws : List Slot → List Nat → List Oc → List Slot
  | Γ, i :: is, c :: cs => setOws (updO Γ i c) is cs
  | Γ, _, _ => Γ
theorem updO_len {Γ : List Slot} {i : Nat} {c : Oc} : (updO Γ i c).length = Γ.length := by
  unfold updO
  split <;> simp
theorem setOws_len : ∀ {is : List Nat} {cs : List Oc} {Γ : List Slot}, (setOws Γ is cs).length = Γ.length
  | [], _, _ => by simp [setOws]
  | _ :: _, [], _ => by simp [setOws]
  | i :: is, c :: cs, Γ => by rw [setOws, setOws_len, updO_len]
theorem updO_get {Γ : List Slot} {i j : Nat} {c : Oc} {s : Slot} (h : (updO Γ i c)[j]? = some s) : (i ≠ j ∧ Γ[j]? = some s) ∨ (i = j ∧ ((∃ c0 q, Γ[j]? = some (.ow c0 q) ∧ s = .ow c q) ∨ (Γ[j]? = some s ∧ ∀ c0 q, s ≠ .ow c0 q))) := by
  unfold updO at h
  split at h
  · rename_i c0 q e
    rcases get_set h with ⟨rfl, rfl⟩ | ⟨n, h⟩
    · exact .inr ⟨rfl, .inl ⟨c0, q, e, rfl⟩⟩
    · exact .inl ⟨n, h⟩
  · rename_i e
    by_cases z : i = j
    · subst z
      exact .inr ⟨rfl, .inr ⟨h, fun c0 q w => e c0 q (by rw [h, w])⟩⟩
    · exact .inl ⟨z, h⟩
theorem updO_ne {Γ : List Slot} {i j : Nat} {c : Oc} (h : i ≠ j) : (updO Γ i c)[j]? = Γ[j]? := by
  unfold updO
  split
  · rw [List.getElem?_set_ne h]
  · rfl
theorem slotsAre_upd {i : Nat} {c : Oc} : ∀ {is : List Nat} {cs : List Oc} {Γ : List Slot}, i ∉ is → SlotsAre Γ is cs → SlotsAre (updO Γ i c) is cs
  | [], [], _, _, _ => trivial
  | j :: is, d :: cs, Γ, n, ⟨⟨q, e⟩, h⟩ => by
    simp only [List.mem_cons, not_or] at n
    exact ⟨⟨q, by rw [updO_ne n.1]; exact e⟩, slotsAre_upd n.2 h⟩
theorem setOws_get : ∀ {is : List Nat} {os cs : List Oc} {Γ : List Slot} {σ : L2.St} {ps : List Addr} {G H : Hp} {j : Nat} {s : Slot}, is.Nodup → SlotsAre Γ is os → OwnAt σ is ps → Ows G H ps cs → (setOws Γ is cs)[j]? = some s →
    (j ∉ is ∧ Γ[j]? = some s) ∨ ∃ c c' q p o, j ∈ is ∧ Γ[j]? = some (.ow c q) ∧ s = .ow c' q ∧ σ[j]? = some (some (.ref p)) ∧ p ∈ ps ∧ G p = none ∧ H p = some o ∧ c'.rel G o
  | [], _, cs, Γ, σ, ps, G, H, j, s, _, _, oa, ow, h => by
    cases ps with
    | cons p ps => exact oa.elim
    | nil =>
      cases cs with
      | cons c cs => exact ow.elim
      | nil => exact .inl ⟨by simp, by simpa [setOws] using h⟩
  | i :: is, os, cs, Γ, σ, ps, G, H, j, s, nd, sa, oa, ow, h => by
    cases os with
    | nil => exact sa.elim
    | cons o os =>
    cases ps with
    | nil => exact oa.elim
    | cons p ps =>
    cases cs with
    | nil => exact ow.elim
    | cons c cs =>
    obtain ⟨⟨q, e⟩, sa⟩ := sa
    obtain ⟨e2, oa⟩ := oa
    obtain ⟨⟨g, o', h1, h2⟩, ow⟩ := ow
    obtain ⟨n1, n2⟩ := List.nodup_cons.mp nd
    rw [setOws] at h
    rcases setOws_get n2 (slotsAre_upd n1 sa) oa ow h with ⟨k1, k2⟩ | ⟨a, a', q', p', o2, k1, k2, k3, k4, k5, k6⟩
    · rcases updO_get k2 with ⟨z, w⟩ | ⟨z, w⟩
      · exact .inl ⟨by simp only [List.mem_cons, not_or]; exact ⟨fun y => z y.symm, k1⟩, w⟩
      · subst z
        rcases w with ⟨c0, q0, w1, w2⟩ | ⟨w1, w2⟩
        · exact .inr ⟨c0, c, q0, p, o', by simp, w1, w2, e2, by simp, g, h1, h2⟩
        · rw [e] at w1
          cases w1
          exact absurd rfl (w2 _ _)
    · have ne : i ≠ j := fun z => n1 (z ▸ k1)
      rw [updO_ne ne] at k2
      exact .inr ⟨a, a', q', p', o2, List.mem_cons_of_mem _ k1, k2, k3, k4, List.mem_cons_of_mem _ k5, k6⟩
theorem ownAt_slot : ∀ {is : List Nat} {cs : List Oc} {Γ : List Slot} {σ : L2.St} {ps : List Addr} {p : Addr}, SlotsAre Γ is cs → OwnAt σ is ps → p ∈ ps → ∃ i c q, i ∈ is ∧ Γ[i]? = some (.ow c q) ∧ σ[i]? = some (some (.ref p))
  | i :: is, cs, Γ, σ, ps, p', sa, oa, m => by
    cases cs with
    | nil => exact sa.elim
    | cons c cs =>
    cases ps with
    | nil => exact oa.elim
    | cons p ps =>
    obtain ⟨⟨q, e⟩, sa⟩ := sa
    obtain ⟨e2, oa⟩ := oa
    rcases List.mem_cons.mp m with rfl | m
    · exact ⟨i, c, q, by simp, e, e2⟩
    · obtain ⟨i', c', q', k1, k2, k3⟩ := ownAt_slot sa oa m
      exact ⟨i', c', q', List.mem_cons_of_mem _ k1, k2, k3⟩
  | [], _, _, _, ps, _, _, oa, m => by
    cases ps with
    | cons p ps => exact oa.elim
    | nil => simp at m
theorem ownAt_mem : ∀ {is : List Nat} {σ : L2.St} {ps : List Addr} {p : Addr} {i : Nat}, OwnAt σ is ps → i ∈ is → σ[i]? = some (some (.ref p)) → p ∈ ps
  | i :: is, σ, ps, p', j, oa, m, e => by
    cases ps with
    | nil => exact oa.elim
    | cons p ps =>
    obtain ⟨e2, oa⟩ := oa
    rcases List.mem_cons.mp m with rfl | m
    · rw [e2] at e; cases e; simp
    · exact List.mem_cons_of_mem _ (ownAt_mem oa m e)
  | [], _, _, _, _, _, m, _ => by simp at m
/-- behind a call that changed what was handed in -/
theorem Holds.call {E : Ent} {G H G' H' : Hp} {σ : L2.St} {Γ : List Slot} {is : List Nat} {os cs : List Oc} {ps : List Addr} (h : Holds E G H σ Γ) (nd : is.Nodup) (sa : SlotsAre Γ is os) (oa : OwnAt σ is ps)
    (l : LeE G H (fun p => p ∈ ps) G' H') (ow : Ows G' H' ps cs) : Holds E G' H' σ (setOws Γ is cs) := by
  have out : ∀ p, p ∉ ps → ∀ o, H p = some o → H' p = some o := fun p n o e => by
    rcases l.h p o e with ⟨_, w⟩ | ⟨m, _⟩
    · exact w
    · exact absurd m n
  have gn : ∀ p, G p = none → (∃ o, H p = some o) → G' p = none := fun p g ⟨o, e⟩ => by
    cases q : G' p with
    | none => rfl
    | some u => rw [l.new p u q g] at e; cases e
  refine ⟨⟨h.le.g.trans l.g, fun a o e => ?_, l.gh, fun a o e1 e2 => ?_, h.le.m⟩, h.fl.trans l.g, by rw [setOws_len]; exact h.len, fun j s e => ?_, fun j k s t e1 e2 w1 w2 z => ?_⟩
  · rcases h.le.h a o e with ⟨n, w⟩ | ⟨m, u, w⟩
    · rcases l.h a o w with ⟨_, w2⟩ | ⟨m2, _⟩
      · exact .inl ⟨n, w2⟩
      · obtain ⟨i, c, q, _, k2, k3⟩ := ownAt_slot sa oa m2
        obtain ⟨p, o2, x1, x2, x3, x4, x5⟩ := h.ow k2
        rw [k3] at x1
        cases x1
        rcases x3.or with y | y
        · exact absurd y n
        · rw [y] at e; cases e
    · rcases l.h a u w with ⟨_, w2⟩ | ⟨_, w2⟩
      · exact .inr ⟨m, u, w2⟩
      · exact .inr ⟨m, w2⟩
  · cases q : G a with
    | some u => exact h.le.new a u q e2
    | none =>
      have z := l.new a o e1 q
      exact h.le.fresh z
  · rcases setOws_get nd sa oa ow e with ⟨n, k⟩ | ⟨c, c', q, p, o, k1, k2, k3, k4, k5, k6, k7, k8⟩
    · have w := h.ok j s k
      cases s with
      | no => trivial
      | sh r a =>
        obtain ⟨v, w1, w2⟩ := w
        exact ⟨v, w1, r.mono l.g w2⟩
      | ow c q =>
        obtain ⟨p, o, w1, w2, w3, w4, w5⟩ := w
        have np : p ∉ ps := fun m => by
          obtain ⟨i, c2, q2, y1, y2, y3⟩ := ownAt_slot sa oa m
          exact n (h.sep i j _ _ y2 k rfl rfl (by rw [y3, w1]) ▸ y1)
        exact ⟨p, o, w1, gn p w2 ⟨o, w4⟩, w3, out p np o w4, c.mono l.g w5⟩
    · subst k3
      obtain ⟨p1, o1, w1, w2, w3, w4, w5⟩ := h.ow k2
      rw [k4] at w1
      cases w1
      exact ⟨p, o, k4, k6, w3, k7, k8⟩
  · have back : ∀ (j : Nat) (s : Slot), (setOws Γ is cs)[j]? = some s → s.isOw = true → ∃ s', Γ[j]? = some s' ∧ s'.isOw = true := fun j s e w => by
      rcases setOws_get nd sa oa ow e with ⟨n, k⟩ | ⟨c, c', q, p, o, k1, k2, _⟩
      · exact ⟨s, k, w⟩
      · exact ⟨_, k2, rfl⟩
    obtain ⟨s', q1, q2⟩ := back j s e1 w1
    obtain ⟨t', q3, q4⟩ := back k t e2 w2
    exact h.sep j k s' t' q1 q3 q2 q4 z
end Hf

namespace Hf
open PySem PySem.Spec PyProof.Rows L2

/-! ### a def that changes what is handed in ahead -/
def NSp {ι α : Type} (Pre : ι → Prop) (ows : ι → List Oc) (args : ι → List Ty) (r : Rp α) (res : ι → α) (post : ι → List Oc) : Sp := fun vs H Q E =>
  ∃ (y : ι) (G : Hp) (ps : List Addr) (us : List V), Pre y ∧ Ex G H ∧ vs = ps.map V.ref ++ us ∧ ps.Nodup ∧ Ows G H ps (ows y) ∧ Args G us (args y) ∧
    ∀ v G' H', LeE G H (fun p => p ∈ ps) G' H' → Ows G' H' ps (post y) → r.rel G' v (res y) → Q v H'
theorem ows_len : ∀ {ps : List Addr} {cs : List Oc} {G H : Hp}, Ows G H ps cs → ps.length = cs.length
  | [], [], _, _, _ => rfl
  | _ :: ps, _ :: cs, _, _, h => by rw [List.length_cons, List.length_cons, ows_len h.2]
theorem ows_get : ∀ {ps : List Addr} {cs : List Oc} {G H : Hp} {i : Nat} {c : Oc}, Ows G H ps cs → cs[i]? = some c → ∃ p, ps[i]? = some p ∧ G p = none ∧ ∃ o, H p = some o ∧ c.rel G o
  | _ :: ps, _ :: cs, _, _, 0, _, h, e => by cases e; exact ⟨_, rfl, h.1.1, h.1.2⟩
  | _ :: ps, _ :: cs, _, _, i + 1, _, h, e => ows_get (i := i) h.2 e
  | [], [], _, _, i, _, _, e => by simp at e
/-- the slots of a def that is entered -/
def slotsN (cs : List Oc) (ps : List Addr) (ts : List Ty) (n : Nat) : List Slot := (cs.zip ps).map (fun z => Slot.ow z.1 (some z.2)) ++ slots0 ts n
theorem holds_startN {G H : Hp} {N : List Str} {ps : List Addr} {cs : List Oc} {us : List V} {ts : List Ty} (e : Ex G H) (nd : ps.Nodup) (ow : Ows G H ps cs) (a : Args G us ts) (hn : cs.length + ts.length ≤ N.length) :
    Holds { G := G, H := H, M := fun p => p ∈ ps } G H (L2.start N (ps.map V.ref ++ us)) (slotsN cs ps ts (N.length - (cs.length + ts.length))) := by
  have hl := args_length a
  have hp := ows_len ow
  have zl : (cs.zip ps).length = cs.length := by rw [List.length_zip]; omega
  have mem : ∀ p, p ∈ ps → G p = none ∧ ∃ o, H p = some o := fun p m => by
    obtain ⟨i, hi, rfl⟩ := List.getElem_of_mem m
    obtain ⟨p, k1, k2, o, k3, _⟩ := ows_get ow (List.getElem?_eq_getElem (show i < cs.length by omega))
    rw [List.getElem?_eq_getElem hi] at k1
    cases k1
    exact ⟨k2, o, k3⟩
  have le : LeE G H (fun p => p ∈ ps) G H := ⟨.refl _, fun x o q => by
    by_cases m : x ∈ ps
    · exact .inr ⟨m, o, q⟩
    · exact .inl ⟨m, q⟩, e, fun x o h1 h2 => (by rw [h1] at h2; cases h2), fun x m => mem x m⟩
  have owOnly : ∀ (i : Nat) (s : Slot), (slotsN cs ps ts (N.length - (cs.length + ts.length)))[i]? = some s → s.isOw = true → ∃ c p, cs[i]? = some c ∧ ps[i]? = some p ∧ s = .ow c (some p) := fun i s q w => by
    unfold slotsN at q
    by_cases lt : i < cs.length
    · rw [List.getElem?_append_left (by rw [List.length_map, zl]; exact lt), List.getElem?_map, show (cs.zip ps)[i]? = some (cs[i], ps[i]'(by omega)) from List.getElem?_zip_eq_some.mpr ⟨List.getElem?_eq_getElem lt, List.getElem?_eq_getElem (by omega)⟩] at q
      cases q
      exact ⟨_, _, List.getElem?_eq_getElem lt, List.getElem?_eq_getElem (by omega), rfl⟩
    · rw [List.getElem?_append_right (by rw [List.length_map, zl]; omega)] at q
      have z := List.mem_of_getElem? q
      unfold slots0 at z
      rcases List.mem_append.mp z with z | z
      · obtain ⟨t, _, e⟩ := List.mem_map.mp z
        rw [← e] at w
        cases w
      · rw [List.mem_replicate] at z
        rw [z.2] at w
        cases w
  have st : ∀ (i : Nat) (v : V), (ps.map V.ref ++ us)[i]? = some v → (L2.start N (ps.map V.ref ++ us))[i]? = some (some v) := fun i v q => by
    unfold L2.start
    have lt := (List.getElem?_eq_some_iff.mp q).1
    rw [List.getElem?_append_left (by rw [List.length_map]; exact lt), List.getElem?_map, q]
    rfl
  have atP : ∀ (i : Nat) (p : Addr), ps[i]? = some p → (ps.map V.ref ++ us)[i]? = some (.ref p) := fun i p q => by
    have lt := (List.getElem?_eq_some_iff.mp q).1
    rw [List.getElem?_append_left (by rw [List.length_map]; exact lt), List.getElem?_map, q]
    rfl
  refine ⟨le, (fun a o q => by cases q), ?_, fun i s q => ?_, fun i j s t q1 q2 w1 w2 z => ?_⟩
  · unfold L2.start slotsN slots0
    simp only [List.length_append, List.length_map, List.length_replicate, zl]
    omega
  · cases hs : s with
    | no => trivial
    | ow c pq =>
      obtain ⟨c', p, k1, k2, k3⟩ := owOnly i s q (by rw [hs]; rfl)
      rw [hs] at k3
      cases k3
      obtain ⟨p', m1, m2, o, m3, m4⟩ := ows_get ow k1
      rw [k2] at m1
      cases m1
      exact ⟨p, o, st i _ (atP i p k2), m2, ⟨rfl, List.mem_of_getElem? k2⟩, m3, m4⟩
    | sh r a' =>
      subst hs
      unfold slotsN at q
      by_cases lt : i < cs.length
      · rw [List.getElem?_append_left (by rw [List.length_map, zl]; exact lt), List.getElem?_map] at q
        cases w : (cs.zip ps)[i]? with
        | none => rw [w] at q; cases q
        | some t => rw [w] at q; cases q
      · rw [List.getElem?_append_right (by rw [List.length_map, zl]; omega), List.length_map, zl] at q
        unfold slots0 at q
        by_cases lt2 : i - cs.length < ts.length
        · rw [List.getElem?_append_left (by simpa using lt2), List.getElem?_map] at q
          cases w : ts[i - cs.length]? with
          | none => rw [w] at q; cases q
          | some t =>
            rw [w] at q
            cases q
            obtain ⟨v, h1, h2⟩ := args_get a w
            refine ⟨v, st i v ?_, h2⟩
            rw [List.getElem?_append_right (by rw [List.length_map]; omega), List.length_map, hp]
            exact h1
        · rw [List.getElem?_append_right (by simpa using lt2)] at q
          have z := List.mem_of_getElem? q
          rw [List.mem_replicate] at z
          cases z.2
  · obtain ⟨c1, p1, a1, a2, _⟩ := owOnly i s q1 w1
    obtain ⟨c2, p2, b1, b2, _⟩ := owOnly j t q2 w2
    rw [st i _ (atP i p1 a2), st j _ (atP j p2 b2)] at z
    cases z
    obtain ⟨hi, e1⟩ := List.getElem?_eq_some_iff.mp a2
    obtain ⟨hj, e2⟩ := List.getElem?_eq_some_iff.mp b2
    rcases Nat.lt_trichotomy i j with k | k | k
    · exact absurd (e1.trans e2.symm) (List.pairwise_iff_getElem.mp nd i j hi hj k)
    · exact k
    · exact absurd (e2.trans e1.symm) (List.pairwise_iff_getElem.mp nd j i hj hi k)
/-- what is handed back, and how what was handed in stands then -/
def RetN (E : Ent) (D : Ends) (ps : List Addr) (post : List Oc) {α : Type} (r : Rp α) (a : α) : Prop := ∀ v G H, LeE E.G E.H E.M G H → Ows G H ps post → r.rel G v a → D.rt v H
/-- the first slots still hold what was handed in -/
def Still (Γ : List Slot) : Nat → List Addr → List Oc → Prop
  | _, [], [] => True
  | i, p :: ps, c :: cs => Γ[i]? = some (.ow c (some p)) ∧ Still Γ (i + 1) ps cs
  | _, _, _ => False
theorem Still.ows {E : Ent} {G H : Hp} {σ : L2.St} {Γ : List Slot} (h : Holds E G H σ Γ) : ∀ {ps : List Addr} {cs : List Oc} {i : Nat}, Still Γ i ps cs → Ows G H ps cs
  | [], [], _, _ => trivial
  | p :: ps, c :: cs, i, ⟨e, s⟩ => by
    obtain ⟨p', o, h1, h2, h3, h4, h5⟩ := h.ow e
    have z : p' = p := h3.1
    subst z
    exact ⟨⟨h2, o, h4, h5⟩, Still.ows h s⟩
section
variable {P : Program} {w : World} {K : PySem.W.Frag} {mg : Str → Option Value} {base : Heap} {x qual : Str} {params : Arguments} {body : List Stmt} {scope : Scope} {dvs : List V} {kws : List (Str × V)} {f : Addr} {fd : FuncData}
theorem fn_mut {N ps : List Str} {k : Nat} {ι α : Type} {Pre : ι → Prop} {ows : ι → List Oc} {args : ι → List Ty} {r : Rp α} {res : ι → α} {post : ι → List Oc} (F : FunD K x qual params body scope dvs kws f fd) (S : FnScope N ps scope) (hl : ∀ y, (ows y).length + (args y).length = ps.length)
    (hb : ∀ (y : ι), Pre y → ∀ (cdv : Value) (A : Around) (outer : List Env) (s : Shared) (H : Hp) (E0 : XK) (G : Hp) (D : Ends) (qs : List Addr), qs.length = (ows y).length → Room k (A.deeper (envOfC qual scope s.heap.objs.size f cdv)) →
      RetN { G := G, H := H, M := fun p => p ∈ qs } D qs (post y) r (res y) → (∀ σ G' H', LeE G H (fun p => p ∈ qs) G' H' → Ows G' H' qs (post y) → r.rel G' .non (res y) → D.nx σ H') →
      Bk (cxOf (CXL P w) P w K mg base N qual scope f cdv A outer s H E0) { G := G, H := H, M := fun p => p ∈ qs } (slotsN (ows y) qs (args y) (N.length - ps.length)) body D) :
    FnOk P w K mg base (CXL P w) (k + 1) f fd ps (NSp Pre ows args r res post) := by
  refine F.ok S (fun vs H Q E ⟨y, G, qs, us, _, _, e, _, ow, a, _⟩ => by rw [e, List.length_append, List.length_map, ows_len ow, args_length a, hl]) fun cdv A outer s H vs Q E hr ⟨y, G, qs, us, hp, e, ev, nd, ow, a, hq⟩ => ⟨_, WB.pss, ?_⟩
  have hN : (ows y).length + (args y).length ≤ N.length := by
    rw [hl]
    have z := congrArg List.length S.pre
    rw [List.length_take] at z
    omega
  have h := holds_startN (N := N) e nd ow a hN
  rw [hl, ← ev] at h
  exact hb y hp cdv A outer s H E G _ qs (ows_len ow) hr (fun v G' H' l o rv => hq v G' H' l o rv) (fun σ G' H' l o rv => hq _ G' H' l o rv) G H _ h
end
end Hf

namespace Hf
open PySem PySem.Spec PyProof.Rows L2

/-! ### expressions that change what is one's own: Γ ahead, Γ' behind -/
section
variable (X : Cx)
def EvM (Γ Γ' : List Slot) (e : Expr) {α : Type} (r : Rp α) (a : α) : Prop := ∀ (E : Ent) (G H : Hp) (σ : L2.St), Holds E G H σ Γ → ∀ Q : VK, (∀ v G' H', Ex G G' → Holds E G' H' σ Γ' → r.rel G' v a → Q v H') → WE X e σ H Q
def EvMA (Γ Γ' : List Slot) (es : List Expr) (ts : List Ty) : Prop := ∀ (E : Ent) (G H : Hp) (σ : L2.St), Holds E G H σ Γ → ∀ Q : List V → Hp → Prop, (∀ vs G' H', Ex G G' → Holds E G' H' σ Γ' → Args G' vs ts → Q vs H') → WA X es σ H Q
/-- names of one's own objects ahead, what is only read behind -/
def EvOA (Γ : List Slot) (es : List Expr) (own : List Nat) (ts : List Ty) : Prop := ∀ (E : Ent) (G H : Hp) (σ : L2.St), Holds E G H σ Γ → ∀ Q : List V → Hp → Prop,
  (∀ (ps : List Addr) us G' H', Le G H G' H' → OwnAt σ own ps → Args G' us ts → Q (ps.map V.ref ++ us) H') → WA X es σ H Q
end
theorem ownAt_nodup {E : Ent} {G H : Hp} {σ : L2.St} {Γ : List Slot} (h : Holds E G H σ Γ) : ∀ {is : List Nat} {cs : List Oc} {ps : List Addr}, is.Nodup → SlotsAre Γ is cs → OwnAt σ is ps → ps.Nodup
  | [], _, [], _, _, _ => List.nodup_nil
  | [], _, _ :: _, _, _, oa => oa.elim
  | _ :: _, _, [], _, _, oa => oa.elim
  | _ :: _, [], _ :: _, _, sa, _ => sa.elim
  | i :: is, c :: cs, p :: ps, nd, ⟨⟨q, e⟩, sa⟩, ⟨e2, oa⟩ => by
    obtain ⟨n1, n2⟩ := List.nodup_cons.mp nd
    refine List.nodup_cons.mpr ⟨fun m => ?_, ownAt_nodup h n2 sa oa⟩
    obtain ⟨j, c', q', k1, k2, k3⟩ := ownAt_slot sa oa m
    exact n1 (h.sep i j _ _ e k2 rfl rfl (by rw [e2, k3]) ▸ k1)
theorem ows_of {E : Ent} {G H : Hp} {σ : L2.St} {Γ : List Slot} (h : Holds E G H σ Γ) : ∀ {is : List Nat} {cs : List Oc} {ps : List Addr}, SlotsAre Γ is cs → OwnAt σ is ps → Ows G H ps cs
  | [], [], [], _, _ => trivial
  | [], _ :: _, _, sa, _ => sa.elim
  | [], [], _ :: _, _, oa => oa.elim
  | _ :: _, _, [], _, oa => oa.elim
  | _ :: _, [], _ :: _, sa, _ => sa.elim
  | i :: is, c :: cs, p :: ps, ⟨⟨q, e⟩, sa⟩, ⟨e2, oa⟩ => by
    obtain ⟨p', o, h1, h2, h3, h4, h5⟩ := h.ow e
    rw [e2] at h1
    cases h1
    exact ⟨⟨h2, o, h4, h5⟩, ows_of h sa oa⟩
section
variable {X : Cx} {E : Ent} {Γ Γ' Γ1 Γ2 : List Slot} {D : Ends} {e f g : Expr} {es : List Expr} {rest : List Stmt} {pos p apos cpos : Pos} {α β γ ι : Type} {r : Rp α} {x : α} {s : Rp β} {y : β} {t : Rp γ} {z : γ} {as bs : List α} {own : List Nat} {ts : List Ty}
theorem em_of (h : Ev X Γ e r x) : EvM X Γ Γ e r x := fun E G H σ hh Q q => h E G H σ hh Q fun v G1 H1 l1 r1 => q v G1 H1 l1.g (hh.step l1) r1
theorem ema_nil : EvMA X Γ Γ [] [] := fun E G H σ hh Q q => WA.of pa_nil (q [] G H (Evl.Ex.refl _) hh trivial)
theorem ema_cons {t : Ty} (ha : EvM X Γ Γ1 e t.r t.a) (hr : EvMA X Γ1 Γ2 es ts) (hs : starEach (e :: es) X.env = (false, eval e X.env) :: starEach es X.env := by rfl) : EvMA X Γ Γ2 (e :: es) (t :: ts) := fun E G H σ hh Q q =>
  WA.of (pa_cons WE.pe WA.pa hs) (ha E G H σ hh _ fun v G1 H1 g1 h1 r1 => hr E G1 H1 σ h1 _ fun vs G2 H2 g2 h2 r2 => q _ G2 H2 (g1.trans g2) h2 ⟨t.r.mono g2 r1, r2⟩)
theorem em_tup2 {n : Nat} (h : EvMA X Γ Γ' es [⟨r, x⟩, ⟨s, y⟩]) : EvM X Γ Γ' (.Tuple es n pos) (rT2 X.K r s) (x, y) := fun E G H σ hh Q q =>
  WE.of (pe_tup WA.pa) (h E G H σ hh _ fun vs G1 H1 g1 h1 a1 => by
    match vs, a1 with
    | [v1, v2], ⟨k1, k2, _⟩ =>
      refine ⟨by show 2 ≤ sizeLine; decide, fun p n => ?_⟩
      have l2 := (Le.refl h1.le.gh).add (o := .tup [v1, v2]) n
      exact q _ (upd G1 p (.tup [v1, v2])) _ (g1.trans l2.g) (h1.step l2) ⟨p, v1, v2, rfl, .inl (.inl upd_same), r.mono l2.g k1, s.mono l2.g k2⟩)
theorem em_tup3 {n : Nat} (h : EvMA X Γ Γ' es [⟨r, x⟩, ⟨s, y⟩, ⟨t, z⟩]) : EvM X Γ Γ' (.Tuple es n pos) (rT3 X.K r s t) (x, y, z) := fun E G H σ hh Q q =>
  WE.of (pe_tup WA.pa) (h E G H σ hh _ fun vs G1 H1 g1 h1 a1 => by
    match vs, a1 with
    | [v1, v2, v3], ⟨k1, k2, k3, _⟩ =>
      refine ⟨by show 3 ≤ sizeLine; decide, fun p n => ?_⟩
      have l2 := (Le.refl h1.le.gh).add (o := .tup [v1, v2, v3]) n
      exact q _ (upd G1 p (.tup [v1, v2, v3])) _ (g1.trans l2.g) (h1.step l2) ⟨p, v1, v2, v3, rfl, .inl (.inl upd_same), r.mono l2.g k1, s.mono l2.g k2, t.mono l2.g k3⟩)
/-- xs.pop(0) -/
theorem em_pop0 (i : Nat) {a : Str} {pq : Option Addr} {k : Nat} {cp : Pos} (hg : Γ[i]? = some (.ow (oLst r (x :: as)) pq))
    (hpe : PE X (.Call (.Attribute (.Name a p) "pop" apos) [.Constant (.int 0) k cp] [] cpos) (tBM X.K "list" rPopAt (tVar i) (tCons (WE X (.Constant (.int 0) k cp)) tNil)) := by exact pe_bm PySem.F.plainAttrs_list PySem.F.slot_list_pop PySem.F.type_list_pop mt_popAt (pv _) (pa_cons WE.pe pa_nil)) :
    EvM X Γ (Γ.set i (.ow (oLst r as) pq)) (.Call (.Attribute (.Name a p) "pop" apos) [.Constant (.int 0) k cp] [] cpos) r x := fun E G H σ hh Q q =>
  WE.of hpe (by
    obtain ⟨l, o, h1, h2, h3, h4, vs, h5, h6⟩ := hh.ow hg
    subst h5
    cases h6 with
    | @cons v _ vs _ r1 r2 =>
    refine ⟨_, h1, .inl ⟨rfl, _, .inl (.inl h4)⟩, WE.of pe_int ?_⟩
    refine ⟨l, _, 0, 0, v, rfl, rfl, h4, by decide, by decide, by simp [seqIndex?], rfl, ?_⟩
    exact q v G _ (Evl.Ex.refl _) (hh.mut hg h1 ⟨_, rfl, r2⟩) r1)
theorem eoa_nil (h : EvA X Γ es ts) : EvOA X Γ es [] ts := fun E G H σ hh Q q => h E G H σ hh _ fun vs G1 H1 l1 a1 => q [] vs G1 H1 l1 trivial a1
theorem eoa_cons (i : Nat) {a : Str} {c : Oc} {pq : Option Addr} (hr : EvOA X Γ es own ts) (hg : Γ[i]? = some (.ow c pq) := by rfl) (hN : X.N[i]? = some a := by rfl) (hv : Vis X.env.scope a := by first | exact Or.inl rfl | exact Or.inr (Or.inl rfl) | exact Or.inr (Or.inr rfl)) (hd : (a == ("__debug__" : Str)) = false := by decide)
    (hcd : (a == ("__classdict__" : Str)) = false := by decide) (hs : starEach ((.Name a p) :: es) X.env = (false, eval (.Name a p) X.env) :: starEach es X.env := by rfl) : EvOA X Γ ((.Name a p) :: es) (i :: own) ts := fun E G H σ hh Q q =>
  WA.of (pa_cons (pe_var hN hv hd hcd) WA.pa hs) (by
    obtain ⟨l, o, h1, h2, h3, h4, h5⟩ := hh.ow hg
    exact ⟨_, h1, hr E G H σ hh _ fun ps us G1 H1 l1 o1 a1 => q (l :: ps) us G1 H1 l1 ⟨h1, o1⟩ a1⟩)
/-- f(xs, .., e, ..): xs, .. are changed -/
theorem em_call {k j : Nat} {fn : Str} {Pre : ι → Prop} {ows : ι → List Oc} {args : ι → List Ty} {res : ι → α} {post : ι → List Oc} {z : α} (h : Has X.prog X.w X.K X.mg X.base fn k (NSp Pre ows args r res post)) (hr : Room j X.A) (hk : k ≤ j) (y : ι) (hp : Pre y)
    (ha : EvOA X Γ (e :: es) own (args y)) (nd : own.Nodup) (sa : SlotsAre Γ own (ows y)) (hz : res y = z) (hΓ : setOws Γ own (post y) = Γ') (hg : Gl X fn := by rfl) (hdb : (fn == ("__debug__" : Str)) = false := by decide)
    (he : starEach (e :: es) X.env = (false, eval e X.env) :: starEach es X.env := by rfl) (hpl : (backTo pos (starEach es X.env)).any (·.1) = false := by rfl) : EvM X Γ Γ' (.Call (.Name fn p) (e :: es) [] pos) r z := fun E G H σ hh Q q =>
  we_call h hr hk (ha E G H σ hh _ fun ps us G1 H1 l1 o1 a1 => by
    have h1 := hh.step l1
    refine ⟨y, G1, ps, us, hp, l1.gh, rfl, ownAt_nodup h1 nd sa o1, ows_of h1 sa o1, a1, fun v G2 H2 l2 w2 r2 => ?_⟩
    exact q v G2 H2 (l1.g.trans l2.g) (hΓ ▸ h1.call nd sa o1 l2 w2) (hz ▸ r2)) hg hdb he hpl
/-- x = e -/
theorem bk_setM (i : Nat) {a : Str} {p : Pos} (nd : X.N.Nodup) (he : EvM X Γ Γ' e r x) (k : Bk X E (Γ'.set i (.sh r x)) rest D) (hi : X.N[i]? = some a := by rfl) (hx : Loc X.env.scope a := by first | exact Or.inl rfl | exact Or.inr rfl)
    (hs : swapsWith e (some (.Name a p)) pos.line X.env = pure false := by rfl) (hf : X.fn a = true ∨ X.env.scope.names.lookup a = some .local := by first | exact .inl rfl | exact .inr rfl) : Bk X E Γ (.Assign [.Name a p] e pos :: rest) D :=
  bk_of (ps_set nd hi hx WE.pe hs hf) fun G H σ hh => he E G H σ hh _ fun v G1 H1 g1 h1 r1 => k G1 H1 _ (h1.set_sh r1)
theorem bk_exprM (he : EvM X Γ Γ' e r x) (k : Bk X E Γ' rest D) (hs : swapsWith e none pos.line X.env = pure false := by rfl) : Bk X E Γ (.Expr e pos :: rest) D :=
  bk_of (ps_expr WE.pe hs) fun G H σ hh => he E G H σ hh _ fun v G1 H1 g1 h1 r1 => k G1 H1 _ h1
/-- x, y, z = a, b, c -/
theorem bk_par3M (i j l : Nat) {a b c : Str} {e1 e2 e3 : Expr} {px py pz pt : Pos} {kt k2 : Nat} {pt2 : Pos} (nd : X.N.Nodup) (he : EvMA X Γ Γ' [e1, e2, e3] [⟨r, x⟩, ⟨s, y⟩, ⟨t, z⟩]) (k : Bk X E (((Γ'.set i (.sh r x)).set j (.sh s y)).set l (.sh t z)) rest D) (hc : X.calm = true := by rfl) (hi : X.N[i]? = some a := by rfl) (hj : X.N[j]? = some b := by rfl) (hl : X.N[l]? = some c := by rfl)
    (hij : i ≠ j := by decide) (hil : i ≠ l := by decide) (hjl : j ≠ l := by decide) (hx : X.env.scope.names.lookup a = some .local := by rfl) (hy : X.env.scope.names.lookup b = some .local := by rfl) (hz : X.env.scope.names.lookup c = some .local := by rfl)
    (hw : swappedStores [.Tuple [.Name a px, .Name b py, .Name c pz] kt pt] (.Tuple [e1, e2, e3] k2 pt2) X.env = pure (some [a, b, c]) := by rfl)
    (hs : swapsWithSole [.Tuple [.Name a px, .Name b py, .Name c pz] kt pt] (.Tuple [e1, e2, e3] k2 pt2) pos.line X.env = pure false := by rfl) : Bk X E Γ (.Assign [.Tuple [.Name a px, .Name b py, .Name c pz] kt pt] (.Tuple [e1, e2, e3] k2 pt2) pos :: rest) D :=
  bk_of (ps_par3 hc nd hi hj hl hij hil hjl hx hy hz WA.pa hw hs) fun G H σ hh => he E G H σ hh _ fun vs G1 H1 g1 h1 a1 => by
    match vs, a1 with
    | [v1, v2, v3], ⟨k1, k2, k3, _⟩ => exact ⟨v1, v2, v3, rfl, k G1 H1 _ (((h1.set_sh k1).set_sh k2).set_sh k3)⟩
/-- xs.append(e), e changes others -/
theorem bk_appendM (i : Nat) {a : Str} {pq : Option Addr} (hg : Γ[i]? = some (.ow (oLst r as) pq)) (he : EvM X Γ Γ' e r x) (hg' : Γ'[i]? = some (.ow (oLst r bs) pq)) (hl : bs.length < sizeLine) (k : Bk X E (Γ'.set i (.ow (oLst r (bs ++ [x])) pq)) rest D)
    (hpe : PE X (.Call (.Attribute (.Name a p) "append" apos) [e] [] cpos) (tBM X.K "list" rAppend (tVar i) (tCons (WE X e) tNil)) := by exact pe_bm PySem.F.plainAttrs_list PySem.F.slot_list_append PySem.F.type_list_append mt_append (pv _) (pa_cons WE.pe pa_nil))
    (hs : swapsWith (.Call (.Attribute (.Name a p) "append" apos) [e] [] cpos) none pos.line X.env = pure false := by rfl) : Bk X E Γ (.Expr (.Call (.Attribute (.Name a p) "append" apos) [e] [] cpos) pos :: rest) D :=
  bk_of (ps_expr hpe hs) fun G H σ hh => by
    obtain ⟨q, o, h1, h2, h3, h4, vs, h5, h6⟩ := hh.ow hg
    subst h5
    refine ⟨_, h1, .inl ⟨rfl, vs, .inl (.inl h4)⟩, he E G H σ hh _ fun v G1 H1 g1 hh1 r1 => ?_⟩
    obtain ⟨q', o', w1, w2, w3, w4, ws, w5, w6⟩ := hh1.ow hg'
    rw [h1] at w1
    cases w1
    subst w5
    refine ⟨q, ws, v, rfl, rfl, w4, by rw [w6.length]; exact hl, ?_⟩
    exact k G1 _ σ (hh1.mut hg' h1 ⟨_, rfl, w6.append (.one r1)⟩)
theorem bk_retM {ps : List Addr} {post : List Oc} (he : EvM X Γ Γ' e r x) (k : RetN E D ps post r x) (hs : Still Γ' 0 ps post) : Bk X E Γ (.Return (some e) pos :: rest) D :=
  bk_of (ps_ret WE.pe) fun G H σ hh => he E G H σ hh _ fun v G1 H1 g1 h1 r1 => k v G1 H1 h1.le (Still.ows h1 hs) r1
end
end Hf

namespace Hf
open PySem PySem.Spec PyProof.Rows L2

/-! ### works: plain data, the law's tuples, the program's objects -/
inductive Pl where
  | leaf (name : Str) (steps : Option Int)
  | lot (row : Bool) (name : Str) (parts : List (Int × Pl))
instance : Inhabited Pl := ⟨.leaf Str.empty none⟩
namespace Pl
def name : Pl → Str
  | leaf n _ => n
  | lot _ n _ => n
def parts : Pl → List (Int × Pl)
  | leaf _ _ => []
  | lot _ _ ps => ps
def steps : Pl → Option Int
  | leaf _ s => s
  | lot _ _ _ => none
def isLeaf : Pl → Bool
  | leaf _ _ => true
  | lot _ _ _ => false
def kind : Pl → Str
  | leaf _ _ => "leaf"
  | lot true _ _ => "row"
  | lot false _ _ => "bundle"
end Pl
def oV : Option Int → V
  | none => .non
  | some i => .int i
/-- the classes of works -/
structure WC where
  L : Addr
  R : Addr
  B : Addr
def WC.of (c : WC) : Pl → Addr
  | .leaf _ _ => c.L
  | .lot true _ _ => c.R
  | .lot false _ _ => c.B
def wkF (n : Str) (h : Addr) (m : V) : List (Str × V) := [("called", .str n), ("held", .ref h), ("many", m)]
mutual
inductive WkAt (K : PySem.W.Frag) (c : WC) (G : Hp) : V → Pl → Prop
  | leaf {a dx h : Addr} {n : Str} {s : Option Int} : G a = some (.ins c.L dx (wkF n h (oV s))) → G h = some (.lst []) → WkAt K c G (.ref a) (.leaf n s)
  | lot {a dx h : Addr} {row : Bool} {n : Str} {vs : List V} {ps : List (Int × Pl)} : G a = some (.ins (c.of (.lot row n ps)) dx (wkF n h .non)) → G h = some (.lst vs) → PtAt K c G vs ps → WkAt K c G (.ref a) (.lot row n ps)
inductive PtAt (K : PySem.W.Frag) (c : WC) (G : Hp) : List V → List (Int × Pl) → Prop
  | nil : PtAt K c G [] []
  | cons {p : Addr} {i : Int} {v : V} {w : Pl} {vs : List V} {ps : List (Int × Pl)} : SqT K G p [.int i, v] → WkAt K c G v w → PtAt K c G vs ps → PtAt K c G (.ref p :: vs) ((i, w) :: ps)
end
mutual
inductive PlAt (K : PySem.W.Frag) (G : Hp) : V → Pl → Prop
  | leaf {a : Addr} {n : Str} {s : Option Int} : SqT K G a [.str "leaf", .str n, oV s] → PlAt K G (.ref a) (.leaf n s)
  | lot {a h : Addr} {row : Bool} {n : Str} {vs : List V} {ps : List (Int × Pl)} : SqT K G a [.str (Pl.lot row n ps).kind, .str n, .ref h] → G h = some (.lst vs) → PpAt K G vs ps → PlAt K G (.ref a) (.lot row n ps)
inductive PpAt (K : PySem.W.Frag) (G : Hp) : List V → List (Int × Pl) → Prop
  | nil : PpAt K G [] []
  | cons {p : Addr} {i : Int} {v : V} {w : Pl} {vs : List V} {ps : List (Int × Pl)} : SqT K G p [.int i, v] → PlAt K G v w → PpAt K G vs ps → PpAt K G (.ref p :: vs) ((i, w) :: ps)
end
section
variable {K : PySem.W.Frag} {c : WC} {G G' : Hp}
mutual
theorem WkAt.mono (e : Ex G G') : ∀ (w : Pl) (v : V), WkAt K c G v w → WkAt K c G' v w
  | .leaf n s, _, h => by
    cases h with
    | leaf h1 h2 => exact .leaf (e _ _ h1) (e _ _ h2)
  | .lot r n ps, _, h => by
    cases h with
    | lot h1 h2 h3 => exact .lot (e _ _ h1) (e _ _ h2) (PtAt.mono e ps _ h3)
theorem PtAt.mono (e : Ex G G') : ∀ (ps : List (Int × Pl)) (vs : List V), PtAt K c G vs ps → PtAt K c G' vs ps
  | [], _, h => by cases h; exact .nil
  | (i, w) :: ps, _, h => by
    cases h with
    | cons h1 h2 h3 => exact .cons (Evl.ex_t e h1) (WkAt.mono e w _ h2) (PtAt.mono e ps _ h3)
end
mutual
theorem PlAt.mono (e : Ex G G') : ∀ (w : Pl) (v : V), PlAt K G v w → PlAt K G' v w
  | .leaf n s, _, h => by
    cases h with
    | leaf h1 => exact .leaf (Evl.ex_t e h1)
  | .lot r n ps, _, h => by
    cases h with
    | lot h1 h2 h3 => exact .lot (Evl.ex_t e h1) (e _ _ h2) (PpAt.mono e ps _ h3)
theorem PpAt.mono (e : Ex G G') : ∀ (ps : List (Int × Pl)) (vs : List V), PpAt K G vs ps → PpAt K G' vs ps
  | [], _, h => by cases h; exact .nil
  | (i, w) :: ps, _, h => by
    cases h with
    | cons h1 h2 h3 => exact .cons (Evl.ex_t e h1) (PlAt.mono e w _ h2) (PpAt.mono e ps _ h3)
end
end
def rWk (K : PySem.W.Frag) (c : WC) : Rp Pl := ⟨WkAt K c, fun {G G' v a} e h => WkAt.mono e a v h⟩
def rPl (K : PySem.W.Frag) : Rp Pl := ⟨PlAt K, fun {G G' v a} e h => PlAt.mono e a v h⟩
theorem ptAt_all {K : PySem.W.Frag} {c : WC} {G : Hp} : ∀ {ps : List (Int × Pl)} {vs : List V}, PtAt K c G vs ps ↔ All2 (rT2 K rInt (rWk K c)) G vs ps
  | [], vs => ⟨fun h => by cases h; exact .nil, fun h => by cases h; exact .nil⟩
  | (i, w) :: ps, vs => ⟨fun h => by
    cases h with
    | cons h1 h2 h3 => exact .cons ⟨_, _, _, rfl, h1, rfl, h2⟩ (ptAt_all.mp h3), fun h => by
    cases h with
    | cons h1 h3 =>
      obtain ⟨p, x, y, e, k1, k2, k3⟩ := h1
      have k2' : x = .int i := k2
      subst e k2'
      exact .cons k1 k3 (ptAt_all.mpr h3)⟩
theorem ppAt_all {K : PySem.W.Frag} {G : Hp} : ∀ {ps : List (Int × Pl)} {vs : List V}, PpAt K G vs ps ↔ All2 (rT2 K rInt (rPl K)) G vs ps
  | [], vs => ⟨fun h => by cases h; exact .nil, fun h => by cases h; exact .nil⟩
  | (i, w) :: ps, vs => ⟨fun h => by
    cases h with
    | cons h1 h2 h3 => exact .cons ⟨_, _, _, rfl, h1, rfl, h2⟩ (ppAt_all.mp h3), fun h => by
    cases h with
    | cons h1 h3 =>
      obtain ⟨p, x, y, e, k1, k2, k3⟩ := h1
      have k2' : x = .int i := k2
      subst e k2'
      exact .cons k1 k3 (ppAt_all.mpr h3)⟩
/-- what the classes are -/
structure WcOk (K : PySem.W.Frag) (c : WC) : Prop where
  cls : ∀ w, Cls K (c.of w)
  called : ∀ w, NoAttr K (c.of w) "called"
  held : ∀ w, NoAttr K (c.of w) "held"
  many : ∀ w, NoAttr K (c.of w) "many"
theorem WkAt.obj {K : PySem.W.Frag} {c : WC} {G : Hp} {v : V} {w : Pl} (h : WkAt K c G v w) : ∃ a dx hd vs, v = .ref a ∧ G a = some (.ins (c.of w) dx (wkF w.name hd (oV w.steps))) ∧ G hd = some (.lst vs) ∧ PtAt K c G vs w.parts := by
  cases h with
  | leaf h1 h2 => exact ⟨_, _, _, _, rfl, h1, h2, .nil⟩
  | lot h1 h2 h3 => exact ⟨_, _, _, _, rfl, h1, h2, h3⟩
section
variable {X : Cx} {Γ : List Slot} {c : WC} {e : Expr} {pos : Pos} {w : Pl}
theorem ev_called (ok : WcOk X.K c) (h : Ev X Γ e (rWk X.K c) w) (hb : attributeBase e "called" X.env (eval e X.env) = eval e X.env := by rfl) : Ev X Γ (.Attribute e "called" pos) rStr w.name := fun E G H σ hh Q q =>
  WE.of (pe_fld WE.pe hb) (h E G H σ hh _ fun v G1 H1 l1 r1 => by
    obtain ⟨a, dx, hd, vs, e1, h1, h2, h3⟩ := r1.obj
    exact ⟨a, _, dx, _, _, e1, l1.gh _ _ h1, ok.cls w, ok.called w, rfl, q _ G1 H1 l1 rfl⟩)
theorem ev_held (ok : WcOk X.K c) (h : Ev X Γ e (rWk X.K c) w) (hb : attributeBase e "held" X.env (eval e X.env) = eval e X.env := by rfl) : Ev X Γ (.Attribute e "held" pos) (rLst (rT2 X.K rInt (rWk X.K c))) w.parts := fun E G H σ hh Q q =>
  WE.of (pe_fld WE.pe hb) (h E G H σ hh _ fun v G1 H1 l1 r1 => by
    obtain ⟨a, dx, hd, vs, e1, h1, h2, h3⟩ := r1.obj
    exact ⟨a, _, dx, _, _, e1, l1.gh _ _ h1, ok.cls w, ok.held w, rfl, q _ G1 H1 l1 ⟨hd, vs, rfl, h2, ptAt_all.mp h3⟩⟩)
theorem ev_many (ok : WcOk X.K c) (h : Ev X Γ e (rWk X.K c) w) (hb : attributeBase e "many" X.env (eval e X.env) = eval e X.env := by rfl) : Ev X Γ (.Attribute e "many" pos) (rOpt rInt) w.steps := fun E G H σ hh Q q =>
  WE.of (pe_fld WE.pe hb) (h E G H σ hh _ fun v G1 H1 l1 r1 => by
    obtain ⟨a, dx, hd, vs, e1, h1, h2, h3⟩ := r1.obj
    refine ⟨a, _, dx, _, _, e1, l1.gh _ _ h1, ok.cls w, ok.many w, rfl, q _ G1 H1 l1 ?_⟩
    cases w.steps with
    | none => rfl
    | some i => rfl)
end
end Hf

namespace Hf
open PySem PySem.Spec PyProof.Rows L2

/-! ### methods -/
/-- the method m of the class at C, as callers see it -/
structure HasM (P : Program) (w : World) (K : PySem.W.Frag) (mg : Str → Option Value) (base : Heap) (C : Addr) (m : Str) (k : Nat) (sp : Sp) : Prop where
  ex : ∃ (f : Addr) (fd : FuncData) (ps : List Str) (spF : Sp) (dvs : List V) (ds : List Value), Cls K C ∧ Meth K C m f ∧ Binds K fd ps ds ∧ Vals dvs ds ∧ FnOk P w K mg base (CXL P w) k f fd ps spF ∧ ∀ vs H Q, sp vs H Q E0 → spF (vs ++ dvs) H Q E0
theorem HasM.mk0 {P : Program} {w : World} {K : PySem.W.Frag} {mg : Str → Option Value} {base : Heap} {C : Addr} {m : Str} {k : Nat} {sp : Sp} {f : Addr} {fd : FuncData} {ps : List Str} (c : Cls K C) (hm : Meth K C m f) (hb : Binds K fd ps []) (F : FnOk P w K mg base (CXL P w) k f fd ps sp) : HasM P w K mg base C m k sp :=
  ⟨f, fd, ps, sp, [], [], c, hm, hb, .nil, F, fun vs H Q h => by rw [List.append_nil]; exact h⟩
theorem HasM.sub {P : Program} {w : World} {K : PySem.W.Frag} {mg : Str → Option Value} {base : Heap} {C : Addr} {m : Str} {k j : Nat} {sp sp' : Sp} (h : HasM P w K mg base C m k sp) (hk : k ≤ j) (hs : ∀ vs H Q, sp' vs H Q E0 → sp vs H Q E0) : HasM P w K mg base C m j sp' := by
  obtain ⟨f, fd, ps, spF, dvs, ds, c, hm, hb, hd, F, hi⟩ := h.ex
  exact ⟨f, fd, ps, spF, dvs, ds, c, hm, hb, hd, F.mono hk, fun vs H Q z => hi vs H Q (hs vs H Q z)⟩
/-- a method of works: for each class the spec holds of the data of this class -/
def HasV (P : Program) (w : World) (K : PySem.W.Frag) (mg : Str → Option Value) (base : Heap) (c : WC) (m : Str) (k : Nat) {ι α : Type} (self : ι → Pl) (Pre : ι → Prop) (args : ι → List Ty) (r : Rp α) (res : ι → α) : Prop :=
  ∀ y, Pre y → HasM P w K mg base (c.of (self y)) m k (PSp (fun z => z = y) (fun z => ⟨rWk K c, self z⟩ :: args z) r res)
section
variable {X : Cx} {Γ : List Slot} {e o : Expr} {es : List Expr} {pos p apos : Pos} {α ι : Type} {r : Rp α} {k j : Nat} {m : Str} {C : Addr} {c : WC} {pl : Sem Bool}
theorem we_meth {sp : Sp} {σ : L2.St} {H : Hp} {Q : VK} (h : HasM X.prog X.w X.K X.mg X.base C m k sp) (hr : Room j X.A) (hk : k ≤ j)
    (ho : WE X o σ H fun x H1 => ∃ a dx fs, x = .ref a ∧ H1 a = some (.ins C dx fs) ∧ fs.lookup m = none ∧ WA X (e :: es) σ H1 fun vs H2 => sp (x :: vs) H2 Q E0)
    (hst : starEach (e :: es) X.env = (false, eval e X.env) :: starEach es X.env := by rfl) (hpl : (backTo pos (starEach es X.env)).any (·.1) = false := by rfl)
    (ht : eval (.Call (.Attribute o m apos) (e :: es) [] pos) X.env = (do
      let ov ← eval o X.env
      standAt apos.atName
      let (f, first) ← holding [ov] (getMethod ov m pl)
      callWith pos f first (backTo pos (starEach (e :: es) X.env)) (backToKw pos (keywordEach [] X.env))) := by rfl) : WE X (.Call (.Attribute o m apos) (e :: es) [] pos) σ H Q := by
  obtain ⟨f0, fd, ps, spF, dvs, ds, c, hm, hb, hd, F, hi⟩ := h.ex
  refine WE.of (pe_meth WE.pe c hm F (hr.mono hk) hb hd passL WA.pa hst hpl ht) ?_
  exact ⟨fun pins s I => thn (ho.run pins s I) fun u s1 ⟨x, H1, I1, r1, a, dx, fs, e1, e2, l, q⟩ => ⟨x, H1, I1, r1, a, dx, fs, e1, e2, l, ⟨fun pos pins s I => thn (q.run pos pins s I) fun us s1 ⟨vs, H1, I1, r1, q⟩ => ⟨vs, H1, I1, r1, hi (x :: vs) H1 Q q⟩⟩⟩⟩
theorem we_meth0 {sp : Sp} {σ : L2.St} {H : Hp} {Q : VK} (h : HasM X.prog X.w X.K X.mg X.base C m k sp) (hr : Room j X.A) (hk : k ≤ j)
    (ho : WE X o σ H fun x H1 => ∃ a dx fs, x = .ref a ∧ H1 a = some (.ins C dx fs) ∧ fs.lookup m = none ∧ sp [x] H1 Q E0)
    (ht : eval (.Call (.Attribute o m apos) [] [] pos) X.env = (do
      let ov ← eval o X.env
      standAt apos.atName
      let (f, first) ← holding [ov] (getMethod ov m pl)
      callWith pos f first (backTo pos (starEach [] X.env)) (backToKw pos (keywordEach [] X.env))) := by rfl) : WE X (.Call (.Attribute o m apos) [] [] pos) σ H Q := by
  obtain ⟨f0, fd, ps, spF, dvs, ds, c, hm, hb, hd, F, hi⟩ := h.ex
  refine WE.of (pe_meth0 WE.pe c hm F (hr.mono hk) hb hd passL ht) ?_
  exact ⟨fun pins s I => thn (ho.run pins s I) fun u s1 ⟨x, H1, I1, r1, a, dx, fs, e1, e2, l, q⟩ => ⟨x, H1, I1, r1, a, dx, fs, e1, e2, l, hi [x] H1 Q q⟩⟩
end
end Hf

namespace Hf
open PySem PySem.Spec PyProof.Rows L2
section
variable {X : Cx} {Γ : List Slot} {e o : Expr} {es : List Expr} {pos p apos : Pos} {α ι : Type} {r : Rp α} {k j : Nat} {m : Str} {C : Addr} {c : WC} {pl : Sem Bool} {self : ι → Pl} {Pre : ι → Prop} {args : ι → List Ty} {res : ι → α} {z : α}
/-- w.m(e, ..) of a work -/
theorem ev_vm (h : HasV X.prog X.w X.K X.mg X.base c m k self Pre args r res) (hr : Room j X.A) (hk : k ≤ j) (y : ι) (hp : Pre y) (ho : Ev X Γ o (rWk X.K c) (self y)) (ha : EvA X Γ (e :: es) (args y)) (hz : res y = z := by rfl)
    (hf : ∀ n hd v, (wkF n hd v).lookup m = none := by intro _ _ _; rfl)
    (hst : starEach (e :: es) X.env = (false, eval e X.env) :: starEach es X.env := by rfl) (hpl : (backTo pos (starEach es X.env)).any (·.1) = false := by rfl)
    (ht : eval (.Call (.Attribute o m apos) (e :: es) [] pos) X.env = (do
      let ov ← eval o X.env
      standAt apos.atName
      let (f, first) ← holding [ov] (getMethod ov m pl)
      callWith pos f first (backTo pos (starEach (e :: es) X.env)) (backToKw pos (keywordEach [] X.env))) := by rfl) : Ev X Γ (.Call (.Attribute o m apos) (e :: es) [] pos) r z := fun E G H σ hh Q q =>
  we_meth (h y hp) hr hk (ho E G H σ hh _ fun v G1 H1 l1 r1 => by
    obtain ⟨a, dx, hd, vs, e1, h1, h2, h3⟩ := WkAt.obj r1
    subst e1
    refine ⟨a, dx, _, rfl, l1.gh _ _ h1, hf _ _ _, ha E G1 H1 σ (hh.step l1) _ fun us G2 H2 l2 a2 => ?_⟩
    exact ⟨y, G2, rfl, l2.gh, ⟨(rWk X.K c).mono l2.g r1, a2⟩, fun u G3 H3 l3 r3 => q u G3 H3 ((l1.trans l2).trans l3) (hz ▸ r3)⟩) hst hpl ht
theorem ev_vm0 (h : HasV X.prog X.w X.K X.mg X.base c m k self Pre args r res) (hr : Room j X.A) (hk : k ≤ j) (y : ι) (hp : Pre y) (ho : Ev X Γ o (rWk X.K c) (self y)) (ha : args y = []) (hz : res y = z := by rfl)
    (hf : ∀ n hd v, (wkF n hd v).lookup m = none := by intro _ _ _; rfl)
    (ht : eval (.Call (.Attribute o m apos) [] [] pos) X.env = (do
      let ov ← eval o X.env
      standAt apos.atName
      let (f, first) ← holding [ov] (getMethod ov m pl)
      callWith pos f first (backTo pos (starEach [] X.env)) (backToKw pos (keywordEach [] X.env))) := by rfl) : Ev X Γ (.Call (.Attribute o m apos) [] [] pos) r z := fun E G H σ hh Q q =>
  we_meth0 (h y hp) hr hk (ho E G H σ hh _ fun v G1 H1 l1 r1 => by
    obtain ⟨a, dx, hd, vs, e1, h1, h2, h3⟩ := WkAt.obj r1
    subst e1
    refine ⟨a, dx, _, rfl, l1.gh _ _ h1, hf _ _ _, y, G1, rfl, l1.gh, ⟨r1, by rw [ha]; trivial⟩, fun u G3 H3 l3 r3 => q u G3 H3 (l1.trans l3) (hz ▸ r3)⟩) ht
end
/-! ### an instance that is being made -/
def oIns (C : Addr) (ns : List Str) (ts : List Ty) : Oc := ⟨fun G o => ∃ dx vs, o = .ins C dx (ns.zip vs) ∧ Args G vs ts ∧ ns.length = ts.length, fun e ⟨dx, vs, h1, h2, h3⟩ => ⟨dx, vs, h1, Args.mono e h2, h3⟩⟩
theorem putF_new {f : Str} {v : V} : ∀ {ns : List Str} {vs : List V}, f ∉ ns → ns.length = vs.length → putF f v (ns.zip vs) = (ns ++ [f]).zip (vs ++ [v])
  | [], [], _, _ => rfl
  | n :: ns, u :: vs, h, l => by
    simp only [List.mem_cons, not_or] at h
    show (if n = f then (n, v) :: ns.zip vs else (n, u) :: putF f v (ns.zip vs)) = (n, u) :: (ns ++ [f]).zip (vs ++ [v])
    rw [if_neg (fun z => h.1 z.symm), putF_new h.2 (by simpa using l)]
section
variable {X : Cx} {E : Ent} {Γ : List Slot} {D : Ends} {e o : Expr} {rest : List Stmt} {pos p p2 : Pos} {α : Type} {r : Rp α} {x : α}
/-- self.f = e, a field more -/
theorem bk_fld (i : Nat) {a f : Str} {C : Addr} {ns : List Str} {ts : List Ty} {pq : Option Addr} (cl : Cls X.K C) (na : NoAttr X.K C f) (hg : Γ[i]? = some (.ow (oIns C ns ts) pq)) (he : Ev X Γ e r x) (hn : f ∉ ns) (hl : ns.length < 1000) (k : Bk X E (Γ.set i (.ow (oIns C (ns ++ [f]) (ts ++ [⟨r, x⟩])) pq)) rest D)
    (hN : X.N[i]? = some a := by rfl) (hv : Vis X.env.scope a := by first | exact Or.inl rfl | exact Or.inr (Or.inl rfl) | exact Or.inr (Or.inr rfl)) (hd : (a == ("__debug__" : Str)) = false := by decide) (hcd : (a == ("__classdict__" : Str)) = false := by decide)
    (hs : swapsWith e (some (.Attribute (.Name a p) f p2)) pos.line X.env = pure false := by rfl) : Bk X E Γ (.Assign [.Attribute (.Name a p) f p2] e pos :: rest) D :=
  bk_of (ps_fld (pe_var hN hv hd hcd) WE.pe hs) fun G H σ hh => he E G H σ hh _ fun v G1 H1 l1 r1 => by
    have h1 := hh.step l1
    obtain ⟨q, ob, w1, w2, w3, w4, dx, vs, w5, w6, w7⟩ := h1.ow hg
    subst w5
    refine ⟨_, w1, q, C, dx, _, rfl, w4, cl, na, by rw [List.length_zip]; omega, ?_⟩
    have lv : ns.length = vs.length := by rw [args_length w6]; exact w7
    refine k G1 _ σ (h1.mut hg w1 ⟨dx, vs ++ [v], by rw [putF_new hn lv], args_app (t := ⟨r, x⟩) r1 w6, by simp [w7]⟩)
end
end Hf

namespace Hf
open PySem PySem.Spec PyProof.Rows L2 ClX
/-- the def f reached through its class: C.m(x, ..) -/
structure Unb (K : PySem.W.Frag) (C : Addr) (m : Str) (f : Addr) : Prop where
  rd : ∃ mc, CRead K C mc ∧ PySem.W.findCls K (.ref C) mc m = some (.val (.ref f))
  kp : PySem.W.keepIn K (.ref f) = true
def tUnb (C : Addr) (sp : Sp) (dvs : List V) (E : XK) (ta : TE) (t : TA) : TE := fun σ H Q => ta σ H fun x H1 => x = .ref C ∧ t σ H1 fun vs H2 => sp (vs ++ dvs) H2 Q E
section
variable {X : Cx} {CX : CXT} {k : Nat} {f C : Addr} {fd : FuncData} {ps : List Str} {sp : Sp} {dvs : List V} {ds : List Value} {E : XK} {m : Str} {pos apos : Pos} {e o : Expr} {es : List Expr} {ta : TE} {t : TA} {pl : Sem Bool}
theorem pe_unb (he : PE X o ta) (u : Unb X.K C m f) (F : FnOk X.prog X.w X.K X.mg X.base CX k f fd ps sp) (hr : Room k X.A) (hb : Binds X.K fd ps ds) (hd : Vals dvs ds) (hx : Passes CX X E) (ha : PA X (e :: es) t)
    (hst : starEach (e :: es) X.env = (false, eval e X.env) :: starEach es X.env := by rfl) (hpl : (backTo pos (starEach es X.env)).any (·.1) = false := by rfl)
    (ht : eval (.Call (.Attribute o m apos) (e :: es) [] pos) X.env = (do
      let ov ← eval o X.env
      standAt apos.atName
      let (f, first) ← holding [ov] (getMethod ov m pl)
      callWith pos f first (backTo pos (starEach (e :: es) X.env)) (backToKw pos (keywordEach [] X.env))) := by rfl) :
    PE X (.Call (.Attribute o m apos) (e :: es) [] pos) (tUnb C sp dvs E ta t) := by
  obtain ⟨mc, r, at_⟩ := u.rd
  refine ⟨fun pins s σ H Q I h => PySem.W.methodCall_KW (pl := pl) (thn (he.run pins s σ H _ I h) fun v s1 ⟨x, H1, I1, rx, ex, q⟩ => ?_) ht⟩
  subst ex
  have ev : v = Value.ref C := rx
  subst ev
  refine PySem.W.method_cls I1.kIn r.ga (PySem.W.cls_value I1.kIn r.rd at_ (handed_of (v := .ref f) rfl) ?_)
  have I2 := I1.tok (s1.toks + 1)
  exact PySem.W.callWith_K (first := []) (h₀ := X.base) I2.ok.mod.kin u.kp (thn (ha.run pos pins _ σ H1 _ I2 q) fun us s2 ⟨vs, H2, I3, r3, q2⟩ => ⟨I3.kIn, run_fn F hr hb hd hx I3 r3 q2⟩) hst hpl
end
end Hf

/-! len(set(list of texts)) -/
namespace Hf
open PySem PySem.Spec PyProof.Rows L2 PySem.W PySem.Calls
def dups (l : List Str) : List Str := l.foldl (fun a x => if decide (x ∈ a) = true then a else a ++ [x]) []
theorem dups_snoc (l : List Str) (x : Str) : dups (l ++ [x]) = if decide (x ∈ dups l) = true then dups l else dups l ++ [x] := by
  unfold dups
  rw [List.foldl_append]
  rfl
theorem dups_mem {x : Str} {l : List Str} : x ∈ dups l ↔ x ∈ l := by
  have h : ∀ n, ∀ l : List Str, l.length = n → (x ∈ dups l ↔ x ∈ l) := fun n => by
    induction n with
    | zero => intro l hl; rw [List.length_eq_zero_iff.mp hl]; rfl
    | succ n ih =>
      intro l hl
      obtain ⟨m, z, rfl⟩ : ∃ m z, l = m ++ [z] := ⟨l.dropLast, l.getLast (by intro q; rw [q] at hl; simp at hl), (List.dropLast_concat_getLast _).symm⟩
      have hm : m.length = n := by simp at hl; omega
      have k := ih m hm
      rw [dups_snoc]
      split
      · rename_i q
        have q' : z ∈ dups m := of_decide_eq_true q
        rw [k]
        simp only [List.mem_append, List.mem_singleton]
        constructor
        · exact .inl
        · rintro (y | y)
          · exact y
          · rw [← k, y]; exact q'
      · simp only [List.mem_append, List.mem_singleton, k]
  exact h _ l rfl
section
variable {P : Program} {w : World} {A : Around}
theorem upd_txt {I : Addr} {fp wr : List Addr} {G : Array GenState → Array GenState → Prop} {n : Nat} {Pv : Nat → Value → Prop} {St : Nat → Shared → Prop} {R : Result → Shared → Prop}
    (W : WalksS P w A.in1 I fp wr G n Pv St) (S : Addr) (hf : S ∉ fp) (ks : List Str) (hn : n = ks.length) (hb : ks.length + 1 < scanBound) (hv : ∀ i v, Pv i v → ∃ k t, ks[i]? = some k ∧ v = .str k t) :
    ∀ (d i : Nat) (s : Shared), n - i = d → i ≤ n → St i s → s.heap.SetOf (strKind P w) S (fun j => decide (j ∈ dups (ks.take i))) (dups (ks.take i)).length →
      (∀ u, Moved (S :: wr) G s u → u.heap.SetOf (strKind P w) S (fun j => decide (j ∈ dups ks)) (dups ks).length → R (.ok (.ret .none)) u) →
      codeAny (model P w) A (.builtin "set.update.loop" ⟨[.ref S, .ref I], []⟩) R s := by
  have nw : S ∉ wr := fun h => hf (W.sub _ h)
  have more : ∀ b ∈ wr, b ∈ S :: wr := fun b h => .tail _ h
  have at' : ∀ {g g' : Heap} {f : Str → Bool} {c : Nat}, (∀ o, g.get? S = some o → g'.get? S = some o) → g.SetOf (strKind P w) S f c → g'.SetOf (strKind P w) S f c := fun k ⟨o, es, ep, t, ho, z⟩ => ⟨o, es, ep, t, k o ho, z⟩
  intro d
  induction d with
  | zero =>
    intro i s hd hi st hS hR
    have e : i = n := by omega
    subst e
    refine codeAny_builtin PyProof.Rows.F.entry_set_update_loop ?_
    rw [Around.under_plainId PyProof.Rows.F.plain_set_update_loop _]
    refine (show wpAny _ A.in1 (pyNext (.ref I) >>= _) _ _ s from wpAny_bind (W.done s _ _ st fun u hm => ?_))
    rw [List.take_of_length_le (by omega)] at hS
    exact (show wpAny _ A.in1 (ret Value.none) _ _ u from wpAny_pure (hR u (hm.mono more) (at' (fun o => hm.heap S o nw) hS)))
  | succ d ih =>
    intro i s hd hi st hS hR
    have lt : i < n := by omega
    refine codeAny_builtin PyProof.Rows.F.entry_set_update_loop ?_
    rw [Around.under_plainId PyProof.Rows.F.plain_set_update_loop _]
    refine (show wpAny _ A.in1 (pyNext (.ref I) >>= _) _ _ s from wpAny_bind (W.item i s _ _ lt st fun v u hp st' hm => ?_))
    obtain ⟨z, t, hz, rfl⟩ := hv i v hp
    have hS' := at' (fun o => hm.heap S o nw) hS
    refine (show wpAny _ A.in1 (holding [Value.str z t] (setAdd S (.str z t)) >>= _) _ _ u from wpAny_bind (wpAny_holding ?_))
    unfold setAdd
    have dl : (dups (ks.take i)).length ≤ i := by
      have h : ∀ m, ∀ l : List Str, l.length = m → (dups l).length ≤ m := fun m => by
        induction m with
        | zero => intro l hl; rw [List.length_eq_zero_iff.mp hl]; exact Nat.le_refl _
        | succ m ih2 =>
          intro l hl
          obtain ⟨m', z', rfl⟩ : ∃ m z, l = m ++ [z] := ⟨l.dropLast, l.getLast (by intro q; rw [q] at hl; simp at hl), (List.dropLast_concat_getLast _).symm⟩
          have := ih2 m' (by simp at hl; omega)
          rw [dups_snoc]
          split
          · omega
          · rw [List.length_append, List.length_singleton]; omega
      have := h _ (ks.take i) rfl
      rw [List.length_take] at this
      omega
    refine wpAny_holding (wpAny_bind ((strKind P w).pyHash (k := z) (strKind_is _ _ z t) ?_))
    refine wpAny_setAddHashed_of (knd := strKind P w) (s := { u with toks := u.toks + 1 }) (strKind_is _ _ z t) rfl hS' (by omega) fun g' hsb hS2 => ?_
    have tk : ks.take (i + 1) = ks.take i ++ [z] := by
      rw [List.take_add_one, hz]; rfl
    have hS3 : g'.SetOf (strKind P w) S (fun j => decide (j ∈ dups (ks.take (i + 1)))) (dups (ks.take (i + 1))).length := by
      refine SetOf_congr hS2 (fun j => ?_) ?_
      · rw [tk, dups_snoc]
        split
        · rename_i q
          by_cases y : j = z
          · subst y; simp [q]
          · simp [y]
        · simp
      · rw [tk, dups_snoc]
        split <;> simp
    refine wpAny_pure ⟨plainId_quiet PyProof.Rows.F.plain_set_update_loop _, ih (i + 1) _ (by omega) lt (W.frame _ u _ _ st' (Nat.le_succ _) fun b hb o e => ?_) hS3 fun u2 m2 hS4 => ?_⟩
    · rw [hsb.2 b (fun h => hf (h ▸ hb))]; exact e
    · refine hR u2 (Moved.trans W.gtrans ((hm.mono more).then_heap (Nat.le_succ _) fun b o hb e => ?_) m2) hS4
      rw [hsb.2 b (fun h => hb (h ▸ .head _))]; exact e
end
end Hf

namespace Hf
open PySem PySem.Spec PyProof.Rows L2 PySem.W PySem.Calls
theorem strs_at : ∀ {vs : List Value} {ns : List Str}, StrsAre vs ns → ∀ (i : Nat) (v : Value), vs[i]? = some v → ∃ k t, ns[i]? = some k ∧ v = .str k t
  | _, _, .cons k t h, 0, v, e => by cases e; exact ⟨k, t, rfl, rfl⟩
  | _, _, .cons k t h, i + 1, v, e => strs_at h i v e
  | _, _, .nil, i, v, e => by simp at e
theorem strs_len : ∀ {vs : List Value} {ns : List Str}, StrsAre vs ns → vs.length = ns.length
  | _, _, .nil => rfl
  | _, _, .cons k t h => by rw [List.length_cons, List.length_cons, strs_len h]
theorem setTxt_new {P : Program} {w : World} {g : Heap} {a : Addr} (h : g.get? a = some (nset w)) : g.SetOf (strKind P w) a (fun j => decide (j ∈ dups (([] : List Str)))) (dups ([] : List Str)).length :=
  ⟨_, #[], 0, _, h, ⟨rfl, rfl, rfl⟩, rfl, fun e he => by simp at he, fun k => by simp [dups], by decide, rfl, rfl⟩
section
variable {P : Program} {w : World} {A : Around} {E : Value → Shared → Prop} {s : Shared}
set_option maxHeartbeats 3200000 in
theorem set_of_txts {l : Addr} {items : Array Value} (ns : List Str) {Q : Value → Shared → Prop} (nh : A.handled = none) (hl : s.heap.IsList l items) (it : StrsAre items.toList ns) (fit : ns.length + 1 < scanBound)
    (k : ∀ (g : Heap) (tk : Nat), g.SetOf (strKind P w) s.heap.objs.size (fun j => decide (j ∈ dups ns)) (dups ns).length → (∀ b o, s.heap.get? b = some o → g.get? b = some o) → Q (.ref s.heap.objs.size) { s with heap := g, toks := tk }) :
    wpAny (model P w) A (call (.type "set") [.ref l]) Q E s := by
  have sz : items.size = ns.length := by have q := strs_len it; rw [Array.length_toList] at q; exact q
  have fs := F.called_set
  obtain ⟨mc, mt, hmro⟩ := fs.mro
  have x1 := fs.made; have x2 := fs.sub; have x3 := fs.notType; have x4 := fs.canCreate
  refine wpAny_call (codeAny_of_tree (wpAny_pure (show _ ∧ _ from ⟨Code.quiet_builtin _ (by decide +kernel), codeAny_builtin F.entry_type_call ?_⟩)))
  rw [Around.under_plain (weight_type_call_type "set" [.ref l] []) rfl]
  have x5 := F.typeCall_set_1 (.ref l)
  repeat (any_goals (first | assumption | wp_step))
  refine codeAny_mono (code_set_led1 (.ref l) (E := E) (Q₁ := fun ob u => ob = .ref s.heap.objs.size ∧ u = { s with heap := s.heap.push (nset w) }) ⟨rfl, rfl⟩) fun r u hr => ?_
  match r, hr with
  | .error e, hr => exact hr
  | .ok (.ret ob), hr =>
    obtain ⟨e1, e2⟩ := hr
    subst e1; subst e2
    have hS : (s.heap.push (nset w)).get? s.heap.objs.size = some (nset w) := Heap.get?_push_size _ rfl
    have hT : Shared.TypeIs { s with heap := s.heap.push (nset w) } (.ref s.heap.objs.size) "set" := ⟨_, hS, rfl⟩
    have x6 := fs.init.lookup; have x7 := fs.init.bind (.ref s.heap.objs.size)
    repeat (any_goals (first | assumption | wp_step))
    refine codeAny_mono (codeAny_call_builtin (R := wants (fun r s₂ => r = .none ∧ ∃ g tk, s₂ = { s with heap := g, toks := tk } ∧ g.SetOf (strKind P w) s.heap.objs.size (fun j => decide (j ∈ dups ns)) (dups ns).length ∧
        (∀ b o, s.heap.get? b = some o → g.get? b = some o)) E) fs.init.plain F.entry_set_init (check_set_init_1 hT ?_)) fun r₂ s₂ hr₂ => ?_
    · obtain ⟨⟨ocls, odict, odata, oslots⟩, hol, hcl, nl, hdl⟩ := hl
      simp only at hcl hdl
      subst hcl; subst hdl
      have hl1 : (s.heap.push (nset w)).IsList l items := ⟨_, Heap.get?_push_of_some _ hol, rfl, nl, rfl⟩
      have hol' : (s.heap.push (nset w)).get? l = some { cls := .type "list", dict := odict, data := .seq items nl, slots := oslots } := Heap.get?_push_of_some _ hol
      have y1 := F.sub_list_set; have y2 := F.sub_list_frozenset
      have y3 : (Value.type "list" == Value.type "dict") = false := by decide
      unfold Builtin.«set.__init__» noKeywords Builtin.Frozenset.updateFrom
      generalize hPI : pyIter = PI
      wp_walk
      subst hPI
      refine wpAny_pyIter_list hl1 (wpAny_bind (wpAny_runValue ?_))
      have ls : l < s.heap.objs.size := Heap.lt_size hol
      have pz : (s.heap.push (nset w)).objs.size = s.heap.objs.size + 1 := Heap.size_push ..
      have hh3 : A.in1.in1.in1.handled = none := by simp [nh]
      refine upd_txt ((Walks.list hh3 (s.heap.push (nset w)).objs.size l (by rw [pz]; exact Nat.ne_of_lt (Nat.lt_succ_of_lt ls)) items).toS) s.heap.objs.size
        (by rw [pz]; simp only [List.mem_cons, List.not_mem_nil, or_false, not_or]; exact ⟨Nat.ne_of_lt (Nat.lt_succ_self _), Nat.ne_of_gt ls⟩) ns sz fit (fun i v hv => ?hval) (items.size - 0) 0 _ (by omega) (Nat.zero_le _) ⟨⟨_, Heap.get?_push_size _ rfl, rfl, rfl⟩, hl1.push _⟩ (setTxt_new (Heap.get?_push_of_some _ hS)) fun s' hm hS' => ?_
      case hval =>
        have hi : i < ns.length := by rw [← sz]; exact (Array.getElem?_eq_some_iff.mp hv).1
        exact strs_at it i v (by rw [Array.getElem?_toList]; exact hv)
      obtain ⟨g, g2, d', tk, os'⟩ := s'
      have eg : g2 = s.gens := hm.gens
      have ed : d' = s.drawn := hm.drawn
      have eo : os' = s.os := hm.os
      subst eg; subst ed; subst eo
      refine wpAny_pure (show wpAny _ _ (ret Value.none) _ _ _ from wpAny_pure ⟨rfl, g, tk, rfl, hS', fun b o e => ?_⟩)
      have hb0 : b < s.heap.objs.size := Heap.lt_size e
      exact hm.heap b o (by rw [pz]; simp only [List.mem_cons, List.not_mem_nil, or_false, not_or]; exact ⟨Nat.ne_of_lt hb0, Nat.ne_of_lt (Nat.lt_succ_of_lt hb0)⟩) (Heap.get?_push_of_some _ (Heap.get?_push_of_some _ e))
    · match r₂, hr₂ with
      | .error e, hr₂ => exact hr₂
      | .ok (.ret r), hr₂ =>
        obtain ⟨e1, g, tk, e2, hS', hk'⟩ := hr₂
        subst e1; subst e2
        repeat (any_goals (first | assumption | wp_step))
        exact k _ _ hS' hk'
end
end Hf

namespace Hf
open PySem PySem.Spec PyProof.Rows L2
def tLenTxt (K : PySem.W.Frag) (ta : TE) : TE := fun σ H Q => ta σ H fun x H1 => ∃ (l : Addr) (xs : List Str), x = .ref l ∧ SqL K H1 l (xs.map V.str) ∧ xs.length + 1 < scanBound ∧ Q (.int ((dups xs).length : Nat)) H1
theorem strsAre_vals : ∀ {ys : List Str} {us : List Value}, Vals (ys.map V.str) us → StrsAre us ys
  | [], _, .nil => .nil
  | y :: ys, _, .cons r t => by
    obtain ⟨k, rfl⟩ := r
    exact .cons y k (strsAre_vals t)
section
variable {X : Cx} {Γ : List Slot} {a e : Expr} {ta : TE} {p p2 q pos : Pos} {xs : List Str}
theorem pe_lenTxt (hg : Gl X "len") (hm : X.mg "len" = none) (hg2 : Gl X "set") (hm2 : X.mg "set" = none) (ha : PE X a ta) (hc : X.calm = true := by rfl)
    (na : starEach [a] X.env = (false, eval a X.env) :: starEach [] X.env := by rfl) : PE X (.Call (.Name "len" p) [.Call (.Name "set" p2) [a] [] q] [] pos) (tLenTxt X.K ta) := by
  constructor
  intro pins s σ H Q I h
  refine Call_ (ld_blt I hg hm boot_len (PyProof.Rows.callWith_builtin1 (PyProof.Rows.args_cons (Call_ (ld_blt I hg2 hm2 boot_set ?_)) rfl) rfl rfl))
  refine PyProof.Rows.callWith_type1 (PyProof.Rows.args_cons (thn (ha.run pins s σ H _ I h) fun v s1 ⟨x, H1, I1, r1, l, xs, ex, hq, fit, q1⟩ => PyProof.Rows.args_nil ?_) na) na rfl
  subst ex
  cases r1
  obtain ⟨its, r, pl, hz⟩ := I1.list hq
  refine set_of_txts (P := X.prog) (w := X.w) xs (I1.ok.hd hc) pl.isList (by simpa using strsAre_vals r) fit fun g tk hS hk => ?_
  refine PyProof.Rows.args_nil ?_
  obtain ⟨o, es, ep, t, ho, hex, hd, _, _, hb, hf, hn⟩ := hS
  have sb : scanBound = 4096 := rfl
  have I2 : Inv X pins σ H1 { s1 with heap := g, toks := tk } := I1.kept hk
  exact call_len_set ho hex hd hf (by omega) ⟨.int ((dups xs).length : Nat), H1, I2.tok _, ⟨_, by rw [hn]⟩, q1⟩
theorem ev_lenTxt (hl : xs.length + 1 < scanBound) (h : EvB X Γ e (oLst rStr xs)) (hm : X.mg "len" = none) (hm2 : X.mg "set" = none) (hg : Gl X "len" := by rfl) (hg2 : Gl X "set" := by rfl) (hc : X.calm = true := by rfl)
    (na : starEach [e] X.env = (false, eval e X.env) :: starEach [] X.env := by rfl) : Ev X Γ (.Call (.Name "len" p) [.Call (.Name "set" p2) [e] [] q] [] pos) rInt ((dups xs).length : Int) := fun E G H σ hh Q k =>
  WE.of (pe_lenTxt hg hm hg2 hm2 WE.pe hc na) (h E G H σ hh _ fun p1 o G1 H1 l1 hp ⟨vs, e1, ha⟩ => by
    subst e1
    rw [all2_str ha] at hp
    exact ⟨p1, xs, rfl, .inl (.inl hp), hl, k _ G1 H1 l1 rfl⟩)
end
theorem dups_nodup {l : List Str} (h : l.Nodup) : dups l = l := by
  have k : ∀ n, ∀ l : List Str, l.length = n → l.Nodup → dups l = l := fun n => by
    induction n with
    | zero => intro l hl _; rw [List.length_eq_zero_iff.mp hl]; rfl
    | succ n ih =>
      intro l hl nd
      obtain ⟨m, z, rfl⟩ : ∃ m z, l = m ++ [z] := ⟨l.dropLast, l.getLast (by intro q; rw [q] at hl; simp at hl), (List.dropLast_concat_getLast _).symm⟩
      have hm : m.length = n := by simp at hl; omega
      obtain ⟨n1, _, n3⟩ := List.nodup_append.mp nd
      rw [dups_snoc, ih m hm n1, if_neg]
      simp only [decide_eq_true_eq]
      exact fun y => n3 z y z (by simp) rfl
  exact k _ l rfl h
end Hf

namespace Hf
open PySem PySem.Spec PyProof.Rows L2

/-! ### parameters in any order: one's own objects and what is read -/
inductive Par : Type 1 where
  | ow (c : Oc)
  | ty (t : Ty)
def Fits (G H : Hp) : List V → List Par → List Addr → Prop
  | [], [], [] => True
  | v :: vs, .ty t :: ps, as => t.r.rel G v t.a ∧ Fits G H vs ps as
  | v :: vs, .ow c :: ps, a :: as => (v = .ref a ∧ G a = none ∧ ∃ o, H a = some o ∧ c.rel G o) ∧ Fits G H vs ps as
  | _, _, _ => False
theorem Fits.step {G H G' H' : Hp} (l : Le G H G' H') : ∀ {vs : List V} {ps : List Par} {as : List Addr}, Fits G H vs ps as → Fits G' H' vs ps as
  | [], [], [], _ => trivial
  | [], [], _ :: _, h => h.elim
  | [], _ :: _, _, h => h.elim
  | _ :: _, [], _, h => h.elim
  | v :: vs, .ty t :: ps, as, h => ⟨t.r.mono l.g h.1, Fits.step l h.2⟩
  | v :: vs, .ow c :: ps, [], h => h.elim
  | v :: vs, .ow c :: ps, a :: as, ⟨⟨h1, h2, o, h3, h4⟩, h5⟩ => ⟨⟨h1, l.keepO h3 h2, o, l.h _ _ h3, c.mono l.g h4⟩, Fits.step l h5⟩
theorem Fits.length {G H : Hp} : ∀ {vs : List V} {ps : List Par} {as : List Addr}, Fits G H vs ps as → vs.length = ps.length
  | [], [], [], _ => rfl
  | [], [], _ :: _, h => h.elim
  | [], _ :: _, _, h => h.elim
  | _ :: _, [], _, h => h.elim
  | v :: vs, .ty t :: ps, as, h => congrArg (· + 1) (Fits.length h.2)
  | v :: vs, .ow c :: ps, [], h => h.elim
  | v :: vs, .ow c :: ps, a :: as, h => congrArg (· + 1) (Fits.length h.2)
theorem Fits.mem {G H : Hp} : ∀ {vs : List V} {ps : List Par} {as : List Addr}, Fits G H vs ps as → ∀ a ∈ as, G a = none ∧ ∃ o, H a = some o
  | [], [], [], _, a, m => by simp at m
  | [], [], _ :: _, h, _, _ => h.elim
  | [], _ :: _, _, h, _, _ => h.elim
  | _ :: _, [], _, h, _, _ => h.elim
  | v :: vs, .ty t :: ps, as, h, a, m => Fits.mem h.2 a m
  | v :: vs, .ow c :: ps, [], h, _, _ => h.elim
  | v :: vs, .ow c :: ps, b :: as, ⟨⟨_, h2, o, h3, _⟩, h5⟩, a, m => by
    rcases List.mem_cons.mp m with rfl | m
    · exact ⟨h2, o, h3⟩
    · exact Fits.mem h5 a m
/-- a def that changes what is handed in -/
def MSp {ι α : Type} (Pre : ι → Prop) (pars : ι → List Par) (r : Rp α) (res : ι → α) (post : ι → List Oc) : Sp := fun vs H Q E =>
  ∃ (y : ι) (G : Hp) (as : List Addr), Pre y ∧ Ex G H ∧ as.Nodup ∧ Fits G H vs (pars y) as ∧
    ∀ v G' H', LeE G H (fun p => p ∈ as) G' H' → Ows G' H' as (post y) → r.rel G' v (res y) → Q v H'
def slotsP : List Par → List Addr → List Slot
  | .ty t :: ps, as => .sh t.r t.a :: slotsP ps as
  | .ow c :: ps, a :: as => .ow c (some a) :: slotsP ps as
  | _, _ => []
theorem slotsP_len {G H : Hp} : ∀ {vs : List V} {ps : List Par} {as : List Addr}, Fits G H vs ps as → (slotsP ps as).length = ps.length
  | [], [], [], _ => rfl
  | [], [], _ :: _, h => h.elim
  | [], _ :: _, _, h => h.elim
  | _ :: _, [], _, h => h.elim
  | v :: vs, .ty t :: ps, as, h => congrArg (· + 1) (slotsP_len h.2)
  | v :: vs, .ow c :: ps, [], h => h.elim
  | v :: vs, .ow c :: ps, a :: as, h => congrArg (· + 1) (slotsP_len h.2)
theorem slotsP_get {G H : Hp} : ∀ {vs : List V} {ps : List Par} {as : List Addr} {i : Nat} {s : Slot}, Fits G H vs ps as → (slotsP ps as)[i]? = some s →
    (∃ (α : Type) (r : Rp α) (a : α) (v : V), s = .sh r a ∧ vs[i]? = some v ∧ r.rel G v a) ∨ ∃ c a o, s = .ow c (some a) ∧ vs[i]? = some (.ref a) ∧ a ∈ as ∧ G a = none ∧ H a = some o ∧ c.rel G o
  | [], [], [], i, s, _, e => by simp [slotsP] at e
  | [], [], _ :: _, _, _, h, _ => h.elim
  | [], _ :: _, _, _, _, h, _ => h.elim
  | _ :: _, [], _, _, _, h, _ => h.elim
  | v :: vs, .ty t :: ps, as, 0, s, h, e => by
    simp only [slotsP, List.getElem?_cons_zero, Option.some.injEq] at e
    exact .inl ⟨_, t.r, t.a, v, e.symm, rfl, h.1⟩
  | v :: vs, .ty t :: ps, as, i + 1, s, h, e => by
    simp only [slotsP, List.getElem?_cons_succ] at e
    simpa using slotsP_get h.2 e
  | v :: vs, .ow c :: ps, [], _, _, h, _ => h.elim
  | v :: vs, .ow c :: ps, a :: as, 0, s, h, e => by
    simp only [slotsP, List.getElem?_cons_zero, Option.some.injEq] at e
    obtain ⟨⟨h1, h2, o, h3, h4⟩, _⟩ := h
    exact .inr ⟨c, a, o, e.symm, by simp [h1], by simp, h2, h3, h4⟩
  | v :: vs, .ow c :: ps, a :: as, i + 1, s, h, e => by
    simp only [slotsP, List.getElem?_cons_succ] at e
    rcases slotsP_get h.2 e with ⟨α, r, b, w, k1, k2, k3⟩ | ⟨c', b, o, k1, k2, k3, k4⟩
    · exact .inl ⟨α, r, b, w, k1, by simpa using k2, k3⟩
    · exact .inr ⟨c', b, o, k1, by simpa using k2, List.mem_cons_of_mem _ k3, k4⟩
/-- two places that hold the same own object are one -/
theorem slotsP_sep {G H : Hp} : ∀ {vs : List V} {ps : List Par} {as : List Addr} {i j : Nat} {c d : Oc} {a : Addr}, as.Nodup → Fits G H vs ps as → (slotsP ps as)[i]? = some (.ow c (some a)) → (slotsP ps as)[j]? = some (.ow d (some a)) → i = j
  | [], [], [], i, j, _, _, _, _, _, e, _ => by simp [slotsP] at e
  | [], [], _ :: _, _, _, _, _, _, _, h, _, _ => h.elim
  | [], _ :: _, _, _, _, _, _, _, _, h, _, _ => h.elim
  | _ :: _, [], _, _, _, _, _, _, _, h, _, _ => h.elim
  | v :: vs, .ty t :: ps, as, 0, _, _, _, _, _, _, e, _ => by simp [slotsP] at e
  | v :: vs, .ty t :: ps, as, _, 0, _, _, _, _, _, _, e => by simp [slotsP] at e
  | v :: vs, .ty t :: ps, as, i + 1, j + 1, c, d, a, nd, h, e1, e2 => by
    simp only [slotsP, List.getElem?_cons_succ] at e1 e2
    rw [slotsP_sep nd h.2 e1 e2]
  | v :: vs, .ow c :: ps, [], _, _, _, _, _, _, h, _, _ => h.elim
  | v :: vs, .ow c :: ps, b :: as, 0, 0, _, _, _, _, _, _, _ => rfl
  | v :: vs, .ow c :: ps, b :: as, 0, j + 1, c', d', a, nd, h, e1, e2 => by
    simp only [slotsP, List.getElem?_cons_succ, List.getElem?_cons_zero, Option.some.injEq] at e1 e2
    cases e1
    rcases slotsP_get h.2 e2 with ⟨α, r, x, w, k1, _⟩ | ⟨c', x, o, k1, k2, k3, _⟩
    · cases k1
    · cases k1
      exact absurd k3 (List.nodup_cons.mp nd).1
  | v :: vs, .ow c :: ps, b :: as, i + 1, 0, c', d', a, nd, h, e1, e2 => by
    simp only [slotsP, List.getElem?_cons_succ, List.getElem?_cons_zero, Option.some.injEq] at e1 e2
    cases e2
    rcases slotsP_get h.2 e1 with ⟨α, r, x, w, k1, _⟩ | ⟨c', x, o, k1, k2, k3, _⟩
    · cases k1
    · cases k1
      exact absurd k3 (List.nodup_cons.mp nd).1
  | v :: vs, .ow c :: ps, b :: as, i + 1, j + 1, c', d', a, nd, h, e1, e2 => by
    simp only [slotsP, List.getElem?_cons_succ] at e1 e2
    rw [slotsP_sep (List.nodup_cons.mp nd).2 h.2 e1 e2]
theorem le_mem {G H : Hp} {as : List Addr} (e : Ex G H) (mem : ∀ a ∈ as, G a = none ∧ ∃ o, H a = some o) : LeE G H (fun p => p ∈ as) G H := ⟨.refl _, fun x o q => by
    by_cases m : x ∈ as
    · exact .inr ⟨m, o, q⟩
    · exact .inl ⟨m, q⟩, e, fun x o h1 h2 => (by rw [h1] at h2; cases h2), fun x m => mem x m⟩
theorem holds_startP {G H : Hp} {N : List Str} {vs : List V} {ps : List Par} {as : List Addr} (e : Ex G H) (nd : as.Nodup) (f : Fits G H vs ps as) (hn : ps.length ≤ N.length) :
    Holds { G := G, H := H, M := fun p => p ∈ as } G H (L2.start N vs) (slotsP ps as ++ List.replicate (N.length - ps.length) .no) := by
  have hl := f.length
  have hs := slotsP_len f
  have st : ∀ (i : Nat) (v : V), vs[i]? = some v → (L2.start N vs)[i]? = some (some v) := fun i v q => by
    unfold L2.start
    have lt := (List.getElem?_eq_some_iff.mp q).1
    rw [List.getElem?_append_left (by rw [List.length_map]; exact lt), List.getElem?_map, q]
    rfl
  have get : ∀ (i : Nat) (s : Slot), (slotsP ps as ++ List.replicate (N.length - ps.length) .no)[i]? = some s → (slotsP ps as)[i]? = some s ∨ s = .no := fun i s q => by
    by_cases lt : i < (slotsP ps as).length
    · rw [List.getElem?_append_left lt] at q
      exact .inl q
    · rw [List.getElem?_append_right (by omega)] at q
      have z := List.mem_of_getElem? q
      rw [List.mem_replicate] at z
      exact .inr z.2
  refine ⟨le_mem e f.mem, (fun a o q => by cases q), ?_, fun i s q => ?_, fun i j s t q1 q2 w1 w2 z => ?_⟩
  · unfold L2.start
    simp only [List.length_append, List.length_map, List.length_replicate, hs]
    omega
  · rcases get i s q with q | q
    · rcases slotsP_get f q with ⟨α, r, b, v, k1, k2, k3⟩ | ⟨c, a, o, k1, k2, k3, k4, k5, k6⟩
      · subst k1
        exact ⟨v, st i v k2, k3⟩
      · subst k1
        exact ⟨a, o, st i _ k2, k4, ⟨rfl, k3⟩, k5, k6⟩
    · subst q
      trivial
  · rcases get i s q1 with q1 | q1
    · rcases get j t q2 with q2 | q2
      · rcases slotsP_get f q1 with ⟨α, r, b, v, k1, k2, k3⟩ | ⟨c, a, o, k1, k2, k3, k4, k5, k6⟩
        · subst k1; cases w1
        · rcases slotsP_get f q2 with ⟨α, r, b, v, m1, m2, m3⟩ | ⟨c', a', o', m1, m2, m3, m4, m5, m6⟩
          · subst m1; cases w2
          · subst k1 m1
            rw [st i _ k2, st j _ m2] at z
            cases z
            exact slotsP_sep nd f q1 q2
      · subst q2; cases w2
    · subst q1; cases w1
/-- the slots of is still hold what was handed in -/
def StillI (Γ : List Slot) : List Nat → List Addr → List Oc → Prop
  | [], [], [] => True
  | i :: is, p :: ps, c :: cs => Γ[i]? = some (.ow c (some p)) ∧ StillI Γ is ps cs
  | _, _, _ => False
theorem StillI.ows {E : Ent} {G H : Hp} {σ : L2.St} {Γ : List Slot} (h : Holds E G H σ Γ) : ∀ {is : List Nat} {ps : List Addr} {cs : List Oc}, StillI Γ is ps cs → Ows G H ps cs
  | [], [], [], _ => trivial
  | [], [], _ :: _, s => s.elim
  | [], _ :: _, _, s => s.elim
  | _ :: _, [], _, s => s.elim
  | _ :: _, _ :: _, [], s => s.elim
  | i :: is, p :: ps, c :: cs, ⟨e, s⟩ => by
    obtain ⟨p', o, h1, h2, h3, h4, h5⟩ := h.ow e
    have z : p' = p := h3.1
    subst z
    exact ⟨⟨h2, o, h4, h5⟩, StillI.ows h s⟩
theorem Ows.stepH {G H H' : Hp} (e : Ex H H') : ∀ {ps : List Addr} {cs : List Oc}, Ows G H ps cs → Ows G H' ps cs
  | [], [], _ => trivial
  | _ :: _, _ :: _, ⟨⟨h1, o, h2, h3⟩, t⟩ => ⟨⟨h1, o, e _ _ h2, h3⟩, Ows.stepH e t⟩
theorem LeE.stepH {G0 H0 : Hp} {M : Addr → Prop} {G H H' : Hp} (a : LeE G0 H0 M G H) (e : Ex H H') : LeE G0 H0 M G H' :=
  ⟨a.g, fun x o q => by
    rcases a.h x o q with ⟨n, h⟩ | ⟨n, u, h⟩
    · exact .inl ⟨n, e _ _ h⟩
    · exact .inr ⟨n, u, e _ _ h⟩, a.gh.trans e, a.new, a.m⟩
section
variable {P : Program} {w : World} {K : PySem.W.Frag} {mg : Str → Option Value} {base : Heap} {x qual : Str} {params : Arguments} {body : List Stmt} {scope : Scope} {dvs : List V} {kws : List (Str × V)} {f : Addr} {fd : FuncData}
def nOwn : List Par → Nat
  | [] => 0
  | .ow _ :: ps => nOwn ps + 1
  | .ty _ :: ps => nOwn ps
theorem Fits.nOwn {G H : Hp} : ∀ {vs : List V} {ps : List Par} {as : List Addr}, Fits G H vs ps as → as.length = nOwn ps
  | [], [], [], _ => rfl
  | [], [], _ :: _, h => h.elim
  | [], _ :: _, _, h => h.elim
  | _ :: _, [], _, h => h.elim
  | v :: vs, .ty t :: ps, as, h => Fits.nOwn (ps := ps) h.2
  | v :: vs, .ow c :: ps, [], h => h.elim
  | v :: vs, .ow c :: ps, a :: as, h => congrArg (· + 1) (Fits.nOwn h.2)
theorem fn_par {N ps : List Str} {k : Nat} {ι α : Type} {Pre : ι → Prop} {pars : ι → List Par} {r : Rp α} {res : ι → α} {post : ι → List Oc} (F : FunD K x qual params body scope dvs kws f fd) (S : FnScope N ps scope) (hl : ∀ y, (pars y).length = ps.length)
    (hb : ∀ (y : ι), Pre y → ∀ (cdv : Value) (A : Around) (outer : List Env) (s : Shared) (H : Hp) (E0 : XK) (G : Hp) (D : Ends) (qs : List Addr), qs.length = nOwn (pars y) → Room k (A.deeper (envOfC qual scope s.heap.objs.size f cdv)) →
      RetN { G := G, H := H, M := fun p => p ∈ qs } D qs (post y) r (res y) → (∀ σ G' H', LeE G H (fun p => p ∈ qs) G' H' → Ows G' H' qs (post y) → r.rel G' .non (res y) → D.nx σ H') →
      Bk (cxOf (CXL P w) P w K mg base N qual scope f cdv A outer s H E0) { G := G, H := H, M := fun p => p ∈ qs } (slotsP (pars y) qs ++ List.replicate (N.length - ps.length) .no) body D) :
    FnOk P w K mg base (CXL P w) (k + 1) f fd ps (MSp Pre pars r res post) := by
  refine F.ok S (fun vs H Q E ⟨y, G, as, _, _, _, fi, _⟩ => by rw [fi.length, hl]) fun cdv A outer s H vs Q E hr ⟨y, G, as, hp, e, nd, fi, hq⟩ => ⟨_, WB.pss, ?_⟩
  have hN : (pars y).length ≤ N.length := by
    rw [hl]
    have z := congrArg List.length S.pre
    rw [List.length_take] at z
    omega
  have h := holds_startP (N := N) e nd fi hN
  rw [hl] at h
  exact hb y hp cdv A outer s H E G _ as fi.nOwn hr (fun v G' H' l o rv => hq v G' H' l o rv) (fun σ G' H' l o rv => hq _ G' H' l o rv) G H _ h
end

/-! ### arguments -/
inductive Src where
  | sl (i : Nat)
  | tmp
/-- where the own arguments come from: a slot, or new since H0 -/
def SrcOk (H0 : Hp) (σ : L2.St) (Γ : List Slot) : List Src → List Addr → Prop
  | [], [] => True
  | .sl i :: ss, a :: as => (σ[i]? = some (some (.ref a)) ∧ ∃ c q, Γ[i]? = some (.ow c q)) ∧ SrcOk H0 σ Γ ss as
  | .tmp :: ss, a :: as => H0 a = none ∧ SrcOk H0 σ Γ ss as
  | _, _ => False
def setSrc : List Slot → List Src → List Oc → List Slot
  | Γ, .sl i :: ss, c :: cs => setSrc (updO Γ i c) ss cs
  | Γ, .tmp :: ss, _ :: cs => setSrc Γ ss cs
  | Γ, _, _ => Γ
def slOf : List Src → List Nat
  | [] => []
  | .sl i :: ss => i :: slOf ss
  | .tmp :: ss => slOf ss
def adOf : List Src → List Addr → List Addr
  | .sl _ :: ss, a :: as => a :: adOf ss as
  | .tmp :: ss, _ :: as => adOf ss as
  | _, _ => []
def ocOf : List Src → List Oc → List Oc
  | .sl _ :: ss, a :: as => a :: ocOf ss as
  | .tmp :: ss, _ :: as => ocOf ss as
  | _, _ => []
def EvP (X : Cx) (Γ : List Slot) (es : List Expr) (ps : List Par) (ss : List Src) : Prop := ∀ (E : Ent) (G H : Hp) (σ : L2.St), Holds E G H σ Γ → ∀ Q : List V → Hp → Prop,
  (∀ vs as G' H', Le G H G' H' → as.Nodup → Fits G' H' vs ps as → SrcOk H σ Γ ss as → Q vs H') → WA X es σ H Q
theorem SrcOk.back {H0 H1 : Hp} {σ : L2.St} {Γ : List Slot} (e : Ex H0 H1) : ∀ {ss : List Src} {as : List Addr}, SrcOk H1 σ Γ ss as → SrcOk H0 σ Γ ss as
  | [], [], _ => trivial
  | [], _ :: _, h => h.elim
  | .sl _ :: _, [], h => h.elim
  | .tmp :: _, [], h => h.elim
  | .sl i :: ss, a :: as, h => ⟨h.1, SrcOk.back e h.2⟩
  | .tmp :: ss, a :: as, h => ⟨Evl.fresh_back e h.1, SrcOk.back e h.2⟩
theorem SrcOk.mem {E : Ent} {G H : Hp} {σ : L2.St} {Γ : List Slot} (hh : Holds E G H σ Γ) : ∀ {ss : List Src} {as : List Addr} {a : Addr}, SrcOk H σ Γ ss as → a ∈ as → H a = none ∨ ∃ i ∈ slOf ss, σ[i]? = some (some (.ref a)) ∧ (∃ c q, Γ[i]? = some (.ow c q)) ∧ ∃ o, H a = some o
  | [], [], _, _, m => by simp at m
  | [], _ :: _, _, h, _ => h.elim
  | .sl _ :: _, [], _, h, _ => h.elim
  | .tmp :: _, [], _, h, _ => h.elim
  | .sl i :: ss, b :: as, a, ⟨⟨h1, c, q, h2⟩, h3⟩, m => by
    rcases List.mem_cons.mp m with rfl | m
    · obtain ⟨p, o, w1, w2, w3, w4, w5⟩ := hh.ow h2
      rw [h1] at w1
      cases w1
      exact .inr ⟨i, by simp [slOf], h1, ⟨c, q, h2⟩, o, w4⟩
    · rcases SrcOk.mem hh h3 m with k | ⟨j, k1, k2⟩
      · exact .inl k
      · exact .inr ⟨j, by simp [slOf, k1], k2⟩
  | .tmp :: ss, b :: as, a, ⟨h1, h3⟩, m => by
    rcases List.mem_cons.mp m with rfl | m
    · exact .inl h1
    · rcases SrcOk.mem hh h3 m with k | ⟨j, k1, k2⟩
      · exact .inl k
      · exact .inr ⟨j, by simp [slOf, k1], k2⟩
theorem SrcOk.own {H0 : Hp} {σ : L2.St} {Γ : List Slot} : ∀ {ss : List Src} {as : List Addr}, SrcOk H0 σ Γ ss as → OwnAt σ (slOf ss) (adOf ss as)
  | [], [], _ => trivial
  | [], _ :: _, h => h.elim
  | .sl _ :: _, [], h => h.elim
  | .tmp :: _, [], h => h.elim
  | .sl i :: ss, b :: as, h => ⟨h.1.1, SrcOk.own h.2⟩
  | .tmp :: ss, b :: as, h => SrcOk.own (ss := ss) h.2
theorem SrcOk.slots {H0 : Hp} {σ : L2.St} {Γ : List Slot} : ∀ {ss : List Src} {as : List Addr}, SrcOk H0 σ Γ ss as → ∃ cs, SlotsAre Γ (slOf ss) cs
  | [], [], _ => ⟨[], trivial⟩
  | [], _ :: _, h => h.elim
  | .sl _ :: _, [], h => h.elim
  | .tmp :: _, [], h => h.elim
  | .sl i :: ss, b :: as, ⟨⟨_, c, q, h2⟩, h3⟩ => by
    obtain ⟨cs, h⟩ := SrcOk.slots h3
    exact ⟨c :: cs, ⟨q, h2⟩, h⟩
  | .tmp :: ss, b :: as, h => SrcOk.slots (ss := ss) h.2
theorem srcOws {H0 G H : Hp} {σ : L2.St} {Γ : List Slot} : ∀ {ss : List Src} {as : List Addr} {cs : List Oc}, SrcOk H0 σ Γ ss as → Ows G H as cs → Ows G H (adOf ss as) (ocOf ss cs)
  | [], [], [], _, _ => trivial
  | [], [], _ :: _, _, h => h.elim
  | [], _ :: _, _, h, _ => h.elim
  | .sl _ :: _, [], _, h, _ => h.elim
  | .tmp :: _, [], _, h, _ => h.elim
  | .sl i :: ss, b :: as, [], _, h => h.elim
  | .tmp :: ss, b :: as, [], _, h => h.elim
  | .sl i :: ss, b :: as, c :: cs, h, o => ⟨o.1, srcOws h.2 o.2⟩
  | .tmp :: ss, b :: as, c :: cs, h, o => srcOws (ss := ss) h.2 o.2
theorem setSrc_eq : ∀ {ss : List Src} {cs : List Oc} {Γ : List Slot}, setSrc Γ ss cs = setOws Γ (slOf ss) (ocOf ss cs)
  | [], _, _ => by simp [setSrc, slOf, setOws]
  | .sl i :: ss, [], Γ => by simp [setSrc, slOf, ocOf, setOws]
  | .tmp :: ss, [], Γ => by
    have : ∀ (ss : List Src) (Γ : List Slot), setOws Γ (slOf ss) [] = Γ := fun ss Γ => by cases h : slOf ss <;> simp [setOws]
    simp [setSrc, slOf, ocOf, this]
  | .sl i :: ss, c :: cs, Γ => by
    simp only [setSrc, slOf, ocOf, setOws]
    exact setSrc_eq
  | .tmp :: ss, c :: cs, Γ => by
    simp only [setSrc, slOf, ocOf]
    exact setSrc_eq
end Hf

namespace Hf
open PySem PySem.Spec PyProof.Rows L2
theorem Holds.callS {E : Ent} {G0 H0 G H G' H' : Hp} {σ : L2.St} {Γ : List Slot} {ss : List Src} {cs : List Oc} {as : List Addr} (h0 : Holds E G0 H0 σ Γ) (h : Holds E G H σ Γ) (nd : (slOf ss).Nodup) (sa : SrcOk H0 σ Γ ss as)
    (l : LeE G H (fun p => p ∈ as) G' H') (ow : Ows G' H' as cs) : Holds E G' H' σ (setSrc Γ ss cs) := by
  rw [setSrc_eq]
  obtain ⟨os, so⟩ := sa.slots
  have oa := sa.own
  have ow' := srcOws sa ow
  have memo : ∀ p ∈ as, ∀ (j : Nat) (c : Oc) (q : Option Addr), Γ[j]? = some (.ow c q) → σ[j]? = some (some (.ref p)) → j ∈ slOf ss := fun p m j c q e1 e2 => by
    rcases sa.mem h0 m with z | ⟨i, k1, k2, ⟨c2, q2, k3⟩, _⟩
    · obtain ⟨p', o, w1, w2, w3, w4, w5⟩ := h0.ow e1
      rw [e2] at w1
      cases w1
      rw [z] at w4
      cases w4
    · exact h.sep i j _ _ k3 e1 rfl rfl (by rw [k2, e2]) ▸ k1
  have out : ∀ p, p ∉ as → ∀ o, H p = some o → H' p = some o := fun p n o e => by
    rcases l.h p o e with ⟨_, w⟩ | ⟨m, _⟩
    · exact w
    · exact absurd m n
  have gn : ∀ p, G p = none → (∃ o, H p = some o) → G' p = none := fun p g ⟨o, e⟩ => by
    cases q : G' p with
    | none => rfl
    | some u => rw [l.new p u q g] at e; cases e
  refine ⟨⟨h.le.g.trans l.g, fun a o e => ?_, l.gh, fun a o e1 e2 => ?_, h.le.m⟩, h.fl.trans l.g, by rw [setOws_len]; exact h.len, fun j s e => ?_, fun j k s t e1 e2 w1 w2 z => ?_⟩
  · rcases h.le.h a o e with ⟨n, w⟩ | ⟨m, u, w⟩
    · rcases l.h a o w with ⟨_, w2⟩ | ⟨m2, _⟩
      · exact .inl ⟨n, w2⟩
      · rcases sa.mem h0 m2 with z | ⟨i, k1, k2, ⟨c, q, k3⟩, _⟩
        · rw [h0.le.fresh z] at e; cases e
        · obtain ⟨p, o2, x1, x2, x3, x4, x5⟩ := h.ow k3
          rw [k2] at x1
          cases x1
          rcases x3.or with y | y
          · exact absurd y n
          · rw [y] at e; cases e
    · rcases l.h a u w with ⟨_, w2⟩ | ⟨_, w2⟩
      · exact .inr ⟨m, u, w2⟩
      · exact .inr ⟨m, w2⟩
  · cases q : G a with
    | some u => exact h.le.new a u q e2
    | none =>
      have z := l.new a o e1 q
      exact h.le.fresh z
  · rcases setOws_get nd so oa ow' e with ⟨n, k⟩ | ⟨c, c', q, p, o, k1, k2, k3, k4, k5, k6, k7, k8⟩
    · have w := h.ok j s k
      cases s with
      | no => trivial
      | sh r a =>
        obtain ⟨v, w1, w2⟩ := w
        exact ⟨v, w1, r.mono l.g w2⟩
      | ow c q =>
        obtain ⟨p, o, w1, w2, w3, w4, w5⟩ := w
        have np : p ∉ as := fun m => n (memo p m j c q k w1)
        exact ⟨p, o, w1, gn p w2 ⟨o, w4⟩, w3, out p np o w4, c.mono l.g w5⟩
    · subst k3
      obtain ⟨p1, o1, w1, w2, w3, w4, w5⟩ := h.ow k2
      rw [k4] at w1
      cases w1
      exact ⟨p, o, k4, k6, w3, k7, k8⟩
  · have back : ∀ (j : Nat) (s : Slot), (setOws Γ (slOf ss) (ocOf ss cs))[j]? = some s → s.isOw = true → ∃ s', Γ[j]? = some s' ∧ s'.isOw = true := fun j s e w => by
      rcases setOws_get nd so oa ow' e with ⟨n, k⟩ | ⟨c, c', q, p, o, k1, k2, _⟩
      · exact ⟨s, k, w⟩
      · exact ⟨_, k2, rfl⟩
    obtain ⟨s', q1, q2⟩ := back j s e1 w1
    obtain ⟨t', q3, q4⟩ := back k t e2 w2
    exact h.sep j k s' t' q1 q3 q2 q4 z
section
variable {X : Cx} {E : Ent} {Γ Γ' Γ1 Γ2 : List Slot} {D : Ends} {e f g o : Expr} {es : List Expr} {rest : List Stmt} {pos p p2 apos cpos : Pos} {α β γ ι : Type} {r : Rp α} {x : α} {s : Rp β} {y : β} {ps : List Par} {ss : List Src} {k j : Nat}
theorem ep_nil : EvP X Γ [] [] [] := fun E G H σ hh Q q => WA.of pa_nil (q [] [] G H (.refl hh.le.gh) List.nodup_nil trivial trivial)
theorem ep_ty {t : Ty} (ha : Ev X Γ e t.r t.a) (hr : EvP X Γ es ps ss) (hs : starEach (e :: es) X.env = (false, eval e X.env) :: starEach es X.env := by rfl) : EvP X Γ (e :: es) (.ty t :: ps) ss := fun E G H σ hh Q q =>
  WA.of (pa_cons WE.pe WA.pa hs) (ha E G H σ hh _ fun v G1 H1 l1 r1 => hr E G1 H1 σ (hh.step l1) _ fun vs as G2 H2 l2 nd f2 s2 => q (v :: vs) as G2 H2 (l1.trans l2) nd ⟨t.r.mono l2.g r1, f2⟩ (s2.back l1.h))
/-- a new object -/
theorem ep_tmp {c : Oc} (ha : EvO X Γ e c) (hr : EvP X Γ es ps ss) (hs : starEach (e :: es) X.env = (false, eval e X.env) :: starEach es X.env := by rfl) : EvP X Γ (e :: es) (.ow c :: ps) (.tmp :: ss) := fun E G H σ hh Q q =>
  WA.of (pa_cons WE.pe WA.pa hs) (ha E G H σ hh _ fun a ob G1 H1 n l1 g1 h1 c1 => hr E G1 H1 σ (hh.step l1) _ fun vs as G2 H2 l2 nd f2 s2 => by
    have na : a ∉ as := fun m => by
      rcases s2.mem (hh.step l1) m with z | ⟨i, k1, k2, ⟨c2, q2, k3⟩, _⟩
      · rw [z] at h1; cases h1
      · obtain ⟨p, o, w1, w2, w3, w4, w5⟩ := hh.ow k3
        rw [k2] at w1
        cases w1
        rw [n] at w4
        cases w4
    exact q (.ref a :: vs) (a :: as) G2 H2 (l1.trans l2) (List.nodup_cons.mpr ⟨na, nd⟩) ⟨⟨rfl, l2.keepO h1 g1, ob, l2.h _ _ h1, c.mono l2.g c1⟩, f2⟩ ⟨n, s2.back l1.h⟩)
/-- an object of one's own by its name -/
theorem ep_own (i : Nat) {a : Str} {c : Oc} {pq : Option Addr} (hr : EvP X Γ es ps ss) (ni : i ∉ slOf ss := by decide) (hg : Γ[i]? = some (.ow c pq) := by rfl) (hN : X.N[i]? = some a := by rfl) (hv : Vis X.env.scope a := by first | exact Or.inl rfl | exact Or.inr (Or.inl rfl) | exact Or.inr (Or.inr rfl)) (hd : (a == ("__debug__" : Str)) = false := by decide)
    (hcd : (a == ("__classdict__" : Str)) = false := by decide) (hs : starEach ((.Name a p) :: es) X.env = (false, eval (.Name a p) X.env) :: starEach es X.env := by rfl) : EvP X Γ ((.Name a p) :: es) (.ow c :: ps) (.sl i :: ss) := fun E G H σ hh Q q =>
  WA.of (pa_cons (pe_var hN hv hd hcd) WA.pa hs) (by
    obtain ⟨l, ob, h1, h2, h3, h4, h5⟩ := hh.ow hg
    refine ⟨_, h1, hr E G H σ hh _ fun vs as G1 H1 l1 nd f1 s1 => ?_⟩
    have na : l ∉ as := fun m => by
      rcases s1.mem hh m with z | ⟨j, k1, k2, ⟨c2, q2, k3⟩, _⟩
      · rw [z] at h4; cases h4
      · exact ni (hh.sep i j _ _ hg k3 rfl rfl (by rw [h1, k2]) ▸ k1)
    exact q (.ref l :: vs) (l :: as) G1 H1 l1 (List.nodup_cons.mpr ⟨na, nd⟩) ⟨⟨rfl, l1.keepO h4 h2, ob, l1.h _ _ h4, c.mono l1.g h5⟩, f1⟩ ⟨⟨h1, c, pq, hg⟩, s1⟩)
/-- f(e, ..) -/
theorem em_callP {fn : Str} {Pre : ι → Prop} {pars : ι → List Par} {res : ι → α} {post : ι → List Oc} {z : α} (h : Has X.prog X.w X.K X.mg X.base fn k (MSp Pre pars r res post)) (hr : Room j X.A) (hk : k ≤ j) (y : ι) (hp : Pre y)
    (ha : EvP X Γ (e :: es) (pars y) ss) (nd : (slOf ss).Nodup := by decide) (hz : res y = z := by rfl) (hΓ : setSrc Γ ss (post y) = Γ' := by rfl) (hg : Gl X fn := by rfl) (hdb : (fn == ("__debug__" : Str)) = false := by decide)
    (he : starEach (e :: es) X.env = (false, eval e X.env) :: starEach es X.env := by rfl) (hpl : (backTo pos (starEach es X.env)).any (·.1) = false := by rfl) : EvM X Γ Γ' (.Call (.Name fn p) (e :: es) [] pos) r z := fun E G H σ hh Q q =>
  we_call h hr hk (ha E G H σ hh _ fun vs as G1 H1 l1 n1 f1 s1 => by
    have h1 := hh.step l1
    refine ⟨y, G1, as, hp, l1.gh, n1, f1, fun v G2 H2 l2 w2 r2 => ?_⟩
    exact q v G2 H2 (l1.g.trans l2.g) (hΓ ▸ hh.callS h1 nd s1 l2 w2) (hz ▸ r2)) hg hdb he hpl
end
/-! ### an object that is frozen is worth x -/
def Frz (c : Oc) {α : Type} (r : Rp α) (x : α) : Prop := ∀ (G : Hp) (a : Addr) (o : HO), G a = none → c.rel G o → r.rel (upd G a o) (.ref a) x
theorem frz_lst {α : Type} {r : Rp α} {as : List α} : Frz (oLst r as) (rLst r) as := fun G a o n ⟨vs, e, h⟩ => by
  subst e
  exact ⟨a, vs, rfl, upd_same, h.mono (Evl.Ex.new n)⟩
/-! ### a new instance -/
/-- C(e, ..): the __init__ at f, its level -/
structure HasI (P : Program) (w : World) (K : PySem.W.Frag) (mg : Str → Option Value) (base : Heap) (x : Str) (C : Addr) (k : Nat) (sp : Sp) : Prop where
  ex : ∃ (f : Addr) (fd : FuncData) (ps : List Str) (spF : Sp) (dvs : List V) (ds : List Value), mg x = some (.ref C) ∧ Mk K C f ∧ Binds K fd ps ds ∧ Vals dvs ds ∧ FnOk P w K mg base (CXL P w) k f fd ps spF ∧ ∀ vs H Q, sp vs H Q E0 → spF (vs ++ dvs) H Q E0
section
variable {X : Cx} {E : Ent} {Γ Γ' Γ1 Γ2 : List Slot} {D : Ends} {e f g o : Expr} {es : List Expr} {rest : List Stmt} {pos p p2 apos cpos : Pos} {α β γ ι : Type} {r : Rp α} {x : α} {s : Rp β} {y : β} {ps : List Par} {ss : List Src} {k j : Nat}
theorem em_make {fn : Str} {C : Addr} {Pre : ι → Prop} {pars : ι → List Par} {post : ι → List Oc} {c : ι → Oc} {z : α} (h : HasI X.prog X.w X.K X.mg X.base fn C k (MSp Pre (fun y => .ow (oIns C [] []) :: pars y) rNon (fun _ => ()) (fun y => c y :: post y))) (hr : Room j X.A) (hk : k + 1 ≤ j) (y : ι) (hp : Pre y)
    (ha : EvP X Γ (e :: es) (pars y) ss) (fz : Frz (c y) r z) (nd : (slOf ss).Nodup := by decide) (hΓ : setSrc Γ ss (post y) = Γ' := by rfl) (hg : Gl X fn := by rfl) (hdb : (fn == ("__debug__" : Str)) = false := by decide)
    (he : starEach (e :: es) X.env = (false, eval e X.env) :: starEach es X.env := by rfl) (hpl : (backTo pos (starEach es X.env)).any (·.1) = false := by rfl) : EvM X Γ Γ' (.Call (.Name fn p) (e :: es) [] pos) r z := fun E G H σ hh Q q => by
  obtain ⟨f0, fd, ps0, spF, dvs, ds, hm, mk, hb, hd, F, hi⟩ := h.ex
  refine WE.of (pe_make mk F (hr.mono hk) hg hm hb hd passL WA.pa hdb he hpl) ?_
  refine ha E G H σ hh _ fun vs as G1 H1 l1 n1 f1 s1 a dx na nx ne => hi (.ref a :: vs) _ _ ?_
  have hh1 := hh.step l1
  have g1a : G1 a = none := Evl.fresh_back l1.gh na
  have l2 : Le G1 H1 G1 (upd (upd H1 dx (.own a)) a (.ins C dx [])) := by
    have z1 : Le G1 H1 G1 (upd H1 dx (.own a)) := (Le.refl l1.gh).addO nx
    exact z1.addO (by rw [upd_ne (fun w => ne w.symm)]; exact na)
  have mas : ∀ b ∈ as, ∃ o, H1 b = some o := fun b m => (f1.mem b m).2
  have naa : a ∉ as := fun m => by obtain ⟨o, w⟩ := mas a m; rw [na] at w; cases w
  refine ⟨y, G1, a :: as, hp, l2.gh, List.nodup_cons.mpr ⟨naa, n1⟩, ⟨⟨rfl, g1a, _, upd_same, dx, [], rfl, trivial, rfl⟩, f1.step l2⟩, fun v G3 H3 l3 w3 r3 => ⟨r3, ?_⟩⟩
  obtain ⟨⟨ga, oa, ha3, ca⟩, w3'⟩ := w3
  have hh2 := hh1.step l2
  -- the call changes a and as; a is new
  have hh3 : Holds E G3 H3 σ (setSrc Γ ss (post y)) := by
    have s2 : SrcOk H σ Γ (.tmp :: ss) (a :: as) := ⟨Evl.fresh_back l1.h na, s1⟩
    exact hh.callS (ss := .tmp :: ss) (cs := c y :: post y) hh2 (by simpa [slOf] using nd) s2 l3 ⟨⟨ga, oa, ha3, ca⟩, w3'⟩
  have fr : ∀ (i : Nat) (c0 : Oc) (q0 : Option Addr), Γ[i]? = some (.ow c0 q0) → σ[i]? ≠ some (some (V.ref a)) := fun i c0 q0 e1 e2 => by
    obtain ⟨p', o', w1, _, _, w4, _⟩ := hh1.ow e1
    rw [e2] at w1
    cases w1
    rw [na] at w4
    cases w4
  have gx : Ex G1 (upd G3 a oa) := l3.g.trans (Evl.Ex.new ga)
  -- it is frozen
  refine q _ (upd G3 a oa) H3 (l1.g.trans gx) ?_ (fz G3 a oa ga ca)
  subst hΓ
  have lf : LeE E.G E.H E.M (upd G3 a oa) H3 := ⟨hh3.le.g.trans (Evl.Ex.new ga), hh3.le.h, fun b u z => by
    by_cases w : b = a
    · subst w; rw [upd_same] at z; cases z; exact ha3
    · rw [upd_ne w] at z; exact hh3.le.gh b u z, fun b u z1 z2 => by
    by_cases w : b = a
    · subst w; exact hh1.le.fresh na
    · rw [upd_ne w] at z1; exact hh3.le.new b u z1 z2, hh3.le.m⟩
  refine ⟨lf, hh3.fl.trans (Evl.Ex.new ga), hh3.len, fun i sl e => ?_, hh3.sep⟩
  have w := hh3.ok i sl e
  cases sl with
  | no => trivial
  | sh r' a' =>
    obtain ⟨v', w1, w2⟩ := w
    exact ⟨v', w1, r'.mono (Evl.Ex.new ga) w2⟩
  | ow c' q' =>
    obtain ⟨p', o', w1, w2, w3, w4, w5⟩ := w
    have np : p' ≠ a := fun z => by
      subst z
      obtain ⟨os, so⟩ := s1.slots
      have z2 := setSrc_eq (ss := ss) (cs := post y) (Γ := Γ)
      rw [z2] at e
      rcases setOws_get nd so s1.own (srcOws s1 w3') e with ⟨_, k⟩ | ⟨c2, c3, q2, p2, o2, _, k2, _⟩
      · exact fr i _ _ k w1
      · exact fr i _ _ k2 w1
    exact ⟨p', o', w1, by rw [upd_ne np]; exact w2, w3, w4, c'.mono (Evl.Ex.new ga) w5⟩
end
end Hf

namespace Hf
open PySem PySem.Spec PyProof.Rows L2

/-! ### fields of an instance that is being made -/
theorem args_set {G : Hp} {v : V} {t : Ty} (h : t.r.rel G v t.a) : ∀ {vs : List V} {ts : List Ty} (i : Nat), Args G vs ts → Args G (vs.set i v) (ts.set i t)
  | [], [], _, _ => trivial
  | [], _ :: _, _, k => k.elim
  | _ :: _, [], _, k => k.elim
  | _ :: _, _ :: _, 0, k => ⟨h, k.2⟩
  | _ :: _, _ :: _, i + 1, k => ⟨k.1, args_set h i k.2⟩
theorem putF_old {f : Str} {v : V} : ∀ {ns : List Str} {vs : List V} {i : Nat}, ns.Nodup → ns[i]? = some f → ns.length = vs.length → putF f v (ns.zip vs) = ns.zip (vs.set i v)
  | [], [], i, _, h, _ => by simp at h
  | n :: ns, u :: vs, 0, nd, h, l => by
    simp only [List.getElem?_cons_zero, Option.some.injEq] at h
    subst h
    show (if n = n then (n, v) :: ns.zip vs else (n, u) :: putF n v (ns.zip vs)) = _
    rw [if_pos rfl]
    rfl
  | n :: ns, u :: vs, i + 1, nd, h, l => by
    simp only [List.getElem?_cons_succ] at h
    have ne : n ≠ f := fun z => (List.nodup_cons.mp nd).1 (z ▸ List.mem_of_getElem? h)
    show (if n = f then (n, v) :: ns.zip vs else (n, u) :: putF f v (ns.zip vs)) = (n, u) :: ns.zip (vs.set i v)
    rw [if_neg ne, putF_old (List.nodup_cons.mp nd).2 h (by simpa using l)]
section
variable {X : Cx} {E : Ent} {Γ Γ' Γ1 Γ2 : List Slot} {D : Ends} {e f g o : Expr} {es : List Expr} {rest : List Stmt} {pos p p2 apos cpos : Pos} {α β γ ι : Type} {r : Rp α} {x : α} {s : Rp β} {y : β} {ps : List Par} {ss : List Src} {k j : Nat}
/-- self.f = e, a field that is there -/
theorem bk_fldO (i n : Nat) {a f : Str} {C : Addr} {ns : List Str} {ts : List Ty} {pq : Option Addr} (cl : Cls X.K C) (na : NoAttr X.K C f) (hg : Γ[i]? = some (.ow (oIns C ns ts) pq)) (he : Ev X Γ e r x) (hn : ns[n]? = some f) (nd : ns.Nodup) (hl : ns.length < 1000) (k : Bk X E (Γ.set i (.ow (oIns C ns (ts.set n ⟨r, x⟩)) pq)) rest D)
    (hN : X.N[i]? = some a := by rfl) (hv : Vis X.env.scope a := by first | exact Or.inl rfl | exact Or.inr (Or.inl rfl) | exact Or.inr (Or.inr rfl)) (hd : (a == ("__debug__" : Str)) = false := by decide) (hcd : (a == ("__classdict__" : Str)) = false := by decide)
    (hs : swapsWith e (some (.Attribute (.Name a p) f p2)) pos.line X.env = pure false := by rfl) : Bk X E Γ (.Assign [.Attribute (.Name a p) f p2] e pos :: rest) D :=
  bk_of (ps_fld (pe_var hN hv hd hcd) WE.pe hs) fun G H σ hh => he E G H σ hh _ fun v G1 H1 l1 r1 => by
    have h1 := hh.step l1
    obtain ⟨q, ob, w1, w2, w3, w4, dx, vs, w5, w6, w7⟩ := h1.ow hg
    subst w5
    refine ⟨_, w1, q, C, dx, _, rfl, w4, cl, na, by rw [List.length_zip]; omega, ?_⟩
    have lv : ns.length = vs.length := by rw [args_length w6]; exact w7
    refine k G1 _ σ (h1.mut hg w1 ⟨dx, vs.set n v, by rw [putF_old nd hn lv], args_set (t := ⟨r, x⟩) r1 n w6, by simp [w7]⟩)
/-- self.f of an instance that is being made -/
theorem ev_fldO (i n : Nat) {a f : Str} {C : Addr} {ns : List Str} {ts : List Ty} {pq : Option Addr} {t : Ty} (cl : Cls X.K C) (na : NoAttr X.K C f) (hg : Γ[i]? = some (.ow (oIns C ns ts) pq)) (hn : ns[n]? = some f) (nd : ns.Nodup) (ht : ts[n]? = some t)
    (hN : X.N[i]? = some a := by rfl) (hv : Vis X.env.scope a := by first | exact Or.inl rfl | exact Or.inr (Or.inl rfl) | exact Or.inr (Or.inr rfl)) (hd : (a == ("__debug__" : Str)) = false := by decide) (hcd : (a == ("__classdict__" : Str)) = false := by decide)
    (hb : attributeBase (.Name a p) f X.env (eval (.Name a p) X.env) = eval (.Name a p) X.env := by rfl) : Ev X Γ (.Attribute (.Name a p) f pos) t.r t.a := fun E G H σ hh Q q =>
  WE.of (pe_fld (pe_var hN hv hd hcd) hb) (by
    obtain ⟨l, ob, w1, w2, w3, w4, dx, vs, w5, w6, w7⟩ := hh.ow hg
    subst w5
    obtain ⟨v, v1, v2⟩ := args_get w6 ht
    refine ⟨_, w1, l, C, dx, _, v, rfl, w4, cl, na, ?_, q v G H (.refl hh.le.gh) v2⟩
    have lk : ∀ {ns : List Str} {vs : List V} {n : Nat}, ns.Nodup → ns[n]? = some f → vs[n]? = some v → (ns.zip vs).lookup f = some v := fun {ns} => by
      induction ns with
      | nil => intro vs n _ h; simp at h
      | cons a ns ih =>
        intro vs n nd h1 h2
        cases vs with
        | nil => simp at h2
        | cons u vs =>
          cases n with
          | zero =>
            simp only [List.getElem?_cons_zero, Option.some.injEq] at h1 h2
            subst h1 h2
            simp [List.lookup]
          | succ n =>
            simp only [List.getElem?_cons_succ] at h1 h2
            have ne : (f == a) = false := by
              rw [beq_eq_false_iff_ne]
              exact fun z => (List.nodup_cons.mp nd).1 (z ▸ List.mem_of_getElem? h1)
            simp only [List.zip_cons_cons, List.lookup, ne]
            exact ih (List.nodup_cons.mp nd).2 h1 h2
    exact lk nd hn v1)
/-- from here on an object of one's own is only looked at, to the end of the def -/
theorem bk_look (i : Nat) {c : Oc} {q : Addr} (hg : Γ[i]? = some (.ow c (some q))) (fz : Frz c r x) (l : Γ1.length = Γ.length) (w : ∀ (j : Nat) (s : Slot), Γ1[j]? = some s → s = .no ∨ (j = i ∧ s = .sh r x) ∨ (s.isOw = false ∧ Γ[j]? = some s))
    (hD : ∀ G H σ, Holds E G H σ Γ → ∀ σ' H', Ex H H' → D.nx σ' H') (k : ∀ E1 : Ent, (∀ σ' G' H', LeE E1.G E1.H E1.M G' H' → D.nx σ' H') → Bk X E1 Γ1 rest D) : Bk X E Γ rest D := fun G H σ hh => by
  obtain ⟨p, ob, h1, h2, h3, h4, h5⟩ := hh.ow hg
  have gx : Ex G (upd G p ob) := Evl.Ex.new h2
  have gh : Ex (upd G p ob) H := fun a u z => by
    by_cases e : a = p
    · subst e; rw [upd_same] at z; cases z; exact h4
    · rw [upd_ne e] at z; exact hh.le.gh a u z
  refine k { G := upd G p ob, H := H } (fun σ' G' H' le => hD G H σ hh σ' H' (le.le fun _ z => z).h) (upd G p ob) H σ ⟨LeE.start gh, (fun a u z => by cases z), by rw [l]; exact hh.len, fun j s e => ?_, fun j1 j2 s t e1 e2 o1 o2 z => ?_⟩
  · rcases w j s e with rfl | ⟨rfl, rfl⟩ | ⟨o1, e'⟩
    · trivial
    · exact ⟨_, h1, fz G p ob h2 h5⟩
    · have z := hh.ok j s e'
      cases s with
      | no => trivial
      | sh r' a' =>
        obtain ⟨v, z1, z2⟩ := z
        exact ⟨v, z1, r'.mono gx z2⟩
      | ow c' q' => cases o1
  · rcases w j1 s e1 with rfl | ⟨rfl, rfl⟩ | ⟨n1, _⟩
    · cases o1
    · cases o1
    · rw [n1] at o1; cases o1
/-- xs.extend(e) -/
theorem bk_extend (i : Nat) {a : Str} {pq : Option Addr} {as bs : List α} (hg : Γ[i]? = some (.ow (oLst r as) pq)) (he : EvB X Γ e (oLst r bs)) (hl : as.length + bs.length ≤ sizeLine) (k : Bk X E (Γ.set i (.ow (oLst r (as ++ bs)) pq)) rest D)
    (hpe : PE X (.Call (.Attribute (.Name a p) "extend" apos) [e] [] cpos) (tBM X.K "list" rExtend (tVar i) (tCons (WE X e) tNil)) := by exact pe_bm PySem.F.plainAttrs_list PySem.F.slot_list_extend PySem.F.type_list_extend mt_extend (pv _) (pa_cons WE.pe pa_nil))
    (hs : swapsWith (.Call (.Attribute (.Name a p) "extend" apos) [e] [] cpos) none pos.line X.env = pure false := by rfl) : Bk X E Γ (.Expr (.Call (.Attribute (.Name a p) "extend" apos) [e] [] cpos) pos :: rest) D :=
  bk_of (ps_expr hpe hs) fun G H σ hh => by
    obtain ⟨q, o, h1, h2, h3, h4, vs, h5, h6⟩ := hh.ow hg
    subst h5
    refine ⟨_, h1, .inl ⟨rfl, vs, .inl (.inl h4)⟩, he E G H σ hh _ fun b ob G1 H1 l1 hb ⟨ws, e2, h7⟩ => ?_⟩
    subst e2
    have hh1 := hh.step l1
    refine ⟨q, b, vs, ws, rfl, rfl, l1.h _ _ h4, hb, by rw [h6.length, h7.length]; exact hl, ?_⟩
    exact k G1 _ σ (hh1.mut hg h1 ⟨_, rfl, (h6.mono l1.g).append h7⟩)
/-- xs.clear(), xs.reverse() -/
theorem bk_clear (i : Nat) {a : Str} {pq : Option Addr} {as : List α} (hg : Γ[i]? = some (.ow (oLst r as) pq)) (k : Bk X E (Γ.set i (.ow (oLst r []) pq)) rest D)
    (hpe : PE X (.Call (.Attribute (.Name a p) "clear" apos) [] [] cpos) (tBM X.K "list" rClear (tVar i) tNil) := by exact pe_bm0 PySem.F.plainAttrs_list PySem.F.slot_list_clear PySem.F.type_list_clear mt_clear (pv _))
    (hs : swapsWith (.Call (.Attribute (.Name a p) "clear" apos) [] [] cpos) none pos.line X.env = pure false := by rfl) : Bk X E Γ (.Expr (.Call (.Attribute (.Name a p) "clear" apos) [] [] cpos) pos :: rest) D :=
  bk_of (ps_expr hpe hs) fun G H σ hh => by
    obtain ⟨q, o, h1, h2, h3, h4, vs, h5, h6⟩ := hh.ow hg
    subst h5
    exact ⟨_, h1, .inl ⟨rfl, vs, .inl (.inl h4)⟩, q, vs, rfl, rfl, h4, k G _ σ (hh.mut hg h1 ⟨_, rfl, .nil⟩)⟩
theorem bk_reverse (i : Nat) {a : Str} {pq : Option Addr} {as : List α} (hg : Γ[i]? = some (.ow (oLst r as) pq)) (k : Bk X E (Γ.set i (.ow (oLst r as.reverse) pq)) rest D)
    (hpe : PE X (.Call (.Attribute (.Name a p) "reverse" apos) [] [] cpos) (tBM X.K "list" rReverse (tVar i) tNil) := by exact pe_bm0 PySem.F.plainAttrs_list PySem.F.slot_list_reverse PySem.F.type_list_reverse mt_reverse (pv _))
    (hs : swapsWith (.Call (.Attribute (.Name a p) "reverse" apos) [] [] cpos) none pos.line X.env = pure false := by rfl) : Bk X E Γ (.Expr (.Call (.Attribute (.Name a p) "reverse" apos) [] [] cpos) pos :: rest) D :=
  bk_of (ps_expr hpe hs) fun G H σ hh => by
    obtain ⟨q, o, h1, h2, h3, h4, vs, h5, h6⟩ := hh.ow hg
    subst h5
    exact ⟨_, h1, .inl ⟨rfl, vs, .inl (.inl h4)⟩, q, vs, rfl, rfl, h4, k G _ σ (hh.mut hg h1 ⟨_, rfl, h6.reverse⟩)⟩
/-- e.clear() of a new list -/
theorem bk_clearT {as : List α} (he : EvO X Γ e (oLst r as)) (k : Bk X E Γ rest D)
    (hpe : PE X (.Call (.Attribute e "clear" apos) [] [] cpos) (tBM X.K "list" rClear (WE X e) tNil) := by exact pe_bm0 PySem.F.plainAttrs_list PySem.F.slot_list_clear PySem.F.type_list_clear mt_clear WE.pe)
    (hs : swapsWith (.Call (.Attribute e "clear" apos) [] [] cpos) none pos.line X.env = pure false := by rfl) : Bk X E Γ (.Expr (.Call (.Attribute e "clear" apos) [] [] cpos) pos :: rest) D :=
  bk_of (ps_expr hpe hs) fun G H σ hh => he E G H σ hh _ fun q o G1 H1 n l1 g1 h1 ⟨vs, e1, h6⟩ => by
    subst e1
    refine ⟨.inl ⟨rfl, vs, .inl (.inl h1)⟩, q, vs, rfl, rfl, h1, ?_⟩
    have hh1 := hh.step l1
    -- the list is new: nothing of ours stands there
    refine k G1 _ σ ⟨⟨hh1.le.g, fun a u z => ?_, fun a u z => ?_, hh1.le.new, hh1.le.m⟩, hh1.fl, hh1.len, fun i s z => ?_, hh1.sep⟩
    · have ne : a ≠ q := fun w => by subst w; rw [hh.le.fresh n] at z; cases z
      rw [upd_ne ne]
      exact hh1.le.h a u z
    · have ne : a ≠ q := fun w => by subst w; rw [g1] at z; cases z
      rw [upd_ne ne]
      exact hh1.le.gh a u z
    · have w := hh1.ok i s z
      cases s with
      | no => trivial
      | sh r a => exact w
      | ow c q2 =>
        obtain ⟨p2, o2, w1, w2, w3, w4, w5⟩ := w
        obtain ⟨p3, o3, y1, y2, y3, y4, y5⟩ := hh.ow z
        rw [w1] at y1
        cases y1
        have ne : p2 ≠ q := fun w => by subst w; rw [n] at y4; cases y4
        exact ⟨p2, o2, w1, w2, w3, by rw [upd_ne ne]; exact w4, w5⟩
/-- xs[i] = e -/
theorem bk_setAt (i : Nat) {a : Str} {pq : Option Addr} {as : List α} {n : Int} (hg : Γ[i]? = some (.ow (oLst r as) pq)) (he : Ev X Γ e r x) (hi : Ev X Γ f rInt n) (hb : 0 ≤ n ∧ n < (as.length : Int)) (k : Bk X E (Γ.set i (.ow (oLst r (as.set n.toNat x)) pq)) rest D)
    (hpg : PG X (.Subscript (.Name a p) f p2) (gSub (tVar i) (WE X f) rSetL) := by exact pg_sub (pv _) WE.pe set_list)
    (hs : swapsWithSole [.Subscript (.Name a p) f p2] e pos.line X.env = pure false := by rfl) (hw : swappedStores [.Subscript (.Name a p) f p2] e X.env = pure none := by rfl) (h1 : (assignEach [.Subscript (.Name a p) f p2] X.env).map (·.2) = [assign (.Subscript (.Name a p) f p2) X.env] := by rfl) : Bk X E Γ (.Assign [.Subscript (.Name a p) f p2] e pos :: rest) D :=
  bk_of (ps_asg WE.pe hpg hs hw h1) fun G H σ hh => he E G H σ hh _ fun v G1 H1 l1 r1 => by
    have hh1 := hh.step l1
    obtain ⟨q, o, h1, h2, h3, h4, vs, h5, h6⟩ := hh1.ow hg
    subst h5
    refine ⟨_, h1, hi E G1 H1 σ hh1 _ fun w G2 H2 l2 r2 => ?_⟩
    refine ⟨q, vs, n, n.toNat, rfl, r2, l2.h _ _ h4, ?_, ?_⟩
    · unfold ixN
      rw [if_pos hb.1, if_pos (by rw [h6.length]; exact hb.2)]
    · exact k G2 _ σ ((hh1.step l2).mut hg h1 ⟨_, rfl, (h6.mono l2.g).set (r.mono l2.g r1) _⟩)
end
end Hf

namespace Hf
open PySem PySem.Spec PyProof.Rows L2 ClX

/-! ### a text walked; a sign in a text -/
def signs (u : Str) : List Str := u.cps.toList.map fun c => (⟨#[c]⟩ : Str)
section
variable {X : Cx} {E : Ent} {Γ Γ' Γ1 Γ2 : List Slot} {D : Ends} {e f g o : Expr} {es : List Expr} {rest : List Stmt} {pos p p2 apos cpos : Pos} {α β γ ι : Type} {r : Rp α} {x : α} {s : Rp β} {y : β} {ps : List Par} {ss : List Src} {k j : Nat} {u v : Str} {i : Int} {as : List α}
theorem ei_str {tg : Expr} (h : Ev X Γ e rStr u) : EvI X Γ tg e rStr (signs u) := ⟨_, pi_str WE.pe, fun E G H σ hh R q => h E G H σ hh _ fun v G1 H1 l1 r1 => ⟨u, r1, q _ G1 H1 l1 fun i G2 H2 g1 g2 => ⟨fun a ea => by
    unfold signs at ea
    rw [List.getElem?_map] at ea
    cases hc : u.cps.toList[i]? with
    | none => rw [hc] at ea; cases ea
    | some c =>
      rw [hc] at ea
      cases ea
      have hc' : u.cps[i]? = some c := by rw [← Array.getElem?_toList]; exact hc
      have lt : i < u.cps.size := (Array.getElem?_eq_some_iff.mp hc').1
      refine ⟨lt, fun x H' ⟨e1, c', e2, e3⟩ => ?_⟩
      subst e1
      rw [hc'] at e2
      cases e2
      exact ⟨G2, .refl g2, e3⟩, fun le => by
    have z : (signs u).length = u.cps.size := by simp [signs]
    rw [z] at le
    exact le⟩⟩⟩
/-- s in t, s one sign -/
def inS (u v : Str) : Bool := match u.cps.toList with
  | [c] => decide (c ∈ v.cps.toList)
  | _ => false
theorem gv_inS (h1 : u.cps.size = 1) : Gives (fun x y H Q => ∃ (c : Nat) (z : Str), x = .str ⟨#[c]⟩ ∧ y = .str z ∧ Q (.bl (decide (c ∈ z.cps.toList))) H) rStr u rStr v rBool (inS u v) := fun G H a b e ha hb Q q => by
  obtain ⟨⟨l⟩⟩ := u
  match l, h1 with
  | [c], _ => exact ⟨c, v, ha, hb, q _ G H (.refl e) rfl⟩
theorem ev_inS (h1 : u.cps.size = 1) (ha : Ev X Γ e rStr u) (hb : Ev X Γ f rStr v) (hm : behindInMarks .In f = false := by rfl) : Ev X Γ (.Compare e [.In] [f] pos) rBool (inS u v) := ev_cmpR op_in_sign ha hb (gv_inS h1) hm
theorem signs_one {z : Str} (h : z ∈ signs u) : z.cps.size = 1 := by
  obtain ⟨c, _, rfl⟩ := List.mem_map.mp h
  rfl
/-! ### is not None -/
theorem gv_notN {o : Option α} (n : NN r) : Gives (fun x y H Q => y = V.non ∧ Q (.bl (!decide (x = V.non))) H) (rOpt r) o rNon () rBool (!o.isNone) := fun G H a b e h1 h2 Q q => by
  refine ⟨h2, ?_⟩
  cases o with
  | none =>
    have z : a = .non := h1
    subst z
    exact q _ G H (.refl e) rfl
  | some v =>
    rw [decide_eq_false (n.nn G a v h1)]
    exact q _ G H (.refl e) rfl
theorem ev_notN {o : Option α} (n : NN r) (ha : Ev X Γ e (rOpt r) o) (hb : Ev X Γ f rNon ()) : Ev X Γ (.Compare e [.IsNot] [f] pos) rBool (!o.isNone) := ev_cmpR op_notN ha hb (gv_notN n)
theorem et_notN {o : Option α} (n : NN r) (ha : Ev X Γ e (rOpt r) o) (hb : Ev X Γ f rNon ()) : EvT X Γ (.Compare e [.IsNot] [f] pos) (!o.isNone) := et_cmpR op_notN ha hb (gv_notN n)
/-! ### xs * n -/
def repL (as : List α) (n : Int) : List α := (List.replicate n.toNat as).flatten
theorem All2.rep {G : Hp} {vs : List V} (h : All2 r G vs as) : ∀ n : Nat, All2 r G (List.replicate n vs).flatten (List.replicate n as).flatten
  | 0 => .nil
  | n + 1 => by
    rw [List.replicate_succ, List.replicate_succ, List.flatten_cons, List.flatten_cons]
    exact h.append (All2.rep h n)
theorem eo_rep (h : EvB X Γ e (oLst r as)) (h2 : Ev X Γ f rInt i) (hl : -(2 ^ 63) ≤ i ∧ i < 2 ^ 63 ∧ as.length * i.toNat ≤ sizeLine) : EvO X Γ (.BinOp e .Mult f pos) (oLst r (repL as i)) := fun E G H σ hh Q q =>
  WE.of (pe_op op_rep WE.pe WE.pe) (h E G H σ hh _ fun p o G1 H1 l1 hp ⟨vs, e1, ha⟩ => h2 E G1 H1 σ (hh.step l1) _ fun w G2 H2 l2 r2 => by
    subst e1
    exact ⟨p, i, vs, rfl, r2, l2.h _ _ hp, hl.1, hl.2.1, by rw [ha.length]; exact hl.2.2, fun p3 n => q p3 _ G2 _ (Evl.fresh_back (l1.trans l2).h n) ((l1.trans l2).addO n) (Evl.fresh_back l2.gh n) upd_same ⟨_, rfl, (ha.mono l2.g).rep _⟩⟩)
/-! ### zip of two lists -/
theorem ei_zip {elts : List Expr} {kk : Nat} {tpos : Pos} {bs : List β} (h : Ev X Γ e (rLst r) as) (h2 : Ev X Γ f (rLst s) bs) (hm : X.mg "zip" = none) (hg : Gl X "zip" := by rfl)
    (he : starEach [e, f] X.env = (false, eval e X.env) :: starEach [f] X.env := by rfl) (he2 : starEach [f] X.env = (false, eval f X.env) :: starEach [] X.env := by rfl) (hpl : (backTo pos (starEach [f] X.env)).any (·.1) = false := by rfl) :
    EvI X Γ (.Tuple elts kk tpos) (.Call (.Name "zip" p) [e, f] [] pos) (rT2 X.K r s) (as.zip bs) := ⟨_, pi_zip hg hm (pa_cons WE.pe (pa_cons WE.pe pa_nil he2) he) he hpl, fun E G H σ hh R q => h E G H σ hh _ fun v G1 H1 l1 ⟨p1, vs, e1, hp, ha⟩ => h2 E G1 H1 σ (hh.step l1) _ fun v2 G2 H2 l2 ⟨p2, ws, e2, hp2, hb⟩ => by
  have hp' : G2 p1 = some (.lst vs) := l2.g _ _ hp
  refine ⟨p1, p2, vs, ws, by rw [e1, e2], .inl (.inl (l2.gh _ _ hp')), .inl (.inl (l2.gh _ _ hp2)), q _ G2 H2 (l1.trans l2) fun i G3 H3 g1 g2 => ⟨fun a ea => ?_, fun le => ?_⟩⟩
  · have hx : ∃ x y, as[i]? = some x ∧ bs[i]? = some y ∧ a = (x, y) := by
      rw [List.getElem?_zip_eq_some] at ea
      exact ⟨a.1, a.2, ea.1, ea.2, rfl⟩
    obtain ⟨x, y, ex, ey, rfl⟩ := hx
    obtain ⟨v1, ev1, rv1⟩ := ha.get ex
    obtain ⟨w1, ew1, rw1⟩ := hb.get ey
    have hq1 : SqL X.K H3 p1 vs := .inl (.inl (g2 _ _ (g1 _ _ hp')))
    have hq2 : SqL X.K H3 p2 ws := .inl (.inl (g2 _ _ (g1 _ _ hp2)))
    refine ⟨⟨vs, ws, v1, w1, hq1, hq2, ev1, ew1⟩, fun z H' ⟨T, x', y', e3, n, e4, e5, e6⟩ => ?_⟩
    have e7 := e5 vs hq1
    have e8 := e6 ws hq2
    rw [ev1] at e7
    rw [ew1] at e8
    cases e7; cases e8
    subst e3 e4
    have n2 := Evl.fresh_back g2 n
    exact ⟨upd G3 T (.tup [v1, w1]), (Le.refl g2).add n, T, _, _, rfl, .inl (.inl upd_same), r.mono ((l2.g.trans g1).trans (Evl.Ex.new n2)) rv1, s.mono (g1.trans (Evl.Ex.new n2)) rw1⟩
  · refine ⟨vs, ws, .inl (.inl (g2 _ _ (g1 _ _ hp'))), .inl (.inl (g2 _ _ (g1 _ _ hp2))), ?_⟩
    rw [ha.length, hb.length]
    rw [List.length_zip] at le
    omega⟩
/-! ### a method by its class -/
structure HasU (P : Program) (w : World) (K : PySem.W.Frag) (mg : Str → Option Value) (base : Heap) (x : Str) (C : Addr) (m : Str) (k : Nat) (sp : Sp) : Prop where
  ex : ∃ (f : Addr) (fd : FuncData) (ps : List Str) (spF : Sp) (dvs : List V) (ds : List Value), mg x = some (.ref C) ∧ Unb K C m f ∧ Binds K fd ps ds ∧ Vals dvs ds ∧ FnOk P w K mg base (CXL P w) k f fd ps spF ∧ ∀ vs H Q, sp vs H Q E0 → spF (vs ++ dvs) H Q E0
theorem em_unb {cn m : Str} {C : Addr} {Pre : ι → Prop} {pars : ι → List Par} {res : ι → α} {post : ι → List Oc} {z : α} {pl : Sem Bool} (h : HasU X.prog X.w X.K X.mg X.base cn C m k (MSp Pre pars r res post)) (hr : Room j X.A) (hk : k ≤ j) (y : ι) (hp : Pre y)
    (ha : EvP X Γ (e :: es) (pars y) ss) (nd : (slOf ss).Nodup := by decide) (hz : res y = z := by rfl) (hΓ : setSrc Γ ss (post y) = Γ' := by rfl) (hg : Gl X cn := by rfl) (hdb : (cn == ("__debug__" : Str)) = false := by decide)
    (he : starEach (e :: es) X.env = (false, eval e X.env) :: starEach es X.env := by rfl) (hpl : (backTo pos (starEach es X.env)).any (·.1) = false := by rfl)
    (ht : eval (.Call (.Attribute (.Name cn p) m apos) (e :: es) [] pos) X.env = (do
      let ov ← eval (.Name cn p) X.env
      standAt apos.atName
      let (f, first) ← holding [ov] (getMethod ov m pl)
      callWith pos f first (backTo pos (starEach (e :: es) X.env)) (backToKw pos (keywordEach [] X.env))) := by rfl) : EvM X Γ Γ' (.Call (.Attribute (.Name cn p) m apos) (e :: es) [] pos) r z := fun E G H σ hh Q q => by
  obtain ⟨f0, fd, ps0, spF, dvs, ds, hm, u, hb, hd, F, hi⟩ := h.ex
  refine WE.of (pe_unb (pe_glob (v := .ref C) hg hm rfl hdb) u F (hr.mono hk) hb hd passL WA.pa he hpl ht) ?_
  refine ⟨rfl, ?_⟩
  refine ha E G H σ hh _ fun vs as G1 H1 l1 n1 f1 s1 => hi vs _ _ ?_
  have h1 := hh.step l1
  refine ⟨y, G1, as, hp, l1.gh, n1, f1, fun v G2 H2 l2 w2 r2 => ?_⟩
  exact q v G2 H2 (l1.g.trans l2.g) (hΓ ▸ hh.callS h1 nd s1 l2 w2) (hz ▸ r2)
/-! ### isinstance of an own class -/
def KindV (K : PySem.W.Frag) (r : Rp α) (x : α) (t : Value) : Prop := ∀ G v, r.rel G v x → TyX K G v t
theorem ev_isiC {t : Value} {C : Addr} {c : Str} {b : Bool} (h : Ev X Γ e r x) (kd : KindV X.K r x t) (hk : PySem.W.kitOne X.K t (.ref C) = some b) (hm : X.mg "isinstance" = none) (hmc : X.mg c = some (.ref C)) (hg : Gl X "isinstance" := by rfl) (hgc : Gl X c := by rfl) (hd : (c == ("__debug__" : Str)) = false := by decide)
    (hs1 : starEach (e :: [.Name c p2]) X.env = (false, eval e X.env) :: starEach [.Name c p2] X.env := by rfl) (hs2 : starEach (.Name c p2 :: []) X.env = (false, eval (.Name c p2) X.env) :: starEach [] X.env := by rfl) (hpl : (backTo pos (starEach [.Name c p2] X.env)).any (·.1) = false := by rfl) :
    Ev X Γ (.Call (.Name "isinstance" p) [e, .Name c p2] [] pos) rBool b := fun E G H σ hh Q q =>
  WE.of (pe_callB call_isi hg hm (by decide +kernel) (pa_cons WE.pe (pa_cons (pe_glob (v := .ref C) hgc hmc rfl hd) pa_nil hs2) hs1) (he := hs1) (hpl := hpl)) (h E G H σ hh _ fun v G1 H1 l1 r1 => ⟨v, .ref C, t, .ref C, b, rfl, .own C, tyX_mono l1.gh (kd G1 v r1), hk, q _ G1 H1 l1 rfl⟩)
/-! ### try whose body never raises -/
theorem bk_try {h₀ : ExceptHandler} {hs : List ExceptHandler} {body : List Stmt} (hb : Bk X.nox E Γ body (thenD X rest D)) : Bk X E Γ (.Try body (h₀ :: hs) [] [] pos :: rest) D :=
  bk_of (ps_try_thru0 WB.pss) fun G H σ hh => hb G H σ hh
end
end Hf

namespace Hf
open PySem PySem.Spec PyProof.Rows L2 ClX

/-! ### works: frozen when made -/
abbrev wkNs : List Str := ["called", "held", "many"]
abbrev wkTs (K : PySem.W.Frag) (c : WC) (n : Str) (ps : List (Int × Pl)) (s : Option Int) : List Ty := [⟨rStr, n⟩, ⟨rLst (rT2 K rInt (rWk K c)), ps⟩, ⟨rOpt rInt, s⟩]
abbrev oWk (K : PySem.W.Frag) (c : WC) (w : Pl) (n : Str) (ps : List (Int × Pl)) (s : Option Int) : Oc := oIns (c.of w) wkNs (wkTs K c n ps s)
theorem rOpt_oV {G : Hp} {v : V} {s : Option Int} (h : (rOpt rInt).rel G v s) : v = oV s := by
  cases s with
  | none => exact h
  | some i => exact h
theorem frz_wk {K : PySem.W.Frag} {c : WC} {w : Pl} : Frz (oWk K c w w.name w.parts w.steps) (rWk K c) w := fun G a o n ⟨dx, vs, e, h, _⟩ => by
  match vs, h with
  | [v1, v2, v3], ⟨h1, h2, h3, _⟩ =>
    obtain ⟨p, us, e2, hp, ha⟩ := h2
    have e1 : v1 = .str w.name := h1
    have e3 : v3 = oV w.steps := rOpt_oV h3
    have gx : Ex G (upd G a o) := Evl.Ex.new n
    subst e1 e2 e3 e
    cases w with
    | leaf nm s =>
      cases ha
      exact .leaf upd_same (gx _ _ hp)
    | lot row nm ps => exact .lot upd_same (gx _ _ hp) (ptAt_all.mpr (ha.mono gx))
/-! ### depth, names -/
namespace Pl
mutual
def depth : Pl → Nat
  | .leaf _ _ => 1
  | .lot _ _ ps => 1 + depths ps
def depths : List (Int × Pl) → Nat
  | [] => 0
  | (_, w) :: ps => max (depth w) (depths ps)
end
mutual
def names : Pl → List Str
  | .leaf n _ => [n]
  | .lot _ n ps => n :: namess ps
def namess : List (Int × Pl) → List Str
  | [] => []
  | (_, w) :: ps => names w ++ namess ps
end
mutual
/-- all works in it, each elder ahead of its parts -/
def all : Pl → List Pl
  | .leaf n s => [.leaf n s]
  | .lot r n ps => .lot r n ps :: alls ps
def alls : List (Int × Pl) → List Pl
  | [] => []
  | (_, w) :: ps => all w ++ alls ps
end
theorem depth_pos : ∀ w : Pl, 0 < w.depth
  | .leaf _ _ => by simp [depth]
  | .lot _ _ _ => by simp only [depth]; omega
theorem depths_mem {q : Int × Pl} : ∀ {ps : List (Int × Pl)}, q ∈ ps → q.2.depth ≤ depths ps
  | (i, w) :: ps, h => by
    rcases List.mem_cons.mp h with rfl | h
    · show w.depth ≤ max w.depth (depths ps)
      omega
    · have := depths_mem h
      show _ ≤ max w.depth (depths ps)
      omega
theorem part_depth {q : Int × Pl} {w : Pl} (h : q ∈ w.parts) : q.2.depth < w.depth := by
  cases w with
  | leaf n s => simp [parts] at h
  | lot r n ps =>
    have := depths_mem (show q ∈ ps from h)
    show _ < 1 + depths ps
    omega
theorem depth_eq (w : Pl) : w.depth = 1 + depths w.parts := by
  cases w with
  | leaf n s => simp [depth, parts, depths]
  | lot r n ps => simp [depth, parts]
theorem names_eq (w : Pl) : w.names = w.name :: namess w.parts := by
  cases w with
  | leaf n s => simp [names, parts, namess, name]
  | lot r n ps => simp [names, parts, name]
theorem all_eq (w : Pl) : w.all = w :: alls w.parts := by
  cases w with
  | leaf n s => simp [all, parts, alls]
  | lot r n ps => simp [all, parts]
theorem namess_eq : ∀ (ps : List (Int × Pl)), namess ps = ps.flatMap (fun q => q.2.names)
  | [] => by simp [namess]
  | (i, w) :: ps => by simp [namess, namess_eq ps]
theorem alls_eq : ∀ (ps : List (Int × Pl)), alls ps = ps.flatMap (fun q => q.2.all)
  | [] => by simp [alls]
  | (i, w) :: ps => by simp [alls, alls_eq ps]
theorem depths_max : ∀ (ps : List (Int × Pl)), (depths ps : Int) = maxL ([0] ++ ps.map fun q => (q.2.depth : Int))
  | [] => by simp [depths, maxL]
  | (i, w) :: ps => by
    have ih := depths_max ps
    have step : ∀ (l : List Int) (a b : Int), l.foldl max (max a b) = max b (l.foldl max a) := fun l => by
      induction l with
      | nil => intro a b; simp only [List.foldl_nil]; omega
      | cons c l ih => intro a b; simp only [List.foldl_cons]; rw [show max (max a b) c = max (max a c) b by omega, ih]
    show ((max w.depth (depths ps) : Nat) : Int) = List.foldl max 0 ((w.depth : Int) :: ps.map fun q => (q.2.depth : Int))
    have ih' : (depths ps : Int) = List.foldl max 0 (ps.map fun q => (q.2.depth : Int)) := ih
    rw [List.foldl_cons, step, ← ih']
    omega
end Pl
/-! ### == of plain works -/
def pdOpt : Option Int → PyData
  | none => .none
  | some i => .int i
mutual
def pdPl : Pl → PyData
  | .leaf n s => .tuple [.str "leaf", .str n, pdOpt s]
  | .lot row n ps => .tuple [.str (Pl.lot row n []).kind, .str n, .list (pdPs ps)]
def pdPs : List (Int × Pl) → List PyData
  | [] => []
  | (i, w) :: ps => .tuple [.int i, pdPl w] :: pdPs ps
end
def NOk (u : Str) : Prop := PyData.strOk u = true
mutual
def Pl.Ok : Pl → Prop
  | .leaf n _ => NOk n
  | .lot _ n ps => NOk n ∧ Pl.Oks ps
def Pl.Oks : List (Int × Pl) → Prop
  | [] => True
  | (_, w) :: ps => Pl.Ok w ∧ Pl.Oks ps
end
mutual
theorem pdPl_lay : ∀ (w : Pl), w.Ok → PyData.canLay0 (pdPl w) = true ∧ PyData.depth (pdPl w) ≤ 3 * w.depth
  | .leaf n s, h => by
    have hn : PyData.strOk n = true := h
    have hl : PyData.strOk "leaf" = true := by decide +kernel
    cases s <;> simp [pdPl, pdOpt, PyData.canLay0, PyData.canLayAll0, PyData.depth, PyData.depthAll, hn, hl, Pl.depth]
  | .lot row n ps, h => by
    have hn : PyData.strOk n = true := h.1
    have hk : PyData.strOk (Pl.lot row n []).kind = true := by
      cases row
      · exact (by decide +kernel : PyData.strOk "bundle" = true)
      · exact (by decide +kernel : PyData.strOk "row" = true)
    obtain ⟨h1, h2⟩ := pdPs_lay ps h.2
    refine ⟨by simp [pdPl, PyData.canLay0, PyData.canLayAll0, hn, hk, h1], ?_⟩
    simp only [pdPl, PyData.depth, PyData.depthAll, Pl.depth]
    omega
theorem pdPs_lay : ∀ (ps : List (Int × Pl)), Pl.Oks ps → PyData.canLayAll0 (pdPs ps) = true ∧ PyData.depthAll (pdPs ps) ≤ 3 * Pl.depths ps + 1
  | [], _ => by simp [pdPs, PyData.canLayAll0, PyData.depthAll]
  | (i, w) :: ps, h => by
    obtain ⟨h1, h2⟩ := pdPl_lay w h.1
    obtain ⟨h3, h4⟩ := pdPs_lay ps h.2
    refine ⟨by simp [pdPs, PyData.canLayAll0, PyData.canLay0, h1, h3], ?_⟩
    simp only [pdPs, PyData.depthAll, PyData.depth, Pl.depths]
    omega
end
mutual
theorem dp_pl {K : PySem.W.Frag} {G : Hp} : ∀ (w : Pl) (v : V), PlAt K G v w → Dp K G v (pdPl w)
  | .leaf n s, _, h => by
    cases h with
    | leaf h1 =>
      refine .tup h1 (.cons (.str _) (.cons (.str _) (.cons ?_ .nil)))
      cases s with
      | none => exact .non
      | some i => exact .int i
  | .lot row n ps, _, h => by
    cases h with
    | lot h1 h2 h3 =>
      have e : (Pl.lot row n ps).kind = (Pl.lot row n []).kind := by cases row <;> rfl
      rw [e] at h1
      exact .tup h1 (.cons (.str _) (.cons (.str _) (.cons (.lst (.inl (.inl h2)) (dp_ps ps _ h3)) .nil)))
theorem dp_ps {K : PySem.W.Frag} {G : Hp} : ∀ (ps : List (Int × Pl)) (vs : List V), PpAt K G vs ps → DpAll K G vs (pdPs ps)
  | [], _, h => by cases h; exact .nil
  | (i, w) :: ps, _, h => by
    cases h with
    | cons h1 h2 h3 => exact .cons (.tup h1 (.cons (.int _) (.cons (dp_pl w _ h2) .nil))) (dp_ps ps _ h3)
end
theorem eqv_pl {K : PySem.W.Frag} {w : Pl} (h : w.Ok) (hd : w.depth ≤ 20) : Eqv K (rPl K) w (pdPl w) := ⟨fun G v k => dp_pl w v k, by
  obtain ⟨h1, h2⟩ := pdPl_lay w h
  unfold SeqAt.shaped
  rw [h1]
  exact decide_eq_true (by omega)⟩
theorem eqv_pls {K : PySem.W.Frag} {ps : List (Int × Pl)} (h : Pl.Oks ps) (hd : Pl.depths ps ≤ 20) : Eqv K (rLst (rT2 K rInt (rPl K))) ps (.list (pdPs ps)) := ⟨fun G v ⟨p, vs, e, k, a⟩ => by
  subst e
  exact .lst (.inl (.inl k)) (dp_ps ps vs (ppAt_all.mpr a)), by
  obtain ⟨h1, h2⟩ := pdPs_lay ps h
  unfold SeqAt.shaped
  simp only [PyData.canLay0, h1, PyData.depth, Bool.true_and]
  exact decide_eq_true (by omega)⟩
theorem eqv_opt {K : PySem.W.Frag} {s : Option Int} : Eqv K (rOpt rInt) s (pdOpt s) := ⟨fun G v k => by
  cases s with
  | none =>
    have e : v = .non := k
    subst e
    exact .non
  | some i =>
    have e : v = .int i := k
    subst e
    exact .int i, by cases s <;> rfl⟩
theorem pdOpt_eqv {a b : Option Int} : PyData.eqv (pdOpt a) (pdOpt b) = decide (a = b) := by
  cases a <;> cases b <;> simp [pdOpt, PyData.eqv]
  rename_i x y
  by_cases h : x = y <;> simp [h]
mutual
theorem pdPl_eqv : ∀ (a b : Pl), PyData.eqv (pdPl a) (pdPl b) = true → a = b
  | .leaf n s, .leaf m t, h => by
    simp only [pdPl, PyData.eqv, PyData.eqvAll, pdOpt_eqv, Bool.and_true, Bool.and_eq_true, decide_eq_true_eq, beq_iff_eq] at h
    obtain ⟨_, h1, h2⟩ := h
    rw [h1, h2]
  | .leaf n s, .lot r m ps, h => by
    cases r <;> cases s <;> simp [pdPl, PyData.eqv, PyData.eqvAll, pdOpt] at h
  | .lot r m ps, .leaf n s, h => by
    cases r <;> cases s <;> simp [pdPl, PyData.eqv, PyData.eqvAll, pdOpt] at h
  | .lot r n ps, .lot q m qs, h => by
    simp only [pdPl, PyData.eqv, PyData.eqvAll, Bool.and_true, Bool.and_eq_true, decide_eq_true_eq, beq_iff_eq] at h
    obtain ⟨h0, h1, h2⟩ := h
    have hr : r = q := by
      cases r <;> cases q
      · rfl
      · exact absurd (show ("bundle" : Str) = "row" from h0) (by decide +kernel)
      · exact absurd (show ("row" : Str) = "bundle" from h0) (by decide +kernel)
      · rfl
    rw [hr, h1, pdPs_eqv ps qs h2]
theorem pdPs_eqv : ∀ (a b : List (Int × Pl)), PyData.eqvAll (pdPs a) (pdPs b) = true → a = b
  | [], [], _ => rfl
  | [], (j, w) :: b, h => by simp [pdPs, PyData.eqvAll] at h
  | (i, w) :: a, [], h => by simp [pdPs, PyData.eqvAll] at h
  | (i, w) :: a, (j, z) :: b, h => by
    simp only [pdPs, PyData.eqv, PyData.eqvAll, Bool.and_true, Bool.and_eq_true, decide_eq_true_eq, beq_iff_eq] at h
    obtain ⟨⟨h1, h2⟩, h3⟩ := h
    rw [h1, pdPl_eqv w z h2, pdPs_eqv a b h3]
end
mutual
theorem pdPl_refl : ∀ (a : Pl), PyData.eqv (pdPl a) (pdPl a) = true
  | .leaf n s => by simp [pdPl, PyData.eqv, PyData.eqvAll, pdOpt_eqv]
  | .lot r n ps => by simp [pdPl, PyData.eqv, PyData.eqvAll, pdPs_refl ps]
theorem pdPs_refl : ∀ (a : List (Int × Pl)), PyData.eqvAll (pdPs a) (pdPs a) = true
  | [] => by simp [pdPs, PyData.eqvAll]
  | (i, w) :: a => by simp [pdPs, PyData.eqv, PyData.eqvAll, pdPl_refl w, pdPs_refl a]
end
theorem dpAll_bools {K : PySem.W.Frag} {G : Hp} : ∀ {ns : List Bool}, DpAll K G (ns.map V.bl) (ns.map PyData.bool)
  | [] => .nil
  | b :: l => .cons (.bl b) dpAll_bools
theorem eqv_bools {K : PySem.W.Frag} {ns : List Bool} : Eqv K (rLst rBool) ns (.list (ns.map .bool)) := ⟨fun G v ⟨p, vs, e, h, h2⟩ => by
  subst e
  refine .lst (.inl (.inl h)) ?_
  rw [all2_bool h2]
  exact dpAll_bools, by
  have z : ∀ l : List Bool, PyData.canLayAll0 (l.map .bool) = true := fun l => by
    induction l with
    | nil => rfl
    | cons a l ih => simp [PyData.canLayAll0, PyData.canLay0, ih]
  have d : ∀ l : List Bool, PyData.depthAll (l.map PyData.bool) ≤ 1 := fun l => by
    induction l with
    | nil => simp [PyData.depthAll]
    | cons a l ih => simp [PyData.depthAll, PyData.depth]; omega
  unfold SeqAt.shaped
  have := d ns
  simp only [PyData.canLay0, z, PyData.depth, Bool.true_and]
  exact decide_eq_true (by omega)⟩
theorem bools_eqv {a b : List Bool} : PyData.eqv (.list (a.map .bool)) (.list (b.map .bool)) = decide (a = b) := by
  have k : ∀ a b : List Bool, PyData.eqvAll (a.map .bool) (b.map .bool) = decide (a = b) := fun a => by
    induction a with
    | nil => intro b; cases b <;> simp [PyData.eqvAll]
    | cons x a ih =>
      intro b
      cases b with
      | nil => simp [PyData.eqvAll]
      | cons y b =>
        simp only [List.map_cons, PyData.eqvAll, PyData.eqv, ih, List.cons.injEq, Bool.decide_and]
        cases x <;> cases y <;> rfl
  simp only [PyData.eqv, k]
/-- an empty list of anything -/
theorem eqv_nil {K : PySem.W.Frag} {α : Type} {r : Rp α} : Eqv K (rLst r) ([] : List α) (.list []) := ⟨fun G v ⟨p, vs, e, h, h2⟩ => by
  subst e
  cases h2
  exact .lst (.inl (.inl h)) .nil, rfl⟩
end Hf

namespace Hf
open PySem PySem.Spec PyProof.Rows L2 ClX

/-! ### plain works taken apart and put together -/
theorem PlAt.three {K : PySem.W.Frag} {G : Hp} {v : V} {w : Pl} (h : PlAt K G v w) : ∃ a z, v = .ref a ∧ SqT K G a [.str w.kind, .str w.name, z] ∧ (w.isLeaf = true → z = oV w.steps) ∧ (w.isLeaf = false → ∃ p vs, z = .ref p ∧ G p = some (.lst vs) ∧ All2 (rT2 K rInt (rPl K)) G vs w.parts) := by
  cases h with
  | leaf h1 => exact ⟨_, _, rfl, h1, fun _ => rfl, fun z => by simp [Pl.isLeaf] at z⟩
  | lot h1 h2 h3 => exact ⟨_, _, rfl, h1, fun z => by simp [Pl.isLeaf] at z, fun _ => ⟨_, _, rfl, h2, ppAt_all.mp h3⟩⟩
/-- the classes of works, by their names -/
abbrev cW (K : PySem.W.Frag) : WC := ⟨He.ga K "Leaf", He.ga K "Row", He.ga K "Bundle"⟩
def Pl.isRow : Pl → Bool
  | .lot true _ _ => true
  | _ => false
def Pl.isBun : Pl → Bool
  | .lot false _ _ => true
  | _ => false
structure WcTy (K : PySem.W.Frag) (c : WC) (W : Addr) : Prop where
  ha : ∀ w, PySem.W.findIn K (.ref (c.of w)) "__class__" = some (some (.builtin "object.__class__"))
  hn : PySem.W.specialIn K (.builtin "object.__class__") "__get__" = some (some (.builtin "getset_descriptor.__get__"))
  ht : PySem.W.takesIn K (.builtin "object.__class__") = some true
  hm : ∀ w, PySem.W.mroIn K (c.of w) (.type "object") = some true
  work : ∀ w, PySem.W.kitOne K (.ref (c.of w)) (.ref W) = some true
  leaf : ∀ w, PySem.W.kitOne K (.ref (c.of w)) (.ref c.L) = some w.isLeaf
  row : ∀ w, PySem.W.kitOne K (.ref (c.of w)) (.ref c.R) = some w.isRow
  bun : ∀ w, PySem.W.kitOne K (.ref (c.of w)) (.ref c.B) = some w.isBun
theorem kind_wk {K : PySem.W.Frag} {c : WC} {W : Addr} {w : Pl} (ok : WcOk K c) (t : WcTy K c W) : KindV K (rWk K c) w (.ref (c.of w)) := fun G v h => by
  obtain ⟨a, dx, hd, vs, e1, h1, h2, h3⟩ := WkAt.obj h
  subst e1
  exact .base (.ins h1 (ok.cls w) (t.ha w) t.hn t.ht (t.hm w))
section
variable {X : Cx} {E : Ent} {Γ Γ' Γ1 Γ2 : List Slot} {D : Ends} {e f g o : Expr} {es : List Expr} {rest : List Stmt} {pos p p2 apos cpos : Pos} {α β γ ι : Type} {r : Rp α} {x : α} {s : Rp β} {y : β} {ps : List Par} {ss : List Src} {k j : Nat} {u v n : Str} {i : Int} {as : List α} {w : Pl} {c : WC} {m : Str} {pl : Sem Bool}
theorem ev_pl0 {k : Nat} (h : Ev X Γ e (rPl X.K) w) : Ev X Γ (.Subscript e (.Constant (.int 0) k p2) pos) rStr w.kind := fun E G H σ hh Q q =>
  WE.of (pe_ix ix_tup WE.pe pe_int (plain_of rfl)) (h E G H σ hh _ fun v G1 H1 l1 r1 => by
    obtain ⟨a, z, e1, h1, _, _⟩ := PlAt.three r1
    exact ⟨a, _, 0, _, e1, rfl, Evl.ex_t l1.gh h1, rfl, q _ G1 H1 l1 rfl⟩)
theorem ev_pl1 {k : Nat} (h : Ev X Γ e (rPl X.K) w) : Ev X Γ (.Subscript e (.Constant (.int 1) k p2) pos) rStr w.name := fun E G H σ hh Q q =>
  WE.of (pe_ix ix_tup WE.pe pe_int (plain_of rfl)) (h E G H σ hh _ fun v G1 H1 l1 r1 => by
    obtain ⟨a, z, e1, h1, _, _⟩ := PlAt.three r1
    exact ⟨a, _, 1, _, e1, rfl, Evl.ex_t l1.gh h1, rfl, q _ G1 H1 l1 rfl⟩)
theorem ev_pl2s {k : Nat} (hw : w.isLeaf = true) (h : Ev X Γ e (rPl X.K) w) : Ev X Γ (.Subscript e (.Constant (.int 2) k p2) pos) (rOpt rInt) w.steps := fun E G H σ hh Q q =>
  WE.of (pe_ix ix_tup WE.pe pe_int (plain_of rfl)) (h E G H σ hh _ fun v G1 H1 l1 r1 => by
    obtain ⟨a, z, e1, h1, h2, _⟩ := PlAt.three r1
    refine ⟨a, _, 2, _, e1, rfl, Evl.ex_t l1.gh h1, rfl, q _ G1 H1 l1 ?_⟩
    rw [h2 hw]
    cases w.steps <;> rfl)
theorem ev_pl2p {k : Nat} (hw : w.isLeaf = false) (h : Ev X Γ e (rPl X.K) w) : Ev X Γ (.Subscript e (.Constant (.int 2) k p2) pos) (rLst (rT2 X.K rInt (rPl X.K))) w.parts := fun E G H σ hh Q q =>
  WE.of (pe_ix ix_tup WE.pe pe_int (plain_of rfl)) (h E G H σ hh _ fun v G1 H1 l1 r1 => by
    obtain ⟨a, z, e1, h1, _, h2⟩ := PlAt.three r1
    exact ⟨a, _, 2, _, e1, rfl, Evl.ex_t l1.gh h1, rfl, q _ G1 H1 l1 (h2 hw)⟩)
theorem Ev.plLeaf {s : Option Int} (h : Ev X Γ e (rT3 X.K rStr rStr (rOpt rInt)) ("leaf", n, s)) : Ev X Γ e (rPl X.K) (.leaf n s) := fun E G H σ hh Q q => h E G H σ hh _ fun v G1 H1 l1 ⟨a, x, y, z, e1, h1, h2, h3, h4⟩ => q v G1 H1 l1 (by
  have e2 : x = .str "leaf" := h2
  have e3 : y = .str n := h3
  have e4 : z = oV s := rOpt_oV h4
  subst e1 e2 e3 e4
  exact .leaf h1)
theorem Ev.plLot {row : Bool} {ks : Str} {ps : List (Int × Pl)} (hk : ks = (Pl.lot row n ps).kind) (h : Ev X Γ e (rT3 X.K rStr rStr (rLst (rT2 X.K rInt (rPl X.K)))) (ks, n, ps)) : Ev X Γ e (rPl X.K) (.lot row n ps) := fun E G H σ hh Q q => h E G H σ hh _ fun v G1 H1 l1 ⟨a, x, y, z, e1, h1, h2, h3, p, vs, e4, h4, h5⟩ => q v G1 H1 l1 (by
  have e2 : x = .str ks := h2
  have e3 : y = .str n := h3
  subst e1 e2 e3 e4 hk
  exact .lot h1 h4 (ppAt_all.mpr h5))
/-! ### a method that hands back a new list -/
def HasVO (P : Program) (w : World) (K : PySem.W.Frag) (mg : Str → Option Value) (base : Heap) (c : WC) (m : Str) (k : Nat) {ι : Type} (self : ι → Pl) (Pre : ι → Prop) (args : ι → List Ty) (oc : ι → Oc) : Prop :=
  ∀ y, Pre y → HasM P w K mg base (c.of (self y)) m k (OSp (fun z => z = y) (fun z => ⟨rWk K c, self z⟩ :: args z) oc)
theorem eo_vm0 {self : ι → Pl} {Pre : ι → Prop} {args : ι → List Ty} {oc : ι → Oc} {z : Oc} (h : HasVO X.prog X.w X.K X.mg X.base c m k self Pre args oc) (hr : Room j X.A) (hk : k ≤ j) (y : ι) (hp : Pre y) (ho : Ev X Γ o (rWk X.K c) (self y)) (ha : args y = []) (hz : oc y = z := by rfl)
    (hf : ∀ n hd v, (wkF n hd v).lookup m = none := by intro _ _ _; rfl)
    (ht : eval (.Call (.Attribute o m apos) [] [] pos) X.env = (do
      let ov ← eval o X.env
      standAt apos.atName
      let (f, first) ← holding [ov] (getMethod ov m pl)
      callWith pos f first (backTo pos (starEach [] X.env)) (backToKw pos (keywordEach [] X.env))) := by rfl) : EvO X Γ (.Call (.Attribute o m apos) [] [] pos) z := fun E G H σ hh Q q =>
  we_meth0 (h y hp) hr hk (ho E G H σ hh _ fun v G1 H1 l1 r1 => by
    obtain ⟨a, dx, hd, vs, e1, h1, h2, h3⟩ := WkAt.obj r1
    subst e1
    refine ⟨a, dx, _, rfl, l1.gh _ _ h1, hf _ _ _, y, G1, rfl, l1.gh, ⟨r1, by rw [ha]; trivial⟩, fun p ob G3 H3 n l3 g3 h3 c3 => q p ob G3 H3 (Evl.fresh_back l1.h n) (l1.trans l3) g3 h3 (hz ▸ c3)⟩) ht
/-! ### C(e, k = v) -/
structure HasK (P : Program) (w : World) (K : PySem.W.Frag) (mg : Str → Option Value) (base : Heap) (x : Str) (C : Addr) (ks : List Str) (k : Nat) (sp : Sp) : Prop where
  ex : ∃ (f : Addr) (fd : FuncData) (ps : List Str) (g : List Value → List Value → List Value) (gV : List V → List V → List V), mg x = some (.ref C) ∧ Mk K C f ∧ KBn K fd ps 2 ks g gV ∧ FnOk P w K mg base (CXL P w) k f fd ps sp ∧ ∀ a u z, gV [a, u] [z] = [a, u, z]
theorem ev_makeK {fn kw : Str} {C : Addr} {kpos : Pos} {Pre : ι → Prop} {t1 t2 : ι → Ty} {oc : ι → Oc} {z : α} (h : HasK X.prog X.w X.K X.mg X.base fn C [kw] k (MSp Pre (fun y => [.ow (oIns C [] []), .ty (t1 y), .ty (t2 y)]) rNon (fun _ => ()) (fun y => [oc y]))) (hr : Room j X.A) (hk : k + 1 ≤ j) (y : ι) (hp : Pre y)
    (ha : Ev X Γ e (t1 y).r (t1 y).a) (hb : Ev X Γ f (t2 y).r (t2 y).a) (fz : Frz (oc y) r z) (hg : Gl X fn := by rfl) (hdb : (fn == ("__debug__" : Str)) = false := by decide)
    (hall : (backToKw pos (keywordEach [⟨some kw, f, kpos⟩] X.env)).all (·.1.isSome) = true := by rfl) (hks : (backToKw pos (keywordEach [⟨some kw, f, kpos⟩] X.env)).filterMap (·.1) = [kw] := by rfl)
    (he : starEach (e :: []) X.env = (false, eval e X.env) :: starEach [] X.env := by rfl)
    (hpl : ((backTo pos (starEach (e :: []) X.env)).any (·.1) || (backToKw pos (keywordEach [⟨some kw, f, kpos⟩] X.env)).any (·.1.isNone)) = false := by rfl) : Ev X Γ (.Call (.Name fn p) [e] [⟨some kw, f, kpos⟩] pos) r z := fun E G H σ hh Q q => by
  obtain ⟨f0, fd, ps0, g, gV, hm, mk, kb, F, hgv⟩ := h.ex
  refine WE.of (pe_makeN (n := 1) mk F (hr.mono hk) hg hm kb passL (pa_cons WE.pe pa_nil he) (pk_cons WE.pe pk_nil) hall hks hdb he hpl) ?_
  refine ha E G H σ hh _ fun v G1 H1 l1 r1 => hb E G1 H1 σ (hh.step l1) _ fun u G2 H2 l2 r2 => ⟨rfl, rfl, fun a dx na nx ne => ?_⟩
  rw [hgv]
  have l := l1.trans l2
  have g2a : G2 a = none := Evl.fresh_back l2.gh na
  have l3 : Le G2 H2 G2 (upd (upd H2 dx (.own a)) a (.ins C dx [])) := by
    have z1 : Le G2 H2 G2 (upd H2 dx (.own a)) := (Le.refl l2.gh).addO nx
    exact z1.addO (by rw [upd_ne (fun w => ne w.symm)]; exact na)
  refine ⟨y, G2, [a], hp, l3.gh, by simp, ⟨⟨rfl, g2a, _, upd_same, dx, [], rfl, trivial, rfl⟩, (t1 y).r.mono l2.g r1, r2, trivial⟩, fun v3 G3 H3 l4 w4 r3 => ⟨r3, ?_⟩⟩
  obtain ⟨⟨ga, oa, ha3, ca⟩, _⟩ := w4
  refine q _ (upd G3 a oa) H3 ⟨(l.g.trans l4.g).trans (Evl.Ex.new ga), fun b o z => ?_, fun b o z => ?_, fun b o z1 z2 => ?_⟩ (fz G3 a oa ga ca)
  · have ne : b ≠ a := fun w => by subst w; rw [Evl.fresh_back l.h na] at z; cases z
    rcases l4.h b o (l3.h _ _ (l.h _ _ z)) with ⟨_, w⟩ | ⟨m, _⟩
    · exact w
    · simp only [List.mem_singleton] at m
      exact absurd m ne
  · by_cases w : b = a
    · subst w; rw [upd_same] at z; cases z; exact ha3
    · rw [upd_ne w] at z; exact l4.gh b o z
  · by_cases w : b = a
    · subst w; exact Evl.fresh_back l.h na
    · rw [upd_ne w] at z1
      cases q : G2 b with
      | some o2 => exact l.new b o2 q z2
      | none => exact Evl.fresh_back (l.h.trans l3.h) (l4.new b o z1 q)
end
end Hf

namespace Hf
open PySem PySem.Spec PyProof.Rows L2 ClX

theorem RetN.eqP {E : Ent} {D : Ends} {ps : List Addr} {post post' : List Oc} {α : Type} {r : Rp α} {a a' : α} (h : RetN E D ps post r a) (q : a = a') (q2 : post = post') : RetN E D ps post' r a' := q ▸ q2 ▸ h
theorem leaf_of {w : Pl} {b : Bool} (h : decide (w.kind = ("leaf" : Str)) = b) : w.isLeaf = b := by
  subst h
  cases w with
  | leaf n s => exact (decide_eq_true rfl).symm
  | lot r n ps =>
    cases r
    · exact (decide_eq_false (show ¬ ("bundle" : Str) = "leaf" by decide +kernel)).symm
    · exact (decide_eq_false (show ¬ ("row" : Str) = "leaf" by decide +kernel)).symm
theorem leaf_ne {w : Pl} {b : Bool} (h : (!decide (w.kind = ("leaf" : Str))) = b) : w.isLeaf = !b := by
  have z := leaf_of (w := w) rfl
  rw [z, ← h, Bool.not_not]
theorem row_of {w : Pl} {b : Bool} (h : decide (w.kind = ("row" : Str)) = b) : w.isRow = b := by
  subst h
  cases w with
  | leaf n s => exact (decide_eq_false (show ¬ ("leaf" : Str) = "row" by decide +kernel)).symm
  | lot r n ps =>
    cases r
    · exact (decide_eq_false (show ¬ ("bundle" : Str) = "row" by decide +kernel)).symm
    · exact (decide_eq_true rfl).symm
theorem bun_of {w : Pl} {b : Bool} (h : decide (w.kind = ("bundle" : Str)) = b) : w.isBun = b := by
  subst h
  cases w with
  | leaf n s => exact (decide_eq_false (show ¬ ("leaf" : Str) = "bundle" by decide +kernel)).symm
  | lot r n ps =>
    cases r
    · exact (decide_eq_true rfl).symm
    · exact (decide_eq_false (show ¬ ("row" : Str) = "bundle" by decide +kernel)).symm
section
variable {X : Cx} {E : Ent} {Γ Γ' Γ1 Γ2 : List Slot} {D : Ends} {e f g o : Expr} {es : List Expr} {rest : List Stmt} {pos p p2 apos cpos : Pos} {α β γ ι : Type} {r : Rp α} {x : α} {s : Rp β} {y : β} {ps : List Par} {ss : List Src} {k j : Nat} {u v n : Str} {i : Int} {as : List α} {c : WC} {m : Str} {pl : Sem Bool}
theorem bk_retP {is : List Nat} {ps : List Addr} {post : List Oc} (he : EvM X Γ Γ' e r x) (k : RetN E D ps post r x) (hs : StillI Γ' is ps post) : Bk X E Γ (.Return (some e) pos :: rest) D :=
  bk_of (ps_ret WE.pe) fun G H σ hh => he E G H σ hh _ fun v G1 H1 g1 h1 r1 => k v G1 H1 h1.le (StillI.ows h1 hs) r1
theorem bk_retE (he : EvM X Γ Γ' e r x) (k : RetOk E D r x) : Bk X E Γ (.Return (some e) pos :: rest) D :=
  bk_of (ps_ret WE.pe) fun G H σ hh => he E G H σ hh _ fun v G1 H1 g1 h1 r1 => k v G1 H1 h1.le r1
theorem em_ifE {p : Bool} {x' : α} (h : EvT X Γ e p) (h1 : p = true → EvM X Γ Γ' f r x) (h2 : p = false → EvM X Γ Γ' g r x') : EvM X Γ Γ' (.IfExp e f g pos) r (if p = true then x else x') := fun E G H σ hh Q k => WE.of (pe_ifExp WT.pt WE.pe WE.pe) (h E G H σ hh _ fun G1 H1 l1 => by
  cases p with
  | true =>
    rw [if_pos rfl] at k ⊢
    exact h1 rfl E G1 H1 σ (hh.step l1) Q fun a G2 H2 l2 h2 r2 => k a G2 H2 (l1.g.trans l2) h2 r2
  | false =>
    rw [if_neg Bool.false_ne_true] at k ⊢
    exact h2 rfl E G1 H1 σ (hh.step l1) Q fun a G2 H2 l2 h2 r2 => k a G2 H2 (l1.g.trans l2) h2 r2)
theorem EvM.eq {x' : α} (h : EvM X Γ Γ' e r x) (q : x = x') : EvM X Γ Γ' e r x' := q ▸ h
/-- C(e, ..) of new things and of what is only read -/
theorem ev_make {fn : Str} {C : Addr} {Pre : ι → Prop} {pars : ι → List Par} {post : ι → List Oc} {c : ι → Oc} {z : α} (h : HasI X.prog X.w X.K X.mg X.base fn C k (MSp Pre (fun y => .ow (oIns C [] []) :: pars y) rNon (fun _ => ()) (fun y => c y :: post y))) (hr : Room j X.A) (hk : k + 1 ≤ j) (y : ι) (hp : Pre y)
    (ha : EvP X Γ (e :: es) (pars y) ss) (fz : Frz (c y) r z) (nd : slOf ss = [] := by decide) (hg : Gl X fn := by rfl) (hdb : (fn == ("__debug__" : Str)) = false := by decide)
    (he : starEach (e :: es) X.env = (false, eval e X.env) :: starEach es X.env := by rfl) (hpl : (backTo pos (starEach es X.env)).any (·.1) = false := by rfl) : Ev X Γ (.Call (.Name fn p) (e :: es) [] pos) r z := fun E G H σ hh Q q => by
  obtain ⟨f0, fd, ps0, spF, dvs, ds, hm, mk, hb, hd, F, hi⟩ := h.ex
  refine WE.of (pe_make mk F (hr.mono hk) hg hm hb hd passL WA.pa hdb he hpl) ?_
  refine ha E G H σ hh _ fun vs as G1 H1 l1 n1 f1 s1 a dx na nx ne => hi (.ref a :: vs) _ _ ?_
  have g1a : G1 a = none := Evl.fresh_back l1.gh na
  have l2 : Le G1 H1 G1 (upd (upd H1 dx (.own a)) a (.ins C dx [])) := by
    have z1 : Le G1 H1 G1 (upd H1 dx (.own a)) := (Le.refl l1.gh).addO nx
    exact z1.addO (by rw [upd_ne (fun w => ne w.symm)]; exact na)
  have naa : a ∉ as := fun m => by obtain ⟨o, w⟩ := (f1.mem a m).2; rw [na] at w; cases w
  have fresh : ∀ b ∈ as, H b = none := fun b m => by
    rcases s1.mem hh m with z | ⟨i, k1, _⟩
    · exact z
    · rw [nd] at k1; simp at k1
  refine ⟨y, G1, a :: as, hp, l2.gh, List.nodup_cons.mpr ⟨naa, n1⟩, ⟨⟨rfl, g1a, _, upd_same, dx, [], rfl, trivial, rfl⟩, f1.step l2⟩, fun v G3 H3 l3 w3 r3 => ⟨r3, ?_⟩⟩
  obtain ⟨⟨ga, oa, ha3, ca⟩, _⟩ := w3
  refine q _ (upd G3 a oa) H3 ⟨(l1.g.trans l3.g).trans (Evl.Ex.new ga), fun b o z => ?_, fun b o z => ?_, fun b o z1 z2 => ?_⟩ (fz G3 a oa ga ca)
  · rcases l3.h b o (l2.h _ _ (l1.h _ _ z)) with ⟨_, w⟩ | ⟨m, _⟩
    · exact w
    · rcases List.mem_cons.mp m with rfl | m
      · rw [Evl.fresh_back l1.h na] at z; cases z
      · rw [fresh b m] at z; cases z
  · by_cases w : b = a
    · subst w; rw [upd_same] at z; cases z; exact ha3
    · rw [upd_ne w] at z; exact l3.gh b o z
  · by_cases w : b = a
    · subst w; exact Evl.fresh_back l1.h na
    · rw [upd_ne w] at z1
      cases q : G1 b with
      | some o2 => exact l1.new b o2 q z2
      | none => exact Evl.fresh_back (l1.h.trans l2.h) (l3.new b o z1 q)
end
/-! ### recursion: what is never asked holds -/
section
variable {P : Program} {w : World} {K : PySem.W.Frag} {mg : Str → Option Value} {base : Heap} {CX : CXT} {f : Addr} {fd : FuncData} {ps : List Str} {k : Nat} {sp : Sp} {c : WC} {m : Str}
theorem fn_vac (h : ∀ vs H Q E, ¬ sp vs H Q E) : FnOk P w K mg base CX k f fd ps sp :=
  ⟨fun vs H Q E z => (h vs H Q E z).elim, fun A outer s H args us vs Q E _ _ _ _ z => (h vs H Q E z).elim⟩
theorem HasV.mk {ι α : Type} {self : ι → Pl} {Pre : ι → Prop} {args : ι → List Ty} {r : Rp α} {res : ι → α} (cl : ∀ w, Cls K (c.of w)) (hm : ∀ w, Meth K (c.of w) m f) (hb : Binds K fd ps []) (F : FnOk P w K mg base (CXL P w) k f fd ps (PSp Pre (fun z => ⟨rWk K c, self z⟩ :: args z) r res)) : HasV P w K mg base c m k self Pre args r res := fun y hp =>
  (HasM.mk0 (cl _) (hm _) hb F).sub (Nat.le_refl _) fun vs H Q ⟨z, G, e, h⟩ => ⟨z, G, e ▸ hp, h⟩
theorem HasVO.mk {ι : Type} {self : ι → Pl} {Pre : ι → Prop} {args : ι → List Ty} {oc : ι → Oc} (cl : ∀ w, Cls K (c.of w)) (hm : ∀ w, Meth K (c.of w) m f) (hb : Binds K fd ps []) (F : FnOk P w K mg base (CXL P w) k f fd ps (OSp Pre (fun z => ⟨rWk K c, self z⟩ :: args z) oc)) : HasVO P w K mg base c m k self Pre args oc := fun y hp =>
  (HasM.mk0 (cl _) (hm _) hb F).sub (Nat.le_refl _) fun vs H Q ⟨z, G, e, h⟩ => ⟨z, G, e ▸ hp, h⟩
end
end Hf

namespace Hf
open PySem PySem.Spec PyProof.Rows L2 ClX
theorem nn_wk {K : PySem.W.Frag} {c : WC} : NN (rWk K c) := ⟨fun G v a h => by obtain ⟨p, _, _, _, e, _⟩ := WkAt.obj h; rw [e]; simp⟩
theorem nn_pl {K : PySem.W.Frag} : NN (rPl K) := ⟨fun G v a h => by obtain ⟨p, _, e, _⟩ := PlAt.three h; rw [e]; simp⟩
section
variable {X : Cx} {E : Ent} {Γ Γ' Γ1 Γ2 : List Slot} {D : Ends} {e f g o : Expr} {es : List Expr} {rest : List Stmt} {pos p p2 apos cpos : Pos} {α β γ ι : Type} {r : Rp α} {x : α} {as : List α}
/-- xs.pop(0) of a list that isn't empty -/
theorem em_popH (i : Nat) {d : α} {a : Str} {pq : Option Addr} {k : Nat} {cp : Pos} (hn : as ≠ []) (hg : Γ[i]? = some (.ow (oLst r as) pq))
    (hpe : PE X (.Call (.Attribute (.Name a p) "pop" apos) [.Constant (.int 0) k cp] [] cpos) (tBM X.K "list" rPopAt (tVar i) (tCons (WE X (.Constant (.int 0) k cp)) tNil)) := by exact pe_bm PySem.F.plainAttrs_list PySem.F.slot_list_pop PySem.F.type_list_pop mt_popAt (pv _) (pa_cons WE.pe pa_nil)) :
    EvM X Γ (Γ.set i (.ow (oLst r as.tail) pq)) (.Call (.Attribute (.Name a p) "pop" apos) [.Constant (.int 0) k cp] [] cpos) r (as.headD d) := by
  cases as with
  | nil => exact absurd rfl hn
  | cons b l => exact em_pop0 (x := b) (as := l) i hg hpe
theorem bk_setMg (i : Nat) {a : Str} {p : Pos} (nd : X.N.Nodup) (he : EvM X Γ Γ' e r x) (k : ∀ y, y = x → Bk X E (Γ'.set i (.sh r y)) rest D) (hi : X.N[i]? = some a := by rfl) (hx : Loc X.env.scope a := by first | exact Or.inl rfl | exact Or.inr rfl)
    (hs : swapsWith e (some (.Name a p)) pos.line X.env = pure false := by rfl) (hf : X.fn a = true ∨ X.env.scope.names.lookup a = some .local := by first | exact .inl rfl | exact .inr rfl) : Bk X E Γ (.Assign [.Name a p] e pos :: rest) D := bk_setM i nd he (k x rfl) hi hx hs hf
end
end Hf

namespace Hf
open PySem PySem.Spec PyProof.Rows L2 ClX

/-! ### an object of one's own that an expression only looks at -/
def notTup : HO → Prop
  | .tup _ => False
  | .frz _ _ => False
  | _ => True
/-- what r tells does not hang on a list, a dict, an instance -/
def Thin {α : Type} (r : Rp α) (x : α) : Prop := ∀ (G : Hp) (p : Addr) (o : HO) (v : V), notTup o → r.rel (upd G p o) v x → r.rel G v x
theorem thin_int {i : Int} : Thin rInt i := fun _ _ _ _ _ h => h
theorem thin_bool {i : Bool} : Thin rBool i := fun _ _ _ _ _ h => h
theorem thin_str {i : Str} : Thin rStr i := fun _ _ _ _ _ h => h
theorem thin_non {i : Unit} : Thin rNon i := fun _ _ _ _ _ h => h
theorem thin_opt {α : Type} {r : Rp α} (h : ∀ x, Thin r x) {o : Option α} : Thin (rOpt r) o := fun G p ob v n k => by
  cases o with
  | none => exact k
  | some a => exact h a G p ob v n k
theorem sqT_thin {K : PySem.W.Frag} {G : Hp} {p : Addr} {o : HO} {a : Addr} {vs : List V} (n : notTup o) (h : SqT K (upd G p o) a vs) : SqT K G a vs := by
  rcases h with (h | ⟨ob, h⟩) | h
  · by_cases e : a = p
    · subst e; rw [upd_same] at h; cases h; exact n.elim
    · rw [upd_ne e] at h; exact .inl (.inl h)
  · by_cases e : a = p
    · subst e; rw [upd_same] at h; cases h; exact n.elim
    · rw [upd_ne e] at h; exact .inl (.inr ⟨ob, h⟩)
  · exact .inr h
theorem thin_T2 {K : PySem.W.Frag} {α β : Type} {r : Rp α} {s : Rp β} {x : α × β} (h1 : Thin r x.1) (h2 : Thin s x.2) : Thin (rT2 K r s) x := fun G p o v n ⟨a, y, z, e, k1, k2, k3⟩ => ⟨a, y, z, e, sqT_thin n k1, h1 G p o y n k2, h2 G p o z n k3⟩
def Oc.flat (c : Oc) : Prop := ∀ G o, c.rel G o → notTup o
theorem flat_lst {α : Type} {r : Rp α} {as : List α} : (oLst r as).flat := fun G o ⟨vs, e, _⟩ => by subst e; trivial
theorem flat_ins {C : Addr} {ns : List Str} {ts : List Ty} : (oIns C ns ts).flat := fun G o ⟨dx, vs, e, _⟩ => by subst e; trivial
def cutG (G : Hp) (p : Addr) : Hp := fun a => if a = p then none else G a
theorem cutG_upd {G : Hp} {p : Addr} {o : HO} (h : G p = some o) : upd (cutG G p) p o = G := by
  funext a
  by_cases e : a = p
  · subst e; rw [upd_same, h]
  · rw [upd_ne e]; unfold cutG; rw [if_neg e]
theorem look_holds {E : Ent} {G H : Hp} {σ : L2.St} {Γ Γ1 : List Slot} {α : Type} {r : Rp α} {x : α} {c : Oc} {q : Option Addr} {i : Nat} (hh : Holds E G H σ Γ) (hg : Γ[i]? = some (.ow c q)) (fz : Frz c r x) (l : Γ1.length = Γ.length)
    (w : ∀ (j : Nat) (s : Slot), Γ1[j]? = some s → s = .no ∨ (j = i ∧ s = .sh r x) ∨ (s.isOw = false ∧ Γ[j]? = some s)) :
    ∃ p o, H p = some o ∧ G p = none ∧ c.rel G o ∧ Holds { G := upd G p o, H := H } (upd G p o) H σ Γ1 := by
  obtain ⟨p, ob, h1, h2, h3, h4, h5⟩ := hh.ow hg
  have gx : Ex G (upd G p ob) := Evl.Ex.new h2
  have gh : Ex (upd G p ob) H := fun a u z => by
    by_cases e : a = p
    · subst e; rw [upd_same] at z; cases z; exact h4
    · rw [upd_ne e] at z; exact hh.le.gh a u z
  refine ⟨p, ob, h4, h2, h5, LeE.start gh, (fun a u z => by cases z), by rw [l]; exact hh.len, fun j s e => ?_, fun j1 j2 s t e1 e2 o1 o2 z => ?_⟩
  · rcases w j s e with rfl | ⟨rfl, rfl⟩ | ⟨o1, e'⟩
    · trivial
    · exact ⟨_, h1, fz G p ob h2 h5⟩
    · have z := hh.ok j s e'
      cases s with
      | no => trivial
      | sh r' a' =>
        obtain ⟨v, z1, z2⟩ := z
        exact ⟨v, z1, r'.mono gx z2⟩
      | ow c' q' => cases o1
  · rcases w j1 s e1 with rfl | ⟨rfl, rfl⟩ | ⟨n1, _⟩
    · cases o1
    · cases o1
    · rw [n1] at o1; cases o1
theorem look_le {G H G' H' : Hp} {p : Addr} {o : HO} (hp : H p = some o) (hn : G p = none) (l : Le (upd G p o) H G' H') : Le G H (cutG G' p) H' ∧ G' p = some o := by
  have gp : G' p = some o := l.g p o upd_same
  refine ⟨⟨fun a u z => ?_, l.h, fun a u z => ?_, fun a u z1 z2 => ?_⟩, gp⟩
  · have ne : a ≠ p := fun w => by subst w; rw [hn] at z; cases z
    unfold cutG
    rw [if_neg ne]
    exact l.g a u (by rw [upd_ne ne]; exact z)
  · unfold cutG at z
    split at z
    · cases z
    · exact l.gh a u z
  · unfold cutG at z1
    split at z1
    · cases z1
    · rename_i ne
      exact l.new a u z1 (by rw [upd_ne ne]; exact z2)
section
variable {X : Cx} {E : Ent} {Γ Γ' Γ1 Γ2 : List Slot} {D : Ends} {e f g o : Expr} {es : List Expr} {rest : List Stmt} {pos p p2 apos cpos : Pos} {α β γ ι : Type} {r : Rp α} {x : α} {s : Rp β} {y : β} {as : List α}
theorem ev_look (i : Nat) {c : Oc} {q : Option Addr} (hg : Γ[i]? = some (.ow c q)) (fl : c.flat) (fz : Frz c r x) (l : Γ1.length = Γ.length) (w : ∀ (j : Nat) (s : Slot), Γ1[j]? = some s → s = .no ∨ (j = i ∧ s = .sh r x) ∨ (s.isOw = false ∧ Γ[j]? = some s))
    (th : Thin s y) (he : Ev X Γ1 e s y) : Ev X Γ e s y := fun E G H σ hh Q k => by
  obtain ⟨p, o, h1, h2, h3, h4⟩ := look_holds hh hg fz l w
  refine he _ _ _ σ h4 Q fun v G' H' l' r' => ?_
  obtain ⟨l2, gp⟩ := look_le h1 h2 l'
  refine k v (cutG G' p) H' l2 (th _ p o v (fl _ _ h3) ?_)
  rw [cutG_upd gp]
  exact r'
theorem et_look (i : Nat) {c : Oc} {q : Option Addr} {b : Bool} (hg : Γ[i]? = some (.ow c q)) (fz : Frz c r x) (l : Γ1.length = Γ.length) (w : ∀ (j : Nat) (s : Slot), Γ1[j]? = some s → s = .no ∨ (j = i ∧ s = .sh r x) ∨ (s.isOw = false ∧ Γ[j]? = some s))
    (he : EvT X Γ1 e b) : EvT X Γ e b := fun E G H σ hh Q k => by
  obtain ⟨p, o, h1, h2, h3, h4⟩ := look_holds hh hg fz l w
  exact he _ _ _ σ h4 Q fun G' H' l' => k (cutG G' p) H' (look_le h1 h2 l').1
/-- how the slots are seen: lists alike but at i, where the own thing is read; other own things left out -/
def lookS (Γ : List Slot) (i : Nat) (s : Slot) : List Slot := (Γ.map fun t => match t with | .ow _ _ => Slot.no | t => t).set i s
theorem lookS_len {i : Nat} {s : Slot} : (lookS Γ i s).length = Γ.length := by simp [lookS]
theorem lookS_ok {i : Nat} : ∀ (j : Nat) (s : Slot), (lookS Γ i (.sh r x))[j]? = some s → s = .no ∨ (j = i ∧ s = .sh r x) ∨ (s.isOw = false ∧ Γ[j]? = some s) := fun j s h => by
  unfold lookS at h
  rcases get_set h with ⟨rfl, rfl⟩ | ⟨n, h⟩
  · exact .inr (.inl ⟨rfl, rfl⟩)
  · rw [List.getElem?_map] at h
    cases e : Γ[j]? with
    | none => rw [e] at h; cases h
    | some t =>
      rw [e] at h
      cases t with
      | no => cases h; exact .inl rfl
      | sh r' a => cases h; exact .inr (.inr ⟨rfl, rfl⟩)
      | ow c q => cases h; exact .inl rfl
theorem ev_lookS (i : Nat) {c : Oc} {q : Option Addr} (hg : Γ[i]? = some (.ow c q)) (fl : c.flat) (fz : Frz c r x) (th : Thin s y) (he : Ev X (lookS Γ i (.sh r x)) e s y) : Ev X Γ e s y := ev_look i hg fl fz lookS_len lookS_ok th he
theorem et_lookS (i : Nat) {c : Oc} {q : Option Addr} {b : Bool} (hg : Γ[i]? = some (.ow c q)) (fz : Frz c r x) (he : EvT X (lookS Γ i (.sh r x)) e b) : EvT X Γ e b := et_look i hg fz lookS_len lookS_ok he
theorem bk_lookS (i : Nat) {c : Oc} {q : Addr} (hg : Γ[i]? = some (.ow c (some q))) (fz : Frz c r x) (hD : ∀ G H σ, Holds E G H σ Γ → ∀ σ' H', Ex H H' → D.nx σ' H')
    (k : ∀ E1 : Ent, (∀ σ' G' H', LeE E1.G E1.H E1.M G' H' → D.nx σ' H') → Bk X E1 (lookS Γ i (.sh r x)) rest D) : Bk X E Γ rest D := bk_look i hg fz lookS_len lookS_ok hD k
end
/-! ### what makes a work -/
def letters : Str := "abcdefghijklmnopqrstuvwxyz"
def isNameB (name : Str) : Bool := (true && ((decide ((1 : Int) ≤ (name.length : Int)) && decide ((name.length : Int) ≤ (8 : Int))) && ((signs name).map fun q => inS q letters).all id))
def arePartsB (parts : List (Int × Pl)) : Bool := (decide (1 ≤ parts.length ∧ parts.length ≤ 6)) && parts.all fun q => isNum q.1 1 100
structure LotOk (row : Bool) (n : Str) (ps : List (Int × Pl)) : Prop where
  name : isNameB n = true
  parts : arePartsB ps = true
  nodup : (Pl.lot row n ps).names.Nodup
  count : (Pl.lot row n ps).names.length ≤ 20
  deep : (Pl.lot row n ps).depth ≤ 5
def StOk (s : Option Int) : Prop := ∀ i, s = some i → isNum i 1 1000 = true
end Hf

namespace Hf
open PySem PySem.Spec PyProof.Rows L2 ClX
/-! ### a value that is known itself; a list that is new since G0 -/
def rEx {α : Type} (r : Rp α) (v0 : V) : Rp α := ⟨fun G v a => v = v0 ∧ r.rel G v a, fun e ⟨h, k⟩ => ⟨h, r.mono e k⟩⟩
def rNw (G0 : Hp) {α : Type} (r : Rp α) : Rp (List α) := ⟨fun G v as => ∃ p vs, v = .ref p ∧ G0 p = none ∧ G p = some (.lst vs) ∧ All2 r G vs as, fun e ⟨p, vs, h, h0, k, a⟩ => ⟨p, vs, h, h0, e _ _ k, a.mono e⟩⟩
section
variable {X : Cx} {E : Ent} {Γ Γ' Γ1 Γ2 : List Slot} {D : Ends} {e f g o : Expr} {es : List Expr} {rest : List Stmt} {pos p p2 apos cpos : Pos} {α β γ ι : Type} {r : Rp α} {x : α} {s : Rp β} {y : β} {as : List α} {v0 v1 : V}
theorem Ev.ex (h : Ev X Γ e (rEx r v0) x) : Ev X Γ e r x := fun E G H σ hh Q q => h E G H σ hh Q fun v G' H' l k => q v G' H' l k.2
theorem Ev.nw {G0 : Hp} (h : Ev X Γ e (rNw G0 r) as) : Ev X Γ e (rLst r) as := fun E G H σ hh Q q => h E G H σ hh Q fun v G' H' l ⟨p, vs, h1, h0, h2, h3⟩ => q v G' H' l ⟨p, vs, h1, h2, h3⟩
/-- from here on the first two slots' values are known themselves -/
theorem bk_open2 {rest' : List Slot} (hΓ : Γ = .sh r x :: .sh s y :: rest') (ho : ∀ t ∈ rest', t = .no)
    (k : ∀ (E1 : Ent) (v0 v1 : V), (∀ G' H', LeE E1.G E1.H E1.M G' H' → LeE E.G E.H E.M G' H') → (∀ a, ¬ E1.M a) → r.rel E1.G v0 x → s.rel E1.G v1 y → Bk X E1 (.sh (rEx r v0) x :: .sh (rEx s v1) y :: rest') rest D) : Bk X E Γ rest D := fun G H σ hh => by
  subst hΓ
  obtain ⟨v0, a1, a2⟩ := hh.sh (i := 0) rfl
  obtain ⟨v1, b1, b2⟩ := hh.sh (i := 1) rfl
  refine k { G := G, H := H } v0 v1 (fun G' H' l => hh.le.step (l.le fun _ z => z)) (fun _ z => z) a2 b2 G H σ ⟨LeE.start hh.le.gh, (fun a o z => by cases z), hh.len, fun i t e => ?_, fun i j t u e1 e2 o1 o2 z => ?_⟩
  · match i, e with
    | 0, e => cases e; exact ⟨v0, a1, rfl, a2⟩
    | 1, e => cases e; exact ⟨v1, b1, rfl, b2⟩
    | i + 2, e =>
      have z := ho t (List.mem_of_getElem? (by simpa using e))
      subst z
      trivial
  · match i, e1 with
    | 0, e1 => cases e1; cases o1
    | 1, e1 => cases e1; cases o1
    | i + 2, e1 =>
      have z := ho t (List.mem_of_getElem? (by simpa using e1))
      subst z
      cases o1
/-- x = e, a new list that is frozen; that it is new is kept -/
theorem bk_setN (i : Nat) {a : Str} {p : Pos} (nd : X.N.Nodup) (he : EvO X Γ e (oLst r as)) (k : Bk X E (Γ.set i (.sh (rNw E.G r) as)) rest D) (hi : X.N[i]? = some a := by rfl) (hx : Loc X.env.scope a := by first | exact Or.inl rfl | exact Or.inr rfl)
    (hs : swapsWith e (some (.Name a p)) pos.line X.env = pure false := by rfl) (hf : X.fn a = true ∨ X.env.scope.names.lookup a = some .local := by first | exact .inl rfl | exact .inr rfl) : Bk X E Γ (.Assign [.Name a p] e pos :: rest) D :=
  bk_of (ps_set nd hi hx WE.pe hs hf) fun G H σ hh => he E G H σ hh _ fun q o G1 H1 n l1 g1 h1 ⟨vs, e1, c1⟩ => by
    subst e1
    have g0 : E.G q = none := Evl.fresh_back (hh.le.g.trans hh.le.gh) n
    exact k (upd G1 q (.lst vs)) H1 _ ((hh.step (l1.frz h1 n g1)).set_sh ⟨q, vs, rfl, g0, upd_same, c1.mono (Evl.Ex.new g1)⟩)
/-- the new list is one's own again: what the first two slots hold is older -/
theorem bk_reown (i : Nat) {n : Nat} (hm : ∀ a, ¬ E.M a) (h0 : Γ[0]? = some (.sh (rEx r v0) x)) (h1 : Γ[1]? = some (.sh (rEx s v1) y)) {as : List γ} {t : Rp γ} (hi : Γ[i + 2]? = some (.sh (rNw E.G t) as)) (r0 : r.rel E.G v0 x) (r1 : s.rel E.G v1 y) (hl : Γ.length = n + 2) (hin : i < n)
    (k : ∀ (E1 : Ent) (p : Addr) (vs : List V), (∀ G' H', LeE E1.G E1.H E1.M G' H' → LeE E.G E.H E.M G' H') → Bk X E1 (.sh r x :: .sh s y :: (List.replicate n Slot.no).set i (.ow (oLst rV vs) (some p))) rest D) : Bk X E Γ rest D := fun G H σ hh => by
  obtain ⟨w0, a1, a2, _⟩ := hh.sh h0
  obtain ⟨w1, b1, b2, _⟩ := hh.sh h1
  obtain ⟨w2, c1, p, vs, c2, c3, c4, c5⟩ := hh.sh hi
  subst a2 b2 c2
  have hp : H p = some (.lst vs) := hh.le.gh _ _ c4
  have e0 : E.H p = none := hh.le.new p _ c4 c3
  have all : ∀ vs : List V, All2 rV E.G vs vs := fun vs => by
    induction vs with
    | nil => exact .nil
    | cons v l ih => exact .cons rfl ih
  refine k { G := E.G, H := H, M := fun a => a = p } p vs (fun G' H' l => ⟨l.g, fun a o z => ?_, l.gh, fun a o z1 z2 => ?_, fun a z => absurd z (hm a)⟩) E.G H σ ⟨⟨.refl _, fun a o z => ?_, hh.le.g.trans hh.le.gh, fun a o z1 z2 => ?_, fun a z => ?_⟩, (fun a o z => by cases z), ?_, fun j u e => ?_, fun j1 j2 u u' e1 e2 o1 o2 z => ?_⟩
  · have ne : a ≠ p := fun w => by subst w; rw [e0] at z; cases z
    have hz : H a = some o := by
      rcases hh.le.h a o z with ⟨_, w⟩ | ⟨m, _⟩
      · exact w
      · exact absurd m (hm a)
    rcases l.h a o hz with ⟨_, w⟩ | ⟨m, _⟩
    · exact .inl ⟨hm a, w⟩
    · exact absurd m ne
  · exact hh.le.fresh (l.new a o z1 z2)
  · by_cases w : a = p
    · exact .inr ⟨w, o, z⟩
    · exact .inl ⟨w, z⟩
  · change E.G a = some o at z1
    change E.G a = none at z2
    rw [z1] at z2
    cases z2
  · subst z
    exact ⟨c3, _, hp⟩
  · rw [hh.len, hl]
    simp
  · match j, e with
    | 0, e => cases e; exact ⟨_, a1, r0⟩
    | 1, e => cases e; exact ⟨_, b1, r1⟩
    | j + 2, e =>
      simp only [List.getElem?_cons_succ] at e
      rcases get_set e with ⟨rfl, rfl⟩ | ⟨ne, e⟩
      · exact ⟨p, _, c1, c3, ⟨rfl, rfl⟩, hp, vs, rfl, all vs⟩
      · have z := List.mem_of_getElem? e
        rw [List.mem_replicate] at z
        rw [z.2]
        trivial
  · have only : ∀ (j : Nat) (u : Slot), (Slot.sh r x :: Slot.sh s y :: (List.replicate n Slot.no).set i (.ow (oLst rV vs) (some p)))[j]? = some u → u.isOw = true → j = i + 2 := fun j u e o => by
      match j, e with
      | 0, e => cases e; cases o
      | 1, e => cases e; cases o
      | j + 2, e =>
        simp only [List.getElem?_cons_succ] at e
        rcases get_set e with ⟨rfl, rfl⟩ | ⟨ne, e⟩
        · rfl
        · have z := List.mem_of_getElem? e
          rw [List.mem_replicate] at z
          rw [z.2] at o
          cases o
    rw [only j1 u e1 o1, only j2 u' e2 o2]
end
end Hf

namespace Hf
open PySem PySem.Spec PyProof.Rows L2 ClX
/-! ### the end's small words -/
section
variable {P : Program} {w : World} {K : PySem.W.Frag} {mg : Str → Option Value} {base : Heap} {CX : CXT} {f : Addr} {fd : FuncData} {ps : List Str} {k : Nat} {c : WC} {m : Str} {C : Addr} {x : Str}
theorem vac_P {ι α : Type} {Pre : ι → Prop} {args : ι → List Ty} {r : Rp α} {res : ι → α} (h : ∀ y, ¬ Pre y) : ∀ vs H Q E, ¬ PSp Pre args r res vs H Q E := fun vs H Q E ⟨y, _, p, _⟩ => h y p
theorem vac_O {ι : Type} {Pre : ι → Prop} {args : ι → List Ty} {c : ι → Oc} (h : ∀ y, ¬ Pre y) : ∀ vs H Q E, ¬ OSp Pre args c vs H Q E := fun vs H Q E ⟨y, _, p, _⟩ => h y p
theorem vac_M {ι α : Type} {Pre : ι → Prop} {pars : ι → List Par} {r : Rp α} {res : ι → α} {post : ι → List Oc} (h : ∀ y, ¬ Pre y) : ∀ vs H Q E, ¬ MSp Pre pars r res post vs H Q E := fun vs H Q E ⟨y, _, _, p, _⟩ => h y p
theorem HasI.mk0 {sp : Sp} (hm : mg x = some (.ref C)) (mk : Mk K C f) (hb : Binds K fd ps []) (F : FnOk P w K mg base (CXL P w) k f fd ps sp) : HasI P w K mg base x C k sp :=
  ⟨f, fd, ps, sp, [], [], hm, mk, hb, .nil, F, fun vs H Q h => by rw [List.append_nil]; exact h⟩
theorem HasI.mkD {sp spF : Sp} {dvs : List V} (hm : mg x = some (.ref C)) (mk : Mk K C f) (hb : ∃ ds, Vals dvs ds ∧ Binds K fd ps ds) (F : FnOk P w K mg base (CXL P w) k f fd ps spF) (h : ∀ vs H Q, sp vs H Q E0 → spF (vs ++ dvs) H Q E0) : HasI P w K mg base x C k sp := by
  obtain ⟨ds, h1, h2⟩ := hb
  exact ⟨f, fd, ps, spF, dvs, ds, hm, mk, h2, h1, F, h⟩
end
end Hf
namespace Hf
open PySem PySem.Spec PyProof.Rows L2 ClX
section
variable {P : Program} {w : World} {K : PySem.W.Frag} {mg : Str → Option Value} {base : Heap} {f : Addr} {fd : FuncData} {ps : List Str} {k : Nat} {m : Str} {C : Addr} {x : Str}
theorem HasU.mk0 {sp : Sp} (hm : mg x = some (.ref C)) (u : Unb K C m f) (hb : Binds K fd ps []) (F : FnOk P w K mg base (CXL P w) k f fd ps sp) : HasU P w K mg base x C m k sp :=
  ⟨f, fd, ps, sp, [], [], hm, u, hb, .nil, F, fun vs H Q h => by rw [List.append_nil]; exact h⟩
/-- C.m by the class, told by a Bool -/
def unbB (K : PySem.W.Frag) (C : Addr) (m : Str) : Bool := PySem.W.readsIn K C (.type "type") && (He.eqO (PySem.W.specialIn K (.ref C) "__getattribute__") (some (some (.builtin "type.__getattribute__"))) && ((match PySem.W.findCls K (.ref C) (.type "type") m with
  | some (.val (.ref a)) => decide (a = He.ma K C m)
  | _ => false) && PySem.W.keepIn K (.ref (He.ma K C m))))
theorem unb_of (h : unbB K C m = true) : Unb K C m (He.ma K C m) := by
  obtain ⟨h1, h⟩ := He.ba h
  obtain ⟨h2, h⟩ := He.ba h
  obtain ⟨h3, h4⟩ := He.ba h
  refine ⟨⟨.type "type", ⟨h1, He.eqO_ok h2⟩, ?_⟩, h4⟩
  revert h3
  cases e : PySem.W.findCls K (.ref C) (.type "type") m with
  | none => intro z; cases z
  | some r =>
    cases r with
    | val v =>
      cases v with
      | ref a => intro z; rw [of_decide_eq_true z]
      | _ => intro z; cases z
    | _ => intro z; cases z
theorem bAt {l : List Bool} (h : l.all id = true) (i : Nat) {b : Bool} (e : l[i]? = some b) : b = true := List.all_eq_true.mp h b (List.mem_of_getElem? e)
theorem ofW {p : Addr → Prop} {c : WC} (h1 : p c.L) (h2 : p c.R) (h3 : p c.B) : ∀ w, p (c.of w) := fun w => by
  cases w with
  | leaf n s => exact h1
  | lot r n ps =>
    cases r
    · exact h3
    · exact h2
theorem meth_eq {a b : Addr} (h : Meth K C m a) (e : a = b) : Meth K C m b := e ▸ h
theorem mk_eq {a b : Addr} (h : Mk K C a) (e : a = b) : Mk K C b := e ▸ h
/-- isinstance of works -/
def kitB3 (K : PySem.W.Frag) (D : Addr) (b1 b2 b3 : Bool) : Bool := decide (PySem.W.kitOne K (.ref (cW K).L) (.ref D) = some b1) && (decide (PySem.W.kitOne K (.ref (cW K).R) (.ref D) = some b2) && decide (PySem.W.kitOne K (.ref (cW K).B) (.ref D) = some b3))
theorem kit3 {D : Addr} {b1 b2 b3 : Bool} {g : Pl → Bool} (h : kitB3 K D b1 b2 b3 = true) (g1 : ∀ n s, g (.leaf n s) = b1) (g2 : ∀ n ps, g (.lot true n ps) = b2) (g3 : ∀ n ps, g (.lot false n ps) = b3) (w : Pl) : PySem.W.kitOne K (.ref ((cW K).of w)) (.ref D) = some (g w) := by
  obtain ⟨h1, h⟩ := He.ba h
  obtain ⟨h2, h3⟩ := He.ba h
  cases w with
  | leaf n s => rw [g1]; exact of_decide_eq_true h1
  | lot r n ps =>
    cases r
    · rw [g3]; exact of_decide_eq_true h3
    · rw [g2]; exact of_decide_eq_true h2
def clsB (K : PySem.W.Frag) (C : Addr) : Bool := He.eqO (PySem.W.findIn K (.ref C) "__class__") (some (some (.builtin "object.__class__"))) && decide (PySem.W.mroIn K C (.type "object") = some true)
def tyB (K : PySem.W.Frag) : Bool := He.eqO (PySem.W.specialIn K (.builtin "object.__class__") "__get__") (some (some (.builtin "getset_descriptor.__get__"))) && decide (PySem.W.takesIn K (.builtin "object.__class__") = some true)
theorem wcTy_of (h0 : tyB K = true) (h1 : clsB K (cW K).L = true) (h2 : clsB K (cW K).R = true) (h3 : clsB K (cW K).B = true) (k0 : kitB3 K (He.ga K "Work") true true true = true) (k1 : kitB3 K (cW K).L true false false = true) (k2 : kitB3 K (cW K).R false true false = true) (k3 : kitB3 K (cW K).B false false true = true) : WcTy K (cW K) (He.ga K "Work") := by
  obtain ⟨a1, a2⟩ := He.ba h0
  obtain ⟨b1, b2⟩ := He.ba h1
  obtain ⟨c1, c2⟩ := He.ba h2
  obtain ⟨d1, d2⟩ := He.ba h3
  exact ⟨ofW (p := fun C => PySem.W.findIn K (.ref C) "__class__" = some (some (.builtin "object.__class__"))) (He.eqO_ok b1) (He.eqO_ok c1) (He.eqO_ok d1), He.eqO_ok a1, of_decide_eq_true a2,
    ofW (p := fun C => PySem.W.mroIn K C (.type "object") = some true) (of_decide_eq_true b2) (of_decide_eq_true c2) (of_decide_eq_true d2),
    kit3 (g := fun _ => true) k0 (fun _ _ => rfl) (fun _ _ => rfl) (fun _ _ => rfl), kit3 k1 (fun _ _ => rfl) (fun _ _ => rfl) (fun _ _ => rfl), kit3 k2 (fun _ _ => rfl) (fun _ _ => rfl) (fun _ _ => rfl), kit3 k3 (fun _ _ => rfl) (fun _ _ => rfl) (fun _ _ => rfl)⟩
end
end Hf

namespace Hf
open PySem PySem.Spec PyProof.Rows L2

/-! ### cells, numbers -/
theorem cell_ne {l : List Int} (h : PyData.eqv (pdInts l) (pdInts []) = false) : 0 < (l.length : Int) := by
  rw [pdInts_eqv] at h
  cases l with
  | nil => simp at h
  | cons a l => simp
theorem ifB_t {α : Type} {p : Bool} {x y : α} (h : p = true) : x = if p = true then x else y := (if_pos h).symm
theorem ifB_f {α : Type} {p : Bool} {x y : α} (h : p = false) : y = if p = true then x else y := (if_neg (by rw [h]; simp)).symm
theorem range_mem {n : Nat} {x : Int} (h : x ∈ rangeL 0 n) : 0 ≤ x ∧ x < (n : Int) := by
  obtain ⟨i, hi, rfl⟩ := List.mem_map.mp h
  have := List.mem_range.mp hi
  omega
theorem range_k {n : Nat} {x : Int} (h : x ∈ rangeL 0 n) : 0 ≤ x := (range_mem h).1
theorem range_at {n i : Nat} {x : Int} (h : (rangeL 0 n)[i]? = some x) : i < n ∧ x = (i : Int) := by
  have lt : i < n := by
    have z := (List.getElem?_eq_some_iff.mp h).1
    simpa [rangeL] using z
  refine ⟨lt, ?_⟩
  rw [rangeL, List.getElem?_map, List.getElem?_range lt] at h
  have z : x = 0 + (i : Int) := (Option.some.inj h).symm
  omega
def restOf (cell : Int) : Int := if decide (cell < 1000000000000000000) = true then ((cell % 2147483647) * 48271 + 12345) ^ (5 : Int).toNat / 1013 else cell
def numStep (s : Int × List Int) (b : Int) : Int × List Int := (s.1 / b, s.2 ++ [s.1 % b])
def numbersL (cell : Int) (bounds : List Int) : List Int := (bounds.foldl numStep (restOf cell, [])).2
theorem num_fold : ∀ (bs : List Int) (s : Int × List Int), (bs.foldl numStep s).2.length = s.2.length + bs.length
  | [], s => by simp
  | b :: bs, s => by
    rw [List.foldl_cons, num_fold bs]
    simp [numStep]
    omega
theorem num_len {bs : List Int} (h : bs.length ≤ 1000) {i : Nat} {b : Int} (m : bs[i]? = some b) {s : Int × List Int} {r : Int} (e : s = (bs.take i).foldl numStep (r, [])) : s.2.length + 1 ≤ 100000 := by
  rw [e, num_fold]
  simp only [List.length_nil, List.length_take]
  omega
theorem restOf_nn (c : Int) : 0 ≤ restOf c := by
  unfold restOf
  split
  · refine Int.ediv_nonneg ?_ (by decide)
    refine Int.pow_nonneg ?_
    have := Int.emod_nonneg c (by decide : (2147483647 : Int) ≠ 0)
    omega
  · rename_i h
    simp at h
    omega
/-! ### digits of works: three each -/
def Al : List Int → Prop
  | [] => True
  | a :: b :: c :: l => (0 ≤ a ∧ a < 4) ∧ (0 ≤ b ∧ b < 5) ∧ (0 ≤ c ∧ c < 8) ∧ Al l
  | _ => False
theorem Al.append : ∀ {l m : List Int}, Al l → Al m → Al (l ++ m)
  | [], _, _, h => h
  | [_], _, h, _ => h.elim
  | [_, _], _, h, _ => h.elim
  | a :: b :: c :: l, m, h, k => ⟨h.1, h.2.1, h.2.2.1, Al.append h.2.2.2 k⟩
theorem Al.three {l : List Int} (h : Al l) (n : l ≠ []) : ∃ a b c m, l = a :: b :: c :: m ∧ (0 ≤ a ∧ a < 4) ∧ (0 ≤ b ∧ b < 5) ∧ (0 ≤ c ∧ c < 8) ∧ Al m := by
  match l, h, n with
  | a :: b :: c :: m, h, _ => exact ⟨a, b, c, m, rfl, h⟩
theorem al_nine (c : Int) : Al (numbersL c (repL [4, 5, 8] 3)) := by
  have e : numbersL c (repL [4, 5, 8] 3) = [restOf c % 4, restOf c / 4 % 5, restOf c / 4 / 5 % 8, restOf c / 4 / 5 / 8 % 4, restOf c / 4 / 5 / 8 / 4 % 5, restOf c / 4 / 5 / 8 / 4 / 5 % 8,
      restOf c / 4 / 5 / 8 / 4 / 5 / 8 % 4, restOf c / 4 / 5 / 8 / 4 / 5 / 8 / 4 % 5, restOf c / 4 / 5 / 8 / 4 / 5 / 8 / 4 / 5 % 8] := rfl
  rw [e]
  generalize restOf c = r
  have m4 : ∀ x : Int, 0 ≤ x % 4 ∧ x % 4 < 4 := fun x => by omega
  have m5 : ∀ x : Int, 0 ≤ x % 5 ∧ x % 5 < 5 := fun x => by omega
  have m8 : ∀ x : Int, 0 ≤ x % 8 ∧ x % 8 < 8 := fun x => by omega
  exact ⟨m4 _, m5 _, m8 _, m4 _, m5 _, m8 _, m4 _, m5 _, m8 _, trivial⟩
/-! ### the work that is drawn -/
def pickSt : List (Option Int) := [(none : Option Int), (some (1 : Int)), (some (2 : Int)), (some (3 : Int)), (some (5 : Int)), (some (7 : Int)), (some (12 : Int)), (some (1000 : Int))]
def wgt (dg : List Int) : Int := if decide ((dg.getD ((2 : Int)).toNat 0) = (7 : Int)) = true then ((1 : Int) + ((dg.getD ((0 : Int)).toNat 0) * (33 : Int))) else ((1 : Int) + (dg.getD ((0 : Int)).toNat 0))
def stepW (f : List Int → List Str → Pl × List Int × List Str) (s : List (Int × Pl) × List Int × List Str) (_k : Int) : List (Int × Pl) × List Int × List Str :=
  if (decide ((1 : Int) < (s.2.2.length : Int)) && decide ((6 : Int) < (s.2.1.length : Int))) = true then
    (s.1 ++ [((if wgt s.2.1 < (100 : Int) then wgt s.2.1 else (100 : Int)), (f s.2.1 s.2.2).1)], (f s.2.1 s.2.2).2.1, (f s.2.1 s.2.2).2.2) else s
def manyW (dg : List Int) : Int := if decide ((dg.tail.headD 0) < (4 : Int)) = true then ((1 : Int) + (dg.tail.headD 0)) else (6 : Int)
def partsW (f : List Int → List Str → Pl × List Int × List Str) (dg : List Int) (nm : List Str) : List (Int × Pl) × List Int × List Str := (rangeL 0 (manyW dg).toNat).foldl (stepW f) ([], dg.tail.tail.tail, nm.tail)
/-- whether it is a leaf at once -/
def leafW (deep : Int) (dg : List Int) (nm : List Str) : Bool :=
  (decide (deep = (0 : Int)) || (decide ((dg.headD 0) < (2 : Int)) || (decide ((nm.tail.length : Int) < (3 : Int)) || decide ((dg.tail.tail.tail.length : Int) < (12 : Int)))))
def workL : Nat → List Int → List Str → Pl × List Int × List Str
  | 0, dg, nm => (.leaf (nm.headD Str.empty) (pickSt.getD (dg.tail.tail.headD 0).toNat none), dg.tail.tail.tail, nm.tail)
  | d + 1, dg, nm =>
    if leafW ((d : Int) + 1) dg nm = true then (.leaf (nm.headD Str.empty) (pickSt.getD (dg.tail.tail.headD 0).toNat none), dg.tail.tail.tail, nm.tail)
    else if (partsW (workL d) dg nm).1 = [] then (.leaf (nm.headD Str.empty) (some 3), (partsW (workL d) dg nm).2.1, (partsW (workL d) dg nm).2.2)
    else (.lot (decide ((dg.headD 0) % 2 = 0)) (nm.headD Str.empty) (partsW (workL d) dg nm).1, (partsW (workL d) dg nm).2.1, (partsW (workL d) dg nm).2.2)
mutual
def Pl.Fit : Pl → Prop
  | .leaf _ s => StOk s
  | .lot _ _ ps => arePartsB ps = true ∧ Pl.Fits ps
def Pl.Fits : List (Int × Pl) → Prop
  | [] => True
  | (_, w) :: ps => Pl.Fit w ∧ Pl.Fits ps
end
theorem Pl.fits_mem : ∀ {ps : List (Int × Pl)}, Pl.Fits ps ↔ ∀ q ∈ ps, q.2.Fit
  | [] => by simp [Pl.Fits]
  | (i, w) :: ps => by
    simp only [Pl.Fits, Pl.fits_mem (ps := ps), List.mem_cons, forall_eq_or_imp]
theorem Pl.fits_app {ps qs : List (Int × Pl)} (h : Pl.Fits ps) (k : Pl.Fits qs) : Pl.Fits (ps ++ qs) := by
  rw [Pl.fits_mem] at *
  intro q m
  rcases List.mem_append.mp m with m | m
  · exact h q m
  · exact k q m
theorem namess_app (ps qs : List (Int × Pl)) : Pl.namess (ps ++ qs) = Pl.namess ps ++ Pl.namess qs := by
  rw [Pl.namess_eq, Pl.namess_eq, Pl.namess_eq, List.flatMap_append]
theorem depths_app (ps qs : List (Int × Pl)) : Pl.depths (ps ++ qs) = max (Pl.depths ps) (Pl.depths qs) := by
  induction ps with
  | nil => simp [Pl.depths]
  | cons q ps ih => obtain ⟨i, w⟩ := q; simp only [List.cons_append, Pl.depths, ih]; omega
theorem pick_ok {i : Int} (h : 0 ≤ i ∧ i < 8) : StOk (pickSt.getD i.toNat none) := by
  have : i = 0 ∨ i = 1 ∨ i = 2 ∨ i = 3 ∨ i = 4 ∨ i = 5 ∨ i = 6 ∨ i = 7 := by omega
  rcases this with rfl | rfl | rfl | rfl | rfl | rfl | rfl | rfl <;> intro j hj <;> revert hj <;> simp [pickSt] <;> (try (rintro rfl; decide))
/-- what a drawn work is like -/
structure WOk (d : Nat) (nm : List Str) (r : Pl × List Int × List Str) : Prop where
  al : Al r.2.1
  names : r.1.names ++ r.2.2 = nm
  depth : r.1.depth ≤ d + 1
  fit : r.1.Fit
structure PtOk (d : Nat) (i : Nat) (nm : List Str) (s : List (Int × Pl) × List Int × List Str) : Prop where
  al : Al s.2.1
  names : Pl.namess s.1 ++ s.2.2 = nm
  depth : Pl.depths s.1 ≤ d + 1
  fit : Pl.Fits s.1
  len : s.1.length ≤ i
  wg : s.1.all (fun q => isNum q.1 1 100) = true
theorem wgt_pos {dg : List Int} (h : Al dg) (n : dg ≠ []) : 1 ≤ wgt dg := by
  obtain ⟨a, b, c, m, rfl, h1, h2, h3, _⟩ := h.three n
  show 1 ≤ if decide (c = 7) = true then 1 + a * 33 else 1 + a
  split <;> omega
theorem step_ok {d i : Nat} {nm : List Str} {s : List (Int × Pl) × List Int × List Str} {k : Int} (ih : ∀ dg nm, Al dg → dg ≠ [] → nm ≠ [] → WOk d nm (workL d dg nm)) (h : PtOk d i nm s) : PtOk d (i + 1) nm (stepW (workL d) s k) := by
  unfold stepW
  split
  · rename_i c
    simp at c
    have n1 : s.2.1 ≠ [] := fun z => by rw [z] at c; simp at c
    have n2 : s.2.2 ≠ [] := fun z => by rw [z] at c; simp at c
    have W := ih s.2.1 s.2.2 h.al n1 n2
    have wp := wgt_pos h.al n1
    refine ⟨W.al, ?_, ?_, Pl.fits_app h.fit ⟨W.fit, trivial⟩, by simp; exact h.len, ?_⟩
    · rw [namess_app, ← h.names]
      simp only [Pl.namess, List.append_nil, List.append_assoc]
      rw [W.names]
    · rw [depths_app]
      have := h.depth
      have := W.depth
      simp only [Pl.depths]
      omega
    · rw [List.all_append, h.wg]
      simp only [List.all_cons, List.all_nil, Bool.and_true, Bool.true_and, isNum, Bool.and_eq_true, decide_eq_true_eq]
      split <;> omega
  · exact ⟨h.al, h.names, h.depth, h.fit, by have := h.len; omega, h.wg⟩
theorem fold_ok {d : Nat} {nm : List Str} (ih : ∀ dg nm, Al dg → dg ≠ [] → nm ≠ [] → WOk d nm (workL d dg nm)) : ∀ (l : List Int) (i : Nat) (s : List (Int × Pl) × List Int × List Str), PtOk d i nm s → PtOk d (i + l.length) nm (l.foldl (stepW (workL d)) s)
  | [], i, s, h => h
  | k :: l, i, s, h => by
    rw [List.foldl_cons, List.length_cons, show i + (l.length + 1) = (i + 1) + l.length by omega]
    exact fold_ok ih l (i + 1) _ (step_ok ih h)
theorem manyW_le {dg : List Int} (h : Al dg) (n : dg ≠ []) : 1 ≤ manyW dg ∧ manyW dg ≤ 6 := by
  obtain ⟨a, b, c, m, rfl, h1, h2, h3, _⟩ := h.three n
  show 1 ≤ (if decide (b < 4) = true then 1 + b else 6) ∧ (if decide (b < 4) = true then 1 + b else 6) ≤ 6
  simp only [decide_eq_true_eq]
  split <;> omega
theorem work_ok : ∀ (d : Nat) (dg : List Int) (nm : List Str), Al dg → dg ≠ [] → nm ≠ [] → WOk d nm (workL d dg nm)
  | 0, dg, nm, h, n1, n2 => by
    obtain ⟨a, b, c, m, rfl, h1, h2, h3, h4⟩ := h.three n1
    cases nm with
    | nil => exact absurd rfl n2
    | cons x nm => exact ⟨h4, by simp [workL, Pl.names], by simp [workL, Pl.depth], pick_ok h3⟩
  | d + 1, dg, nm, h, n1, n2 => by
    have hm := manyW_le h n1
    have hP : PtOk d (0 + (rangeL 0 (manyW dg).toNat).length) nm.tail (partsW (workL d) dg nm) := by
      refine fold_ok (work_ok d) _ 0 _ ?_
      obtain ⟨a, b, c, m, rfl, h1, h2, h3, h4⟩ := h.three n1
      exact ⟨h4, by simp [Pl.namess], by simp [Pl.depths], trivial, Nat.le_refl _, rfl⟩
    obtain ⟨a, b, c, m, rfl, h1, h2, h3, h4⟩ := h.three n1
    cases nm with
    | nil => exact absurd rfl n2
    | cons x nm =>
      unfold workL
      split
      · exact ⟨h4, by simp [Pl.names], by simp [Pl.depth], pick_ok h3⟩
      · split
        · rename_i e
          have k := hP.names
          rw [e] at k
          refine ⟨hP.al, ?_, by simp [Pl.depth], fun j hj => ?_⟩
          · simp only [Pl.names, List.headD_cons, List.cons_append, List.nil_append]
            simpa [Pl.namess] using k
          · have e3 : (3 : Int) = j := Option.some.inj hj
            rw [← e3]
            decide
        · rename_i e
          have lp : 0 < (partsW (workL d) (a :: b :: c :: m) (x :: nm)).1.length := List.length_pos_iff.mpr e
          have ll := hP.len
          have lr : (rangeL 0 (manyW (a :: b :: c :: m)).toNat).length = (manyW (a :: b :: c :: m)).toNat := by simp [rangeL]
          refine ⟨hP.al, ?_, ?_, ?_, hP.fit⟩
          · have k := hP.names
            simp only [Pl.names, List.headD_cons, List.cons_append]
            rw [k]
            rfl
          · have := hP.depth
            simp only [Pl.depth]
            omega
          · unfold arePartsB
            rw [hP.wg, Bool.and_true]
            exact decide_eq_true (by omega)
end Hf

namespace Hf
open PySem PySem.Spec PyProof.Rows L2 ClX
section
variable {X : Cx} {E : Ent} {Γ Γ' Γ1 Γ2 : List Slot} {D : Ends} {e f g o elt tg iter : Expr} {es : List Expr} {rest : List Stmt} {pos p p2 apos cpos spos : Pos} {α β γ ι : Type} {r : Rp α} {x : α} {s : Rp β} {y : β} {as : List α}
theorem bk_forget (i : Nat) (k : Bk X E (Γ.set i .no) rest D) : Bk X E Γ rest D := fun G H σ hh => k G H σ (hh.forget i)
/-- x = [e for ..], a list that will change -/
theorem bk_setLcm (i : Nat) {y : Str} {py : Pos} {scope : Scope} {U : α → List Slot → List Slot} {val : α → β} (own : List (Str × Nat)) (nd : X.N.Nodup) (hi : EvI X Γ tg iter r as) (ok : BlkOk X.N X.env.scope scope own) (ht : ∀ q, TgOk (blkX X scope q) tg r U (own.map (·.2)))
    (hv : ∀ q, ∀ a ∈ as, Ev (blkX X scope q) (U a (wipeS Γ (own.map (·.2)))) elt s (val a)) (hl : as.length ≤ 100000)
    (k : Bk X E (Γ.set i (.ow (oLst s (as.map val)))) rest D) (hy : X.N[i]? = some y := by rfl) (hyl : X.env.scope.names.lookup y = some .local := by rfl)
    (hsw : swapsWith (.ListComp elt [⟨tg, iter, [], 0⟩] scope pos) (some (.Name y py)) spos.line X.env = pure true := by exact sw_true rfl rfl rfl (by decide +kernel))
    (hc : X.calm = true := by rfl) (hs : ∀ x, foldedSetIterable iter X.env x = pure x := by intro _; rfl) : Bk X E Γ (.Assign [.Name y py] (.ListComp elt [⟨tg, iter, [], 0⟩] scope pos) spos :: rest) D :=
  bk_setLc (keep := fun _ => true) (val := val) i own nd hi ok ht (fun q a m => ets_nil) (fun q a m _ => hv q a m) hl (by rw [filter_tt]; exact k) hy hyl hsw hc hs
end
/-! ### plans -/
def NameOk (n : Str) : Prop := isNameB n = true ∧ n.length ≤ 1000 ∧ NOk n
structure PlanOk (w : Pl) : Prop where
  fit : w.Fit
  names : ∀ n ∈ w.names, NameOk n
  nodup : w.names.Nodup
  count : w.names.length ≤ 20
  deep : w.depth ≤ 5
theorem names_sub {q : Int × Pl} {w : Pl} (h : q ∈ w.parts) : List.Sublist q.2.names w.names := by
  rw [Pl.names_eq w, Pl.namess_eq]
  refine List.Sublist.cons _ ?_
  obtain ⟨a, b, e⟩ := List.append_of_mem h
  rw [e, List.flatMap_append, List.flatMap_cons]
  exact (List.sublist_append_left _ _).trans (List.sublist_append_right _ _)
theorem PlanOk.part {w : Pl} {q : Int × Pl} (h : PlanOk w) (m : q ∈ w.parts) : PlanOk q.2 := by
  have s := names_sub m
  refine ⟨?_, fun n k => h.names n (s.subset k), h.nodup.sublist s, Nat.le_trans s.length_le h.count, by have := Pl.part_depth m; have := h.deep; omega⟩
  have f := h.fit
  cases w with
  | leaf n s => simp [Pl.parts] at m
  | lot r n ps => exact Pl.fits_mem.mp f.2 q m
theorem PlanOk.name {w : Pl} (h : PlanOk w) : NameOk w.name := h.names _ (by rw [Pl.names_eq]; exact List.mem_cons_self)
theorem PlanOk.lot {w : Pl} (h : PlanOk w) {row : Bool} (hr : w = .lot row w.name w.parts) : LotOk row w.name w.parts ∧ w.name.length ≤ 1000 := by
  refine ⟨⟨h.name.1, ?_, ?_, ?_, ?_⟩, h.name.2.1⟩
  · have f := h.fit
    rw [hr] at f
    exact f.1
  · rw [← hr]; exact h.nodup
  · rw [← hr]; exact h.count
  · rw [← hr]; exact h.deep
theorem PlanOk.steps {w : Pl} (h : PlanOk w) : StOk w.steps := by
  have f := h.fit
  cases w with
  | leaf n s => exact f
  | lot r n ps => intro i hi; simp [Pl.steps] at hi
theorem all_ok : ∀ {w : Pl}, (∀ n ∈ w.names, NOk n) → w.Ok := fun {w} => by
  have key : ∀ (d : Nat) (w : Pl), w.depth ≤ d → (∀ n ∈ w.names, NOk n) → w.Ok := fun d => by
    induction d with
    | zero => intro w h; have := Pl.depth_pos w; omega
    | succ d ih =>
      intro w hd hn
      cases w with
      | leaf n s => exact hn n (by simp [Pl.names])
      | lot r n ps =>
        refine ⟨hn n (by simp [Pl.names]), ?_⟩
        have k : ∀ l : List (Int × Pl), (∀ q ∈ l, q.2.Ok) → Pl.Oks l := fun l => by
          induction l with
          | nil => intro _; trivial
          | cons q l ih => intro h; exact ⟨h q List.mem_cons_self, ih fun z m => h z (List.mem_cons_of_mem _ m)⟩
        refine k ps fun q m => ih q.2 ?_ fun n hn' => hn n ?_
        · have := Pl.part_depth (w := .lot r n ps) m
          omega
        · exact (names_sub (w := .lot r _ ps) m).subset hn'
  exact key w.depth w (Nat.le_refl _)
theorem PlanOk.ok {w : Pl} (h : PlanOk w) : w.Ok := all_ok fun n m => (h.names n m).2.2
theorem PlanOk.few {w : Pl} (h : PlanOk w) : w.parts.length ≤ 6 := by
  have f := h.fit
  cases w with
  | leaf n s => simp [Pl.parts]
  | lot r n ps =>
    have := f.1
    unfold arePartsB at this
    have := of_decide_eq_true (Bool.and_eq_true_iff.mp this).1
    exact this.2
/-! ### the names -/
def namesL : List Str := ["a", "row", "leaf", "did", "found", "b", "bundle", "again", "knows", "c", "d", "e", "f", "g", "h", "zzzzzzzz", "j", "k", "l", "m"]
theorem namesL_ok : ∀ n ∈ namesL, NameOk n := by
  have h : (namesL.all fun n => isNameB n && (decide (n.length ≤ 1000) && PyData.strOk n)) = true := by decide +kernel
  intro n m
  have := List.all_eq_true.mp h n m
  simp only [Bool.and_eq_true, decide_eq_true_eq] at this
  exact ⟨this.1, this.2.1, this.2.2⟩
theorem namesL_nodup : namesL.Nodup := by decide +kernel
def turnN (start : Int) : List Str := cutL (cutL namesL (some start) none ++ cutL namesL none (some start)) none (some 16)
theorem turnN_eq {s : Int} (h : 0 ≤ s) : turnN s = (namesL.drop s.toNat ++ namesL.take s.toNat).take 16 := by
  unfold turnN
  rw [cutL_from h, cutL_to h, cutL_to (by decide)]
  rfl
theorem turnN_ok {s : Int} (h : 0 ≤ s) : (turnN s).Nodup ∧ (turnN s).length = 16 ∧ ∀ n ∈ turnN s, NameOk n := by
  have l20 : namesL.length = 20 := by decide
  have pm : (namesL.drop s.toNat ++ namesL.take s.toNat).Perm namesL := (List.perm_append_comm).trans (by rw [List.take_append_drop])
  rw [turnN_eq h]
  refine ⟨(pm.nodup_iff.mpr namesL_nodup).sublist (List.take_sublist _ _), ?_, fun n m => namesL_ok n (pm.mem_iff.mp (List.mem_of_mem_take m))⟩
  rw [List.length_take, pm.length_eq, l20]
  decide
/-! ### the plan -/
def digF (script : List Int) (at_ : Int) (a : List Int) (k : Int) : List Int := a ++ numbersL (cellAt script (at_ + k)) (repL [(4 : Int), (5 : Int), (8 : Int)] (3 : Int))
def digs (script : List Int) (at_ : Int) : List Int := (rangeL 0 ((6 : Int)).toNat).foldl (digF script at_) []
theorem digs_al (script : List Int) (at_ : Int) : Al (digs script at_) ∧ (digs script at_).length = 54 := by
  have l9 : ∀ c, (numbersL c (repL [(4 : Int), (5 : Int), (8 : Int)] (3 : Int))).length = 9 := fun c => by
    unfold numbersL
    rw [num_fold]
    rfl
  have e : rangeL 0 ((6 : Int)).toNat = [0, 1, 2, 3, 4, 5] := rfl
  unfold digs
  rw [e]
  simp only [List.foldl_cons, List.foldl_nil, digF, List.nil_append]
  refine ⟨(((((al_nine _).append (al_nine _)).append (al_nine _)).append (al_nine _)).append (al_nine _)).append (al_nine _), ?_⟩
  simp only [List.length_append, l9]
def digs1 (script : List Int) (at_ : Int) : List Int := (digs script at_).set ((0 : Int)).toNat (if decide ((0 : Int) < cellAt script at_ % (7 : Int)) = true then ((2 : Int) + ((digs script at_).getD ((0 : Int)).toNat 0) % (2 : Int)) else ((digs script at_).getD ((0 : Int)).toNat 0))
theorem digs1_al (script : List Int) (at_ : Int) : Al (digs1 script at_) ∧ digs1 script at_ ≠ [] := by
  obtain ⟨h, l⟩ := digs_al script at_
  have n : digs script at_ ≠ [] := fun z => by rw [z] at l; simp at l
  obtain ⟨a, b, c, m, e, h1, h2, h3, h4⟩ := h.three n
  unfold digs1
  rw [e]
  show Al ((if decide _ = true then 2 + a % 2 else a) :: b :: c :: m) ∧ _
  refine ⟨⟨?_, h2, h3, h4⟩, by simp⟩
  split <;> omega
def planL (script : List Int) (at_ : Int) : Pl := (workL ((3 : Int) + cellAt script (at_ + 6) % 20 % 2).toNat (digs1 script at_) (turnN (cellAt script (at_ + 6) % 20))).1
theorem planL_ok (script : List Int) (at_ : Int) : PlanOk (planL script at_) := by
  have h20 : 0 ≤ cellAt script (at_ + 6) % 20 := Int.emod_nonneg _ (by decide)
  obtain ⟨n1, n2, n3⟩ := turnN_ok h20
  obtain ⟨a1, a2⟩ := digs1_al script at_
  have W := work_ok ((3 : Int) + cellAt script (at_ + 6) % 20 % 2).toNat _ _ a1 a2 (show turnN (cellAt script (at_ + 6) % 20) ≠ [] from fun z => by rw [z] at n2; simp at n2)
  have sub : List.Sublist (planL script at_).names (turnN (cellAt script (at_ + 6) % 20)) := by
    rw [← W.names]
    exact List.sublist_append_left _ _
  refine ⟨W.fit, fun n m => n3 n (sub.subset m), n1.sublist sub, by have := sub.length_le; omega, ?_⟩
  have := W.depth
  show (planL script at_).depth ≤ 5
  have e : (workL ((3 : Int) + cellAt script (at_ + 6) % 20 % 2).toNat (digs1 script at_) (turnN (cellAt script (at_ + 6) % 20))).1 = planL script at_ := rfl
  rw [e] at this
  omega
theorem planL_depth (script : List Int) (at_ : Int) : (planL script at_).depth ≤ 5 := (planL_ok script at_).deep
end Hf

namespace Hf
open PySem PySem.Spec PyProof.Rows L2 ClX
/-! ### for the walk of _law_work -/
theorem leafW_deep {deep : Int} {dg : List Int} {nm : List Str} (h : leafW deep dg nm = false) : deep ≠ 0 := fun z => by
  subst z
  simp [leafW] at h
theorem toNat_pred {deep : Int} (h0 : 0 ≤ deep) (h : deep ≠ 0) : ∃ d : Nat, deep = (d : Int) + 1 ∧ deep.toNat = d + 1 ∧ (deep - 1).toNat = d := ⟨(deep - 1).toNat, by omega, by omega, rfl⟩
theorem work_leaf {deep : Int} {dg : List Int} {nm : List Str} (h0 : 0 ≤ deep) (h : leafW deep dg nm = true) :
    workL deep.toNat dg nm = (.leaf (nm.headD Str.empty) (pickSt.getD (dg.tail.tail.headD 0).toNat none), dg.tail.tail.tail, nm.tail) := by
  by_cases z : deep = 0
  · subst z
    rfl
  · obtain ⟨d, e1, e2, _⟩ := toNat_pred h0 z
    rw [e2]
    unfold workL
    rw [if_pos (by rw [← e1]; exact h)]
theorem work_none {deep : Int} {dg : List Int} {nm : List Str} (h0 : 0 ≤ deep) (h : leafW deep dg nm = false) (e : (partsW (workL (deep - 1).toNat) dg nm).1 = []) :
    workL deep.toNat dg nm = (.leaf (nm.headD Str.empty) (some 3), (partsW (workL (deep - 1).toNat) dg nm).2.1, (partsW (workL (deep - 1).toNat) dg nm).2.2) := by
  obtain ⟨d, e1, e2, e3⟩ := toNat_pred h0 (leafW_deep h)
  rw [e3] at e ⊢
  rw [e2]
  conv => lhs; unfold workL
  rw [if_neg (by rw [← e1, h]; simp), if_pos e]
theorem work_lot {deep : Int} {dg : List Int} {nm : List Str} (h0 : 0 ≤ deep) (h : leafW deep dg nm = false) (e : (partsW (workL (deep - 1).toNat) dg nm).1 ≠ []) :
    workL deep.toNat dg nm = (.lot (decide ((dg.headD 0) % 2 = 0)) (nm.headD Str.empty) (partsW (workL (deep - 1).toNat) dg nm).1, (partsW (workL (deep - 1).toNat) dg nm).2.1, (partsW (workL (deep - 1).toNat) dg nm).2.2) := by
  obtain ⟨d, e1, e2, e3⟩ := toNat_pred h0 (leafW_deep h)
  rw [e3] at e ⊢
  rw [e2]
  conv => lhs; unfold workL
  rw [if_neg (by rw [← e1, h]; simp), if_neg e]
theorem nil_of {ps : List (Int × Pl)} (h : PyData.eqv (.list (pdPs ps)) (.list []) = true) : ps = [] := by
  cases ps with
  | nil => rfl
  | cons q ps => obtain ⟨i, w⟩ := q; simp [pdPs, PyData.eqv, PyData.eqvAll] at h
theorem nil_not {ps : List (Int × Pl)} (h : PyData.eqv (.list (pdPs ps)) (.list []) = false) : ps ≠ [] := fun z => by
  subst z
  simp [pdPs, PyData.eqv, PyData.eqvAll] at h
theorem row_kind (k : Int) (n : Str) (ps : List (Int × Pl)) : [("row" : Str), ("bundle" : Str)].getD (k % 2).toNat Str.empty = (Pl.lot (decide (k % 2 = 0)) n ps).kind := by
  rcases (by omega : k % 2 = 0 ∨ k % 2 = 1) with e | e
  · rw [e]; rfl
  · rw [e]; rfl
theorem lt6 {a b : Nat} (h : (decide ((1 : Int) < (a : Int)) && decide ((6 : Int) < (b : Int))) = true) : 1 < a ∧ 6 < b := by
  simp at h
  omega
structure StW (d i : Nat) (nm : List Str) (s : List (Int × Pl) × List Int × List Str) : Prop where
  pt : PtOk d i nm s
  len : s.1.length + 1 ≤ 100000
  nl : s.2.2.length ≤ nm.length
  nok : (∀ n ∈ nm, NameOk n) → ∀ n ∈ s.2.2, NameOk n
theorem st_of_pt {d i : Nat} {nm : List Str} {s : List (Int × Pl) × List Int × List Str} (h : PtOk d i nm s) (hi : i ≤ 6) : StW d i nm s :=
  ⟨h, by have := h.len; omega, by have z := congrArg List.length h.names; rw [List.length_append] at z; omega, fun k n m => k n (by rw [← h.names]; exact List.mem_append_right _ m)⟩
theorem pt0 {d : Nat} {dg : List Int} {nm : List Str} (h : Al dg) (n : dg ≠ []) : PtOk d 0 nm.tail ([], dg.tail.tail.tail, nm.tail) := by
  obtain ⟨a, b, c, m, rfl, h1, h2, h3, h4⟩ := h.three n
  exact ⟨h4, by simp [Pl.namess], by simp [Pl.depths], trivial, Nat.le_refl _, rfl⟩
theorem work_st {d i : Nat} {dg : List Int} {nm : List Str} {k : Int} (h : Al dg) (n : dg ≠ []) (m : (rangeL 0 (manyW dg).toNat)[i]? = some k) {s : List (Int × Pl) × List Int × List Str} (e : s = ((rangeL 0 (manyW dg).toNat).take i).foldl (stepW (workL d)) ([], dg.tail.tail.tail, nm.tail)) : StW d i nm.tail s := by
  have hi := (range_at m).1
  have hm := manyW_le h n
  have z := fold_ok (work_ok d) ((rangeL 0 (manyW dg).toNat).take i) 0 _ (pt0 (d := d) (nm := nm) h n)
  rw [← e] at z
  have l : ((rangeL 0 (manyW dg).toNat).take i).length = i := by simp [rangeL]; omega
  rw [l, Nat.zero_add] at z
  exact st_of_pt z (by omega)
theorem work_parts {d : Nat} {dg : List Int} {nm : List Str} (h : Al dg) (n : dg ≠ []) (hn : ∀ x ∈ nm, NameOk x) (hd : d ≤ 6) : Pl.Oks (partsW (workL d) dg nm).1 ∧ Pl.depths (partsW (workL d) dg nm).1 ≤ 20 := by
  have z := fold_ok (work_ok d) (rangeL 0 (manyW dg).toNat) 0 _ (pt0 (d := d) (nm := nm) h n)
  refine ⟨?_, Nat.le_trans z.depth (by omega)⟩
  have ok : ∀ l : List (Int × Pl), (∀ q ∈ l, ∀ x ∈ q.2.names, NOk x) → Pl.Oks l := fun l => by
    induction l with
    | nil => intro _; trivial
    | cons q l ih => intro h; exact ⟨all_ok (h q List.mem_cons_self), ih fun y m => h y (List.mem_cons_of_mem _ m)⟩
  refine ok _ fun q m x hx => (hn x (List.mem_of_mem_tail ?_)).2.2
  rw [← z.names]
  refine List.mem_append_left _ ?_
  rw [Pl.namess_eq]
  exact List.mem_flatMap.mpr ⟨q, m, hx⟩
theorem work_pre {deep : Int} {d i : Nat} {nm : List Str} {s : List (Int × Pl) × List Int × List Str} (hst : StW (deep - 1).toNat i nm.tail s) (c : (decide ((1 : Int) < (s.2.2.length : Int)) && decide ((6 : Int) < (s.2.1.length : Int))) = true) (h0 : 0 ≤ deep ∧ deep ≤ 6) (hz : deep ≠ 0) (hd : deep.toNat < d + 1)
    (hl : nm.length ≤ 100) (hn : ∀ x ∈ nm, NameOk x) : (Al s.2.1 ∧ s.2.1 ≠ [] ∧ s.2.2 ≠ [] ∧ (0 ≤ deep - 1 ∧ deep - 1 ≤ 6) ∧ s.2.2.length ≤ 100 ∧ ∀ x ∈ s.2.2, NameOk x) ∧ (deep - 1).toNat < d := by
  have l := lt6 c
  refine ⟨⟨hst.pt.al, fun z => by rw [z] at l; simp at l, fun z => by rw [z] at l; simp at l, by omega, ?_, hst.nok fun x m => hn x (List.mem_of_mem_tail m)⟩, by omega⟩
  have := hst.nl
  rw [List.length_tail] at this
  omega
end Hf
namespace Hf
open PySem PySem.Spec PyProof.Rows L2 ClX
/-! ### for the walk of _law_plan, _law_all -/
theorem nine_pre : (∀ b ∈ repL [(4 : Int), (5 : Int), (8 : Int)] (3 : Int), 0 < b ∧ b < 1073741824) ∧ (repL [(4 : Int), (5 : Int), (8 : Int)] (3 : Int)).length ≤ 1000 := by
  have e : repL [(4 : Int), (5 : Int), (8 : Int)] (3 : Int) = [4, 5, 8, 4, 5, 8, 4, 5, 8] := rfl
  rw [e]
  decide
theorem nine_len (c : Int) : (numbersL c (repL [(4 : Int), (5 : Int), (8 : Int)] (3 : Int))).length = 9 := by
  unfold numbersL
  rw [num_fold]
  rfl
theorem digs_fold (script : List Int) (at_ : Int) : ∀ (l : List Int) (a : List Int), (l.foldl (digF script at_) a).length = a.length + 9 * l.length
  | [], a => by simp
  | k :: l, a => by
    rw [List.foldl_cons, digs_fold script at_ l]
    simp only [digF, List.length_append, nine_len, List.length_cons]
    omega
theorem digs_cat {script : List Int} {at_ k : Int} {i : Nat} (m : (rangeL 0 ((6 : Int)).toNat)[i]? = some k) {s : List Int} (e : s = ((rangeL 0 ((6 : Int)).toNat).take i).foldl (digF script at_) []) {c : Int} : s.length + (numbersL c (repL [(4 : Int), (5 : Int), (8 : Int)] (3 : Int))).length ≤ sizeLine := by
  have hi := (range_at m).1
  rw [e, digs_fold, nine_len, List.length_take]
  simp only [List.length_nil]
  have : ((6 : Int)).toNat = 6 := rfl
  exact Evl.sz_of (by omega)
theorem digs_len {script : List Int} {at_ : Int} : ((rangeL 0 ((6 : Int)).toNat).foldl (digF script at_) []).length = 54 := by
  rw [digs_fold]
  rfl
theorem turn_cat {s c : Int} (h : s = c % 20) : (cutL namesL (some s) none).length + (cutL namesL none (some s)).length ≤ sizeLine := by
  have : 0 ≤ s := by omega
  rw [cutL_from this, cutL_to this, List.length_drop, List.length_take]
  have l20 : namesL.length = 20 := by decide
  exact Evl.sz_of (by omega)
theorem plan_pre {script : List Int} {at_ s : Int} (h : s = cellAt script (at_ + 6) % 20) :
    (Al (digs1 script at_) ∧ digs1 script at_ ≠ [] ∧ turnN s ≠ [] ∧ (0 ≤ (3 : Int) + s % 2 ∧ (3 : Int) + s % 2 ≤ 6) ∧ (turnN s).length ≤ 100 ∧ ∀ x ∈ turnN s, NameOk x) ∧ ((3 : Int) + s % 2).toNat < 6 := by
  have h20 : 0 ≤ s := by omega
  obtain ⟨n1, n2, n3⟩ := turnN_ok h20
  obtain ⟨a1, a2⟩ := digs1_al script at_
  exact ⟨⟨a1, a2, fun z => by rw [z] at n2; simp at n2, by omega, by omega, n3⟩, by omega⟩
theorem plan_pre2 {script : List Int} {at_ v : Int} {s : List Int} (hs : s = (rangeL 0 ((6 : Int)).toNat).foldl (digF script at_) []) (h : v = cellAt script (at_ + 6) % 20) :
    (Al (s.set ((0 : Int)).toNat (if decide ((0 : Int) < cellAt script at_ % (7 : Int)) = true then ((2 : Int) + (s.getD ((0 : Int)).toNat 0) % (2 : Int)) else (s.getD ((0 : Int)).toNat 0))) ∧
      s.set ((0 : Int)).toNat (if decide ((0 : Int) < cellAt script at_ % (7 : Int)) = true then ((2 : Int) + (s.getD ((0 : Int)).toNat 0) % (2 : Int)) else (s.getD ((0 : Int)).toNat 0)) ≠ [] ∧
      turnN v ≠ [] ∧ (0 ≤ (3 : Int) + v % 2 ∧ (3 : Int) + v % 2 ≤ 6) ∧ (turnN v).length ≤ 100 ∧ ∀ x ∈ turnN v, NameOk x) ∧ ((3 : Int) + v % 2).toNat < 6 := by
  subst hs
  exact plan_pre h
theorem all_names : ∀ (w : Pl), w.all.map Pl.name = w.names := fun w => by
  have key : ∀ (d : Nat) (w : Pl), w.depth ≤ d → w.all.map Pl.name = w.names := fun d => by
    induction d with
    | zero => intro w h; have := Pl.depth_pos w; omega
    | succ d ih =>
      intro w hd
      rw [Pl.all_eq, Pl.names_eq, Pl.alls_eq, Pl.namess_eq, List.map_cons, List.map_flatMap]
      congr 1
      have k : ∀ l : List (Int × Pl), (∀ q ∈ l, q.2.depth ≤ d) → (l.flatMap fun a => a.2.all.map Pl.name) = l.flatMap fun q => q.2.names := fun l => by
        induction l with
        | nil => intro _; rfl
        | cons q l ih2 =>
          intro h
          rw [List.flatMap_cons, List.flatMap_cons, ih _ (h q List.mem_cons_self), ih2 fun z m => h z (List.mem_cons_of_mem _ m)]
      exact k _ fun q m => by have := Pl.part_depth m; omega
  exact key w.depth w (Nat.le_refl _)
theorem all_len (w : Pl) : w.all.length = w.names.length := by rw [← all_names, List.length_map]
theorem all_foldl : ∀ (ps : List (Int × Pl)) (a : List Pl), ps.foldl (fun (a : List Pl) (q : Int × Pl) => a ++ q.2.all) a = a ++ Pl.alls ps
  | [], a => by simp [Pl.alls]
  | (i, w) :: ps, a => by
    rw [List.foldl_cons, all_foldl ps]
    simp [Pl.alls]
theorem all_done (w : Pl) : w.all = w.parts.foldl (fun (a : List Pl) (q : Int × Pl) => a ++ q.2.all) [w] := by
  rw [all_foldl, Pl.all_eq]
  rfl
theorem all_leaf {w : Pl} {b : Bool} (h : w.isLeaf = b) (hb : b = true := by rfl) : w.all = [w] := by
  subst hb
  cases w with
  | leaf n s => rfl
  | lot r n ps => simp [Pl.isLeaf] at h
theorem names_foldl' : ∀ (ps : List (Int × Pl)) (a : List Str), ps.foldl (fun (a : List Str) (q : Int × Pl) => a ++ q.2.names) a = a ++ Pl.namess ps
  | [], a => by simp [Pl.namess]
  | (i, w) :: ps, a => by
    rw [List.foldl_cons, names_foldl' ps]
    simp [Pl.namess]
theorem all_fold {w : Pl} {i : Nat} {s : List Pl} (h : s = (w.parts.take i).foldl (fun (a : List Pl) (q : Int × Pl) => a ++ q.2.all) [w]) : s.length ≤ w.names.length := by
  rw [h, all_foldl, ← all_len w, Pl.all_eq w]
  have : (Pl.alls (w.parts.take i)).length ≤ (Pl.alls w.parts).length := by
    rw [Pl.alls_eq, Pl.alls_eq, List.length_flatMap, List.length_flatMap]
    conv => rhs; rw [← List.take_append_drop i w.parts]
    rw [List.map_append, List.sum_append]
    omega
  simp only [List.length_append, List.length_cons, List.length_nil]
  omega
end Hf

namespace Hf
open PySem PySem.Spec PyProof.Rows L2 ClX
theorem leaf_eta {w : Pl} (h : w.isLeaf = true) : w = .leaf w.name w.steps := by
  cases w with
  | leaf n s => rfl
  | lot r n ps => simp [Pl.isLeaf] at h
theorem map_eta (ps : List (Int × Pl)) : (ps.map fun q : Int × Pl => (q.1, q.2)) = ps := by
  induction ps with
  | nil => rfl
  | cons q ps ih => rw [List.map_cons, ih]
theorem row_eta {w : Pl} (h : w.isLeaf = false) : w = .lot (decide (w.kind = ("row" : Str))) w.name w.parts := by
  cases w with
  | leaf n s => simp [Pl.isLeaf] at h
  | lot r n ps =>
    have z := row_of (w := .lot r n ps) rfl
    rw [← z]
    cases r <;> rfl
theorem made_lot {w : Pl} (h : PlanOk w) (hl : w.isLeaf = false) {b : Bool} (hk : decide (w.kind = ("row" : Str)) = b) : LotOk b w.name (w.parts.map fun q : Int × Pl => (q.1, q.2)) ∧ w.name.length ≤ 1000 := by
  rw [map_eta]
  have e := row_eta hl
  rw [hk] at e
  exact h.lot e
theorem made_eq {w : Pl} (hl : w.isLeaf = false) : w = if decide (w.kind = ("row" : Str)) = true then Pl.lot true w.name (w.parts.map fun q : Int × Pl => (q.1, q.2)) else Pl.lot false w.name (w.parts.map fun q : Int × Pl => (q.1, q.2)) := by
  rw [map_eta]
  have e := row_eta hl
  cases hk : decide (w.kind = ("row" : Str)) with
  | true => rw [hk] at e; exact e
  | false => rw [hk] at e; exact e
theorem zz_ok : isNameB "zz" = true ∧ ("zz" : Str).length ≤ 1000 := by decide +kernel
theorem sorts_eq (w : Pl) : [w.isLeaf, w.isRow, w.isBun] = [decide (w.kind = ("leaf" : Str)), decide (w.kind = ("row" : Str)), decide (w.kind = ("bundle" : Str))] := by
  rw [leaf_of rfl, row_of rfl, bun_of rfl]
theorem leaf_steps {w : Pl} (h : w.isLeaf = true) : w.parts = [] := by
  cases w with
  | leaf n s => rfl
  | lot r n ps => simp [Pl.isLeaf] at h
theorem lot_steps {w : Pl} (h : w.isLeaf = false) : w.steps = none := by
  cases w with
  | leaf n s => simp [Pl.isLeaf] at h
  | lot r n ps => rfl
theorem zip_self {α : Type} {l : List α} {q : α × α} (h : q ∈ l.zip l) : q.1 = q.2 ∧ q.1 ∈ l := by
  induction l with
  | nil => simp at h
  | cons a l ih =>
    rw [List.zip_cons_cons] at h
    rcases List.mem_cons.mp h with rfl | h
    · exact ⟨rfl, List.mem_cons_self⟩
    · exact ⟨(ih h).1, List.mem_cons_of_mem _ (ih h).2⟩
theorem pdStrs_nil {l : List Str} : PyData.eqv (pdStrs l) (.list []) = decide (l = []) := by
  have z := pdStrs_eqv (a := l) (b := [])
  exact z
theorem names_ne (w : Pl) : w.names ≠ [] := by rw [Pl.names_eq]; simp
end Hf

namespace Hf
open PySem PySem.Spec PyProof.Rows L2 ClX
def top (i : Nat) : Stmt := PySem.Challenge.pw_howfar_k01_works.main.body.getD i (.Pass ⟨0, 0, 0, 0⟩)
structure Facts (K : PySem.W.Frag) (mg : Str → Option Value) : Prop where
  f_len : mg "len" = none
  f_abs : mg "abs" = none
  f_all : mg "all" = none
  f_isinstance : mg "isinstance" = none
  f_tuple : mg "tuple" = none
  f_list : mg "list" = none
  f_int : mg "int" = none
  f_str : mg "str" = none
  f_bool : mg "bool" = none
  f_range : mg "range" = none
  f_max : mg "max" = none
  f_min : mg "min" = none
  f_set : mg "set" = none
  f_zip : mg "zip" = none
  f_sum : mg "sum" = none
  g_LONGEST : ∃ t, mg "LONGEST" = some (.int 8 t)
  g_STEPS : ∃ t, mg "STEPS" = some (.int 1000 t)
  g_WEIGHT : ∃ t, mg "WEIGHT" = some (.int 100 t)
  g_PARTS : ∃ t, mg "PARTS" = some (.int 6 t)
  g_WORKS : ∃ t, mg "WORKS" = some (.int 20 t)
  g_DEEP : ∃ t, mg "DEEP" = some (.int 5 t)
  g_LETTERS : ∃ t, mg "LETTERS" = some (.str letters t)
  c_Work : mg "Work" = some (.ref (He.ga K "Work"))
  c_Leaf : mg "Leaf" = some (.ref (He.ga K "Leaf"))
  c_Row : mg "Row" = some (.ref (He.ga K "Row"))
  c_Bundle : mg "Bundle" = some (.ref (He.ga K "Bundle"))
  ok : WcOk K (cW K)
  ty : WcTy K (cW K) (He.ga K "Work")
section
variable {P : Program} {w : World} {K : PySem.W.Frag} {mg : Str → Option Value} {base : Heap}
abbrev s_is_number : Stmt := top 12
theorem sc_is_number : FnScope ["thing", "least", "most"] ["thing", "least", "most"] (defScope s_is_number) := ⟨rfl, rfl, rfl, by decide +kernel, rfl, by decide +kernel, by decide +kernel⟩
abbrev sp_is_number (K : PySem.W.Frag) : Sp := PSp (fun y : Int × Int × Int => True) (fun y => [⟨rInt, y.1⟩, ⟨rInt, y.2.1⟩, ⟨rInt, y.2.2⟩]) rBool (fun y => isNum y.1 y.2.1 y.2.2)
theorem ok_is_number {f : Addr} {fd : FuncData} (F : FunD K "is_number" "is_number" (defArgs s_is_number) (defBody s_is_number) (defScope s_is_number) [] [] f fd) (T : Facts K mg)  : FnOk P w K mg base (CXL P w) 1 f fd ["thing", "least", "most"] (sp_is_number K) := by
  refine fn_pure F sc_is_number (fun _ => rfl) fun y hp cdv A outer s H E0 G D hr hret hnx => ?_
  obtain ⟨thing, least, most⟩ := y
  try dsimp only at hp hret hnx
  exact bk_ret (x := (true && ((!false) && (decide (least ≤ thing) && decide (thing ≤ most))))) (ev_and (ev_isi (T := "int") (C := "int") (b := true) (ev_v 0) kind_int (by decide +kernel) T.f_isinstance T.f_int (by decide +kernel)) (fun q1 => (ev_and (ev_not (ev_isi (T := "int") (C := "bool") (b := false) (ev_v 0) kind_int (by decide +kernel) T.f_isinstance T.f_bool (by decide +kernel))) (fun q2 => (ev_one (ev_chain op_le op_le (ev_v 1) (ev_v 0) (fun q3 => (ev_v 2)) gv_le (fun _ => gv_le))))))) (hret.eq (by simp [isNum]))
abbrev s_is_name : Stmt := top 13
theorem sc_is_name : FnScope ["name", "sign"] ["name"] (defScope s_is_name) := ⟨rfl, rfl, rfl, by decide +kernel, rfl, by decide +kernel, by decide +kernel⟩
abbrev sp_is_name (K : PySem.W.Frag) : Sp := PSp (fun y : Str => y.length ≤ 1000) (fun y => [⟨rStr, y⟩]) rBool (fun y => isNameB y)
theorem ok_is_name {f : Addr} {fd : FuncData} (F : FunD K "is_name" "is_name" (defArgs s_is_name) (defBody s_is_name) (defScope s_is_name) [] [] f fd) (T : Facts K mg)  : FnOk P w K mg base (CXL P w) 1 f fd ["name"] (sp_is_name K) := by
  refine fn_pure F sc_is_name (fun _ => rfl) fun name hp cdv A outer s H E0 G D hr hret hnx => ?_
  try dsimp only at hp hret hnx
  exact bk_ret (x := (true && ((decide ((1 : Int) ≤ (name.length : Int)) && decide ((name.length : Int) ≤ (8 : Int))) && (((signs name).map (fun q4 : Str => (inS q4 letters))).all id)))) (ev_and (ev_isi (T := "str") (C := "str") (b := true) (ev_v 0) kind_str (by decide +kernel) T.f_isinstance T.f_str (by decide +kernel)) (fun q1 => (ev_and (ev_chain op_le op_le ev_int (ev_lenT (u := name) (ev_v 0) (Evl.sz_of (by omega)) T.f_len) (fun q2 => (ev_gint T.g_LONGEST)) gv_le (fun _ => gv_le)) (fun q3 => (ev_one (ev_all (EvO.bor (eo_lcm (val := fun q4 : Str => (inS q4 letters)) [("sign", 1)] sc_is_name.nd (ei_str (ev_v 0)) (blkOk_by (N := ["name", "sign"]) (sc := defScope s_is_name) (by decide +kernel)) (fun _ => (tg_name 1 sc_is_name.nd)) (fun _ q4 q5 => (ev_inS (u := q4) (v := letters) (signs_one q5) (ev_v 1) (ev_gstr T.g_LETTERS))) (by simp [signs]; exact Nat.le_trans hp (by decide)))) T.f_all)))))) (hret.eq rfl)
abbrev s_are_parts : Stmt := top 16
theorem parts_end {parts : List (Int × Pl)} (h : (!true || !(decide ((1 : Int) ≤ (parts.length : Int)) && decide ((parts.length : Int) ≤ (6 : Int)))) = false) : arePartsB parts = (parts.map fun q : Int × Pl => (isNum q.1 1 100 && true)).all id := by
  simp at h
  unfold arePartsB
  rw [decide_eq_true (by omega)]
  simp only [List.all_map, Bool.true_and, Bool.and_true]
  rfl
theorem sc_are_parts : FnScope ["parts", "part"] ["parts"] (defScope s_are_parts) := ⟨rfl, rfl, rfl, by decide +kernel, rfl, by decide +kernel, by decide +kernel⟩
abbrev sp_are_parts (K : PySem.W.Frag) : Sp := PSp (fun y : (List (Int × Pl)) => y.length ≤ 100000) (fun y => [⟨(rLst (rT2 K rInt (rWk K (cW K)))), y⟩]) rBool (fun y => arePartsB y)
theorem ok_are_parts {f : Addr} {fd : FuncData} (F : FunD K "are_parts" "are_parts" (defArgs s_are_parts) (defBody s_are_parts) (defScope s_are_parts) [] [] f fd) (T : Facts K mg) (h_is_number : Has P w K mg base "is_number" 1 (sp_is_number K)) : FnOk P w K mg base (CXL P w) 2 f fd ["parts"] (sp_are_parts K) := by
  refine fn_pure F sc_are_parts (fun _ => rfl) fun parts hp cdv A outer s H E0 G D hr hret hnx => ?_
  try dsimp only at hp hret hnx
  refine bk_if (p := ((!true) || (!(decide ((1 : Int) ≤ (parts.length : Int)) && decide ((parts.length : Int) ≤ (6 : Int)))))) (et_bool (ew_or (et_not (et_val (ev_isi (T := "list") (C := "list") (b := true) (ev_v 0) kind_lst (by decide +kernel) T.f_isinstance T.f_list (by decide +kernel)))) (fun q1 => (ew_or1 (et_not (et_chain op_le op_le ev_int (ev_lenB (Ev.bor (ev_v 0)) T.f_len) (fun q2 => (ev_gint T.g_PARTS)) gv_le (fun _ => gv_le))))))) (fun c_1 => ?_) (fun c_1 => ?_)
  · exact bk_ret (x := false) ev_bool (hret.eq (by unfold arePartsB; simp at c_1; rw [decide_eq_false (by omega)]; rfl))
  · refine bk_then ?_
    refine bk_if (p := (!((parts.map (fun q3 : (Int × Pl) => (true && decide ((2 : Int) = (2 : Int))))).all id))) (et_not (et_val (ev_all (EvO.bor (eo_lcm (val := fun q3 : (Int × Pl) => (true && decide ((2 : Int) = (2 : Int)))) [("part", 1)] sc_are_parts.nd (ei_lst (ev_v 0)) (blkOk_by (N := ["parts", "part"]) (sc := defScope s_are_parts) (by decide +kernel)) (fun _ => (tg_name 1 sc_are_parts.nd)) (fun _ q3 q4 => (ev_and (ev_isi (T := "tuple") (C := "tuple") (b := true) (ev_v 1) kind_T2 (by decide +kernel) T.f_isinstance T.f_tuple (by decide +kernel)) (fun q5 => (ev_one (ev_eqI (ev_lenT2 (ev_v 1) T.f_len) ev_int))))) (by first | decide | omega | assumption | (simp [rangeL]; done) | (simp; omega)))) T.f_all))) (fun c_2 => ?_) (fun c_2 => ?_)
    · exact bk_ret (x := false) ev_bool (hret.eq (absurd c_2 (by simp)))
    · refine bk_then ?_
      exact bk_ret (x := ((parts.map (fun q6 : (Int × Pl) => ((isNum q6.1 (1 : Int) (100 : Int)) && true))).all id)) (ev_all (EvO.bor (eo_lcm (val := fun q6 : (Int × Pl) => ((isNum q6.1 (1 : Int) (100 : Int)) && true)) [("part", 1)] sc_are_parts.nd (ei_lst (ev_v 0)) (blkOk_by (N := ["parts", "part"]) (sc := defScope s_are_parts) (by decide +kernel)) (fun _ => (tg_name 1 sc_are_parts.nd)) (fun _ q6 q7 => (ev_and (ev_call h_is_number hr (by first | decide | omega) (q6.1, (1 : Int), (100 : Int)) trivial (ea_cons (ev_fst (ev_v 1)) (ea_cons ev_int (ea_cons (ev_gint T.g_WEIGHT) ea_nil)))) (fun q8 => (ev_one (ev_isiC (b := true) (ev_snd (ev_v 1)) (kind_wk T.ok T.ty) (T.ty.work q6.2) T.f_isinstance T.c_Work))))) (by first | decide | omega | assumption | (simp [rangeL]; done) | (simp; omega)))) T.f_all) (hret.eq (parts_end c_1))
abbrev s_Work_names : Stmt := inClass (top 14) 4
theorem names_part {q : Int × Pl} {w : Pl} (h : q ∈ w.parts) : q.2.names.length ≤ w.names.length := by
  rw [Pl.names_eq w, Pl.namess_eq, List.length_cons, List.length_flatMap]
  have : ∀ l : List (Int × Pl), q ∈ l → q.2.names.length ≤ (l.map fun q => q.2.names.length).sum := fun l => by
    induction l with
    | nil => intro h; simp at h
    | cons a l ih =>
      intro h
      rcases List.mem_cons.mp h with rfl | h
      · simp
      · have := ih h
        simp only [List.map_cons, List.sum_cons]
        omega
  have := this _ h
  omega
theorem names_foldl : ∀ (ps : List (Int × Pl)) (a : List Str), ps.foldl (fun (a : List Str) (q : Int × Pl) => a ++ q.2.names) a = a ++ Pl.namess ps
  | [], a => by simp [Pl.namess]
  | (i, w) :: ps, a => by
    rw [List.foldl_cons, names_foldl ps]
    simp [Pl.namess]
theorem names_done (w : Pl) : w.names = w.parts.foldl (fun (a : List Str) (q : Int × Pl) => a ++ q.2.names) [w.name] := by
  rw [names_foldl, Pl.names_eq]
  rfl
theorem names_fold {w : Pl} {i : Nat} {s : List Str} (h : s = (w.parts.take i).foldl (fun (a : List Str) (q : Int × Pl) => a ++ q.2.names) [w.name]) : s.length ≤ w.names.length := by
  rw [h, names_foldl, Pl.names_eq]
  have : (Pl.namess (w.parts.take i)).length ≤ (Pl.namess w.parts).length := by
    rw [Pl.namess_eq, Pl.namess_eq, List.length_flatMap, List.length_flatMap]
    conv => rhs; rw [← List.take_append_drop i w.parts]
    rw [List.map_append, List.sum_append]
    omega
  simp only [List.length_append, List.length_cons, List.length_nil]
  omega

theorem sc_Work_names : FnScope ["self", "found", "weight", "work"] ["self"] (defScope s_Work_names) := ⟨rfl, rfl, rfl, by decide +kernel, rfl, by decide +kernel, by decide +kernel⟩
abbrev sp_Work_names (K : PySem.W.Frag) (d : Nat) : Sp := OSp (fun y : Pl => (y.names.length ≤ 1000) ∧ y.depth < d) (fun y => [⟨(rWk K (cW K)), y⟩]) (fun y => oLst rStr (y.names))
theorem ok_Work_names {f : Addr} {fd : FuncData} (F : FunD K "names" "Work.names" (defArgs s_Work_names) (defBody s_Work_names) (defScope s_Work_names) [] [] f fd) (T : Facts K mg) {d : Nat} (h_m_names : HasVO P w K mg base (cW K) "names" (1 + d) (fun y : Pl => y) (fun y : Pl => (y.names.length ≤ 1000) ∧ y.depth < d) (fun y : Pl => []) (fun y => oLst rStr (y.names))) : FnOk P w K mg base (CXL P w) (1 + d + 1) f fd ["self"] (sp_Work_names K (d + 1)) := by
  refine fn_own F sc_Work_names (fun _ => rfl) fun self hp cdv A outer s H E0 G D hr hret => ?_
  try dsimp only at hp hret
  obtain ⟨hp, hd⟩ := hp
  refine bk_setO 1 sc_Work_names.nd (eo_lst (r := rStr) (as := [self.name]) (ea_cons (ev_called T.ok (ev_v 0)) ea_nil) (by simp)) ?_
  refine bk_for (fun sq1 : (List Str) => [.sh (rWk K (cW K)) self, .ow (oLst rStr sq1) none, .no, .no]) (fun i sq1 => sq1 = ((self.parts).take i).foldl (fun (a : List Str) (q : Int × Pl) => a ++ q.2.names) ([self.name])) ([self.name]) (passes_of rfl) (ei_lst (ev_held T.ok (ev_v 0))) (tg_tup2 (tg_name 2 sc_Work_names.nd) (tg_name 3 sc_Work_names.nd)) rfl (fun _ _ _ h => h) (fun F iq1 sq1 q1 mq1 eq1 => ?_) (fun sq1 eq1 => ?_)
  · have mm : q1 ∈ self.parts := List.mem_of_getElem? mq1
    have hq := Pl.part_depth mm
    have hn := names_part mm
    have hl := names_fold eq1
    refine bk_extend 1 rfl (EvO.bor (eo_vm0 h_m_names hr (by first | decide | omega) q1.2 ⟨by omega, by omega⟩ (ev_v 3) rfl)) (Evl.sz_of (by omega)) ?_
    exact bk_end fun G H σ h => ⟨((sq1 ++ (q1.2.names))), foldl_next mq1 eq1 rfl, G, (Holds.forget 3 (Holds.forget 2 h))⟩
  · rw [List.take_length] at eq1
    subst eq1
    exact bk_retv 1 (hret.eqO (as' := (self.parts.foldl (fun (a : List Str) (q : Int × Pl) => a ++ q.2.names) ([self.name]))) (names_done self))
abbrev s_Work_depth : Stmt := inClass (top 14) 5
def Small (w : Pl) : Prop := ∀ z ∈ w.all, z.parts.length ≤ 1000
theorem part_small {w : Pl} {q : Int × Pl} (h : Small w) (m : q ∈ w.parts) : q.2.parts.length ≤ 1000 ∧ Small q.2 := by
  have k : Small q.2 := fun z hz => h z (by
    rw [Pl.all_eq, Pl.alls_eq]
    exact List.mem_cons_of_mem _ (List.mem_flatMap.mpr ⟨q, m, hz⟩))
  exact ⟨k _ (by rw [Pl.all_eq]; exact List.mem_cons_self), k⟩
theorem depth_done (w : Pl) : (w.depth : Int) = (1 + maxL ([0] ++ (w.parts.map fun q : Int × Pl => (q.2.depth : Int)))) := by
  rw [← Pl.depths_max, Pl.depth_eq]
  omega
theorem sc_Work_depth : FnScope ["self", "weight", "work"] ["self"] (defScope s_Work_depth) := ⟨rfl, rfl, rfl, by decide +kernel, rfl, by decide +kernel, by decide +kernel⟩
abbrev sp_Work_depth (K : PySem.W.Frag) (d : Nat) : Sp := PSp (fun y : Pl => (y.parts.length ≤ 1000 ∧ Small y) ∧ y.depth < d) (fun y => [⟨(rWk K (cW K)), y⟩]) rInt (fun y => (y.depth : Int))
theorem ok_Work_depth {f : Addr} {fd : FuncData} (F : FunD K "depth" "Work.depth" (defArgs s_Work_depth) (defBody s_Work_depth) (defScope s_Work_depth) [] [] f fd) (T : Facts K mg) {d : Nat} (h_m_depth : HasV P w K mg base (cW K) "depth" (1 + d) (fun y : Pl => y) (fun y : Pl => (y.parts.length ≤ 1000 ∧ Small y) ∧ y.depth < d) (fun y : Pl => []) rInt (fun y => (y.depth : Int))) : FnOk P w K mg base (CXL P w) (1 + d + 1) f fd ["self"] (sp_Work_depth K (d + 1)) := by
  refine fn_pure F sc_Work_depth (fun _ => rfl) fun self hp cdv A outer s H E0 G D hr hret hnx => ?_
  try dsimp only at hp hret hnx
  obtain ⟨hp, hd⟩ := hp
  exact bk_ret (x := ((1 : Int) + (maxL ([(0 : Int)] ++ (self.parts.map (fun q1 : (Int × Pl) => ((q1.2.depth : Int)))))))) (ev_add ev_int (ev_maxL (by simp) (EvO.bor (eo_cat (r := rInt) (as := [(0 : Int)]) (bs := (self.parts.map (fun q1 : (Int × Pl) => ((q1.2.depth : Int))))) (EvO.bor (eo_lst (r := rInt) (as := [(0 : Int)]) (ea_cons ev_int ea_nil) (by simp))) (EvO.bor (eo_lcm (val := fun q1 : (Int × Pl) => ((q1.2.depth : Int))) [("weight", 1), ("work", 2)] sc_Work_depth.nd (ei_lst (ev_held T.ok (ev_v 0))) (blkOk_by (N := ["self", "weight", "work"]) (sc := defScope s_Work_depth) (by decide +kernel)) (fun _ => (tg_tup2 (tg_name 1 sc_Work_depth.nd) (tg_name 2 sc_Work_depth.nd))) (fun _ q1 q2 => (ev_vm0 h_m_depth hr (by first | decide | omega) q1.2 ⟨part_small hp.2 q2, by have := Pl.part_depth q2; omega⟩ (ev_v 2) rfl)) (by have := hp.1; omega))) (Evl.sz_of (by simp; have := hp.1; omega)))) T.f_max)) (hret.eq (depth_done self))
abbrev s_Work_init : Stmt := inClass (top 14) 0
theorem sc_Work_init : FnScope ["self", "called"] ["self", "called"] (defScope s_Work_init) := ⟨rfl, rfl, rfl, by decide +kernel, rfl, by decide +kernel, by decide +kernel⟩
abbrev sp_Work_init (K : PySem.W.Frag) : Sp := MSp (fun y : Pl => isNameB y.name = true ∧ y.name.length ≤ 1000) (fun y => [.ow (oIns ((cW K).of y) [] []), .ty ⟨rStr, y.name⟩]) rNon (fun _ => ()) (fun y => [oWk K (cW K) y y.name [] none])
theorem ok_Work_init {f : Addr} {fd : FuncData} (F : FunD K "__init__" "Work.__init__" (defArgs s_Work_init) (defBody s_Work_init) (defScope s_Work_init) [] [] f fd) (T : Facts K mg) (h_is_name : Has P w K mg base "is_name" 1 (sp_is_name K)) :
    FnOk P w K mg base (CXL P w) 2 f fd ["self", "called"] (sp_Work_init K) := by
  refine fn_par F sc_Work_init (fun _ => rfl) fun y hp cdv A outer s H E0 G D qs hq hr hret hnx => ?_
  obtain ⟨p0, rfl⟩ : ∃ p0, qs = [p0] := by match qs, hq with | [p0], _ => exact ⟨p0, rfl⟩
  refine bk_if (p := !isNameB y.name) (et_not (et_val (ev_call h_is_name hr (by decide) y.name hp.2 (ea_cons (t := ⟨rStr, y.name⟩) (ev_v 1) ea_nil)))) (fun c => ?_) (fun c => ?_)
  · exact absurd c (by rw [hp.1]; simp)
  refine bk_then ?_
  refine bk_fld 0 (T.ok.cls y) (T.ok.called y) rfl (ev_v (r := rStr) (x := y.name) 1) (by simp) (by decide) ?_
  refine bk_fld 0 (T.ok.cls y) (T.ok.held y) rfl (EvO.ev (eo_nil (r := rT2 K rInt (rWk K (cW K))))) (by decide) (by decide) ?_
  refine bk_fld 0 (T.ok.cls y) (T.ok.many y) rfl (ev_none (r := rInt)) (by decide) (by decide) ?_
  exact bk_end fun G' H' σ h => hnx _ _ _ h.le (StillI.ows h (is := [0]) ⟨rfl, trivial⟩) rfl
abbrev s_Leaf_init : Stmt := inClass (top 15) 0
theorem sc_Leaf_init : FnScope ["self", "name", "steps"] ["self", "name", "steps"] (defScope s_Leaf_init) := ⟨rfl, rfl, rfl, by decide +kernel, rfl, by decide +kernel, by decide +kernel⟩
abbrev sp_Leaf_init (K : PySem.W.Frag) : Sp := MSp (fun y : Str × Option Int => (isNameB y.1 = true ∧ y.1.length ≤ 1000) ∧ StOk y.2) (fun y => [.ow (oIns (cW K).L [] []), .ty ⟨rStr, y.1⟩, .ty ⟨rOpt rInt, y.2⟩]) rNon (fun _ => ()) (fun y => [oWk K (cW K) (.leaf y.1 y.2) y.1 [] y.2])
theorem ok_Leaf_init {f : Addr} {fd : FuncData} (F : FunD K "__init__" "Leaf.__init__" (defArgs s_Leaf_init) (defBody s_Leaf_init) (defScope s_Leaf_init) [.non] [] f fd) (T : Facts K mg) (h_is_number : Has P w K mg base "is_number" 1 (sp_is_number K)) (h_Work : HasU P w K mg base "Work" (He.ga K "Work") "__init__" 2 (sp_Work_init K)) :
    FnOk P w K mg base (CXL P w) 3 f fd ["self", "name", "steps"] (sp_Leaf_init K) := by
  refine fn_par F sc_Leaf_init (fun _ => rfl) fun y hp cdv A outer s H E0 G D qs hq hr hret hnx => ?_
  obtain ⟨n, st⟩ := y
  obtain ⟨p0, rfl⟩ : ∃ p0, qs = [p0] := by match qs, hq with | [p0], _ => exact ⟨p0, rfl⟩
  dsimp only at hp hret hnx
  refine bk_exprM (em_unb (ss := [.sl 0]) h_Work hr (by decide) (Pl.leaf n st) hp.1 (ep_own 0 (ep_ty (t := ⟨rStr, n⟩) (ev_v 1) ep_nil))) ?_
  refine bk_if (p := (!st.isNone && !isNum (st.getD 0) 1 1000)) (et_bool (ew_and (et_notN nn_int (ev_v 2) ev_unit) (fun q => ew_and1 (et_not (et_val (ev_call h_is_number hr (by decide) (st.getD 0, 1, 1000) trivial (ea_cons (t := ⟨rInt, st.getD 0⟩) (ev_unopt (by simpa using q) (ev_v 2)) (ea_cons (t := ⟨rInt, 1⟩) ev_int (ea_cons (t := ⟨rInt, 1000⟩) (ev_gint T.g_STEPS) ea_nil))))))))) (fun c => ?_) (fun c => ?_)
  · refine absurd c ?_
    cases st with
    | none => simp
    | some i => simp [hp.2 i rfl]
  refine bk_then ?_
  refine bk_fldO 0 2 (T.ok.cls (.leaf n st)) (T.ok.many (.leaf n st)) rfl (ev_v (r := rOpt rInt) (x := st) 2) rfl (by decide) (by decide) ?_
  exact bk_end fun G' H' σ h => hnx _ _ _ h.le (StillI.ows h (is := [0]) ⟨rfl, trivial⟩) rfl
abbrev s_Lot_init : Stmt := inClass (top 17) 0
theorem sc_Lot_init : FnScope ["self", "name", "parts", "names"] ["self", "name", "parts"] (defScope s_Lot_init) := ⟨rfl, rfl, rfl, by decide +kernel, rfl, by decide +kernel, by decide +kernel⟩
abbrev sp_Lot_init (K : PySem.W.Frag) (row : Bool) : Sp := MSp (fun y : Str × List (Int × Pl) => LotOk row y.1 y.2 ∧ y.1.length ≤ 1000) (fun y => .ow (oIns ((cW K).of (.lot row Str.empty [])) [] []) :: [.ty ⟨rStr, y.1⟩, .ow (oLst (rT2 K rInt (rWk K (cW K))) y.2)]) rNon (fun _ => ()) (fun y => oWk K (cW K) (.lot row y.1 y.2) y.1 y.2 none :: [oLst (rT2 K rInt (rWk K (cW K))) y.2])
theorem ofLot {c : WC} {row : Bool} {n : Str} {ps : List (Int × Pl)} : c.of (.lot row n ps) = c.of (.lot row Str.empty []) := by cases row <;> rfl
theorem lot_len {ps : List (Int × Pl)} (h : arePartsB ps = true) : 1 ≤ ps.length ∧ ps.length ≤ 6 := by
  unfold arePartsB at h
  exact of_decide_eq_true (Bool.and_eq_true_iff.mp h).1
theorem pl_small : ∀ {w : Pl}, w.names.length ≤ 1000 → Small w := fun {w} h z hz => by
  have k1 : ∀ (n : Nat) (w : Pl), w.depth ≤ n → ∀ z ∈ w.all, z.names.length ≤ w.names.length := fun n => by
    induction n with
    | zero => intro w h; have := Pl.depth_pos w; omega
    | succ n ih =>
      intro w hd z hz
      rw [Pl.all_eq, Pl.alls_eq] at hz
      rcases List.mem_cons.mp hz with rfl | hz
      · exact Nat.le_refl _
      · obtain ⟨q, hq, hz⟩ := List.mem_flatMap.mp hz
        have := ih q.2 (by have := Pl.part_depth hq; omega) z hz
        have := names_part hq
        omega
  have k2 : z.parts.length ≤ z.names.length := by
    rw [Pl.names_eq, Pl.namess_eq, List.length_cons, List.length_flatMap]
    have : ∀ l : List (Int × Pl), l.length ≤ (l.map fun q => q.2.names.length).sum := fun l => by
      induction l with
      | nil => simp
      | cons a l ih =>
        have : 0 < a.2.names.length := by rw [Pl.names_eq]; simp
        simp only [List.map_cons, List.sum_cons, List.length_cons]
        omega
    have := this z.parts
    omega
  have := k1 w.depth w (Nat.le_refl _) z hz
  omega
theorem ok_Lot_init (row : Bool) {f : Addr} {fd : FuncData} (F : FunD K "__init__" "Lot.__init__" (defArgs s_Lot_init) (defBody s_Lot_init) (defScope s_Lot_init) [] [] f fd) (T : Facts K mg) (h_are_parts : Has P w K mg base "are_parts" 2 (sp_are_parts K)) (h_Work : HasU P w K mg base "Work" (He.ga K "Work") "__init__" 2 (sp_Work_init K))
    (h_m_names : HasVO P w K mg base (cW K) "names" 8 (fun y : Pl => y) (fun y : Pl => (y.names.length ≤ 1000) ∧ y.depth < 7) (fun y : Pl => []) (fun y => oLst rStr (y.names))) (h_m_depth : HasV P w K mg base (cW K) "depth" 8 (fun y : Pl => y) (fun y : Pl => (y.parts.length ≤ 1000 ∧ Small y) ∧ y.depth < 7) (fun y : Pl => []) rInt (fun y => (y.depth : Int))) : FnOk P w K mg base (CXL P w) 9 f fd ["self", "name", "parts"] (sp_Lot_init K row) := by
  refine fn_par F sc_Lot_init (fun _ => rfl) fun y hp cdv A outer s H E0 G D qs hq hr hret hnx => ?_
  obtain ⟨n, ps⟩ := y
  obtain ⟨p0, p1, rfl⟩ : ∃ p0 p1, qs = [p0, p1] := by match qs, hq with | [p0, p1], _ => exact ⟨p0, p1, rfl⟩
  dsimp only at hp hret hnx
  obtain ⟨hp, hnl⟩ := hp
  have hl := lot_len hp.parts
  rw [show oIns ((cW K).of (.lot row Str.empty [])) [] [] = oIns ((cW K).of (.lot row n ps)) [] [] by rw [ofLot (n := n) (ps := ps)]]
  refine bk_exprM (em_unb (ss := [.sl 0]) h_Work hr (by decide) (Pl.lot row n ps) ⟨hp.name, hnl⟩ (ep_own 0 (ep_ty (t := ⟨rStr, n⟩) (ev_v 1) ep_nil))) ?_
  refine bk_if (p := !arePartsB ps) (et_not (et_val (ev_lookS 2 rfl flat_lst frz_lst thin_bool (ev_call h_are_parts hr (by decide) ps (by omega) (ea_cons (t := ⟨rLst (rT2 K rInt (rWk K (cW K))), ps⟩) (ev_v 2) ea_nil))))) (fun c => ?_) (fun c => ?_)
  · exact absurd c (by rw [hp.parts]; simp)
  refine bk_then ?_
  refine bk_fldO 0 1 (T.ok.cls (.lot row n ps)) (T.ok.held (.lot row n ps)) rfl (EvO.ev (eo_listOf (eb_v 2) T.f_list)) rfl (by decide) (by decide) ?_
  refine bk_lookS 0 rfl (frz_wk (w := .lot row n ps)) (fun G' H' σ h σ' H2 e => hnx σ' G' H2 (h.le.stepH e) ((show Ows G' H' [p0, p1] [oWk K (cW K) (.lot row n ps) n ps none, oLst (rT2 K rInt (rWk K (cW K))) ps] from StillI.ows h (is := [0, 2]) ⟨rfl, rfl, trivial⟩).stepH e) rfl) fun E1 hnx1 => ?_
  have hc := hp.count
  have hd := hp.deep
  have hsm := pl_small (w := .lot row n ps) (by omega)
  refine bk_set 3 sc_Lot_init.nd (EvO.ev (eo_vm0 h_m_names hr (by decide) (.lot row n ps) ⟨by omega, by omega⟩ (ev_v 0) rfl rfl)) ?_
  refine bk_if (p := (decide ((20 : Int) < ((Pl.lot row n ps).names.length : Int)) || (decide (((dups (Pl.lot row n ps).names).length : Int) < ((Pl.lot row n ps).names.length : Int)) || decide ((5 : Int) < ((Pl.lot row n ps).depth : Int)))))
    (et_bool (ew_or (et_gt (ev_len (ev_v 3) T.f_len) (ev_gint T.g_WORKS)) (fun _ => ew_or (et_lt (ev_lenTxt (by have : scanBound = 4096 := rfl; omega) (Ev.bor (ev_v 3)) T.f_len T.f_set) (ev_len (ev_v 3) T.f_len)) (fun _ => ew_or1 (et_gt (ev_vm0 h_m_depth hr (by decide) (.lot row n ps) ⟨⟨by show ps.length ≤ 1000; omega, hsm⟩, by omega⟩ (ev_v 0) rfl rfl) (ev_gint T.g_DEEP)))))) (fun c => ?_) (fun c => ?_)
  · refine absurd c ?_
    rw [dups_nodup hp.nodup]
    simp
    omega
  refine bk_then ?_
  exact bk_end fun G' H' σ h => hnx1 _ _ _ h.le
abbrev sp_Leaf1 (K : PySem.W.Frag) : Sp := MSp (fun y : Str => isNameB y = true ∧ y.length ≤ 1000) (fun y => [.ow (oIns (cW K).L [] []), .ty ⟨rStr, y⟩]) rNon (fun _ => ()) (fun y => [oWk K (cW K) (.leaf y none) y [] none])
theorem leaf1_imp {E : XK} (vs : List V) (H : Hp) (Q : VK) (h : sp_Leaf1 K vs H Q E) : sp_Leaf_init K (vs ++ [.non]) H Q E := by
  obtain ⟨y, G, as, hp, e, nd, fi, k⟩ := h
  have hl := fi.length
  have ha := fi.nOwn
  match vs, as, hl, ha with
  | [v1, v2], [a], _, _ =>
    obtain ⟨h1, h2, _⟩ := fi
    exact ⟨(y, none), G, [a], ⟨hp, fun i h => by cases h⟩, e, nd, ⟨h1, h2, rfl, trivial⟩, k⟩
abbrev s_Work_name : Stmt := inClass (top 14) 1
theorem sc_Work_name : FnScope ["self"] ["self"] (defScope s_Work_name) := ⟨rfl, rfl, rfl, by decide +kernel, rfl, by decide +kernel, by decide +kernel⟩
abbrev sp_Work_name (K : PySem.W.Frag) : Sp := PSp (fun y : Pl => True) (fun y => [⟨(rWk K (cW K)), y⟩]) rStr (fun y => y.name)
theorem ok_Work_name {f : Addr} {fd : FuncData} (F : FunD K "name" "Work.name" (defArgs s_Work_name) (defBody s_Work_name) (defScope s_Work_name) [] [] f fd) (T : Facts K mg)  : FnOk P w K mg base (CXL P w) 1 f fd ["self"] (sp_Work_name K) := by
  refine fn_pure F sc_Work_name (fun _ => rfl) fun self hp cdv A outer s H E0 G D hr hret hnx => ?_
  try dsimp only at hp hret hnx
  exact bk_ret (x := self.name) (ev_called T.ok (ev_v 0)) (hret.eq rfl)
abbrev s_Work_parts : Stmt := inClass (top 14) 2
theorem sc_Work_parts : FnScope ["self"] ["self"] (defScope s_Work_parts) := ⟨rfl, rfl, rfl, by decide +kernel, rfl, by decide +kernel, by decide +kernel⟩
abbrev sp_Work_parts (K : PySem.W.Frag) : Sp := OSp (fun y : Pl => True) (fun y => [⟨(rWk K (cW K)), y⟩]) (fun y => oLst (rT2 K rInt (rWk K (cW K))) (y.parts))
theorem ok_Work_parts {f : Addr} {fd : FuncData} (F : FunD K "parts" "Work.parts" (defArgs s_Work_parts) (defBody s_Work_parts) (defScope s_Work_parts) [] [] f fd) (T : Facts K mg)  : FnOk P w K mg base (CXL P w) 1 f fd ["self"] (sp_Work_parts K) := by
  refine fn_own F sc_Work_parts (fun _ => rfl) fun self hp cdv A outer s H E0 G D hr hret => ?_
  try dsimp only at hp hret
  exact bk_retO (eo_listOf (Ev.bor (ev_held T.ok (ev_v 0))) T.f_list) (hret.eqO (as' := self.parts) rfl)
abbrev s_Work_steps : Stmt := inClass (top 14) 3
theorem sc_Work_steps : FnScope ["self"] ["self"] (defScope s_Work_steps) := ⟨rfl, rfl, rfl, by decide +kernel, rfl, by decide +kernel, by decide +kernel⟩
abbrev sp_Work_steps (K : PySem.W.Frag) : Sp := PSp (fun y : Pl => True) (fun y => [⟨(rWk K (cW K)), y⟩]) (rOpt rInt) (fun y => y.steps)
theorem ok_Work_steps {f : Addr} {fd : FuncData} (F : FunD K "steps" "Work.steps" (defArgs s_Work_steps) (defBody s_Work_steps) (defScope s_Work_steps) [] [] f fd) (T : Facts K mg)  : FnOk P w K mg base (CXL P w) 1 f fd ["self"] (sp_Work_steps K) := by
  refine fn_pure F sc_Work_steps (fun _ => rfl) fun self hp cdv A outer s H E0 G D hr hret hnx => ?_
  try dsimp only at hp hret hnx
  exact bk_ret (x := self.steps) (ev_many T.ok (ev_v 0)) (hret.eq rfl)
abbrev s__law_cell_at : Stmt := top 21
theorem sc__law_cell_at : FnScope ["_law_script", "_law_k"] ["_law_script", "_law_k"] (defScope s__law_cell_at) := ⟨rfl, rfl, rfl, by decide +kernel, rfl, by decide +kernel, by decide +kernel⟩
abbrev sp__law_cell_at (K : PySem.W.Frag) : Sp := PSp (fun y : (List Int) × Int => 0 ≤ y.2) (fun y => [⟨(rSeq K rInt), y.1⟩, ⟨rInt, y.2⟩]) rInt (fun y => cellAt y.1 y.2)
theorem ok__law_cell_at {f : Addr} {fd : FuncData} (F : FnD K "_law_cell_at" s__law_cell_at [] f fd) (T : Facts K mg) : FnOk P w K mg base (CXL P w) 1 f fd ["_law_script", "_law_k"] (sp__law_cell_at K) := by
  refine fn_pure F sc__law_cell_at (fun _ => rfl) fun y hp cdv A outer s H E0 G D hr hret hnx => ?_
  obtain ⟨script, k⟩ := y
  try dsimp only at hp hret hnx
  refine bk_if (p := decide (k < (script.length : Int))) (et_lt (ev_v 1) (ev_lenS (ev_v 0) T.f_len)) (fun c_1 => ?_) (fun c_1 => ?_)
  · exact bk_ret (x := (script.getD (k).toNat 0)) (ev_atS (r := rInt) (as := script) (i := k) (d := 0) (by have := of_decide_eq_true c_1; omega) (ev_v 0) (ev_v 1)) (hret.eq (by simp only [cellAt, c_1, if_true]))
  · refine bk_then ?_
    refine bk_if (p := (PyData.eqv (pdInts script) (pdInts ([] : (List Int))))) (et_eqD hr eqv_seqInts eqv_ints (ev_v 0) (EvO.ev (eo_nil (r := rInt)))) (fun c_2 => ?_) (fun c_2 => ?_)
    · exact bk_ret (x := (k * (48271 : Int))) (ev_mulR (by decide) (ev_v 1) ev_int) (hret.eq (by simp only [cellAt, c_1, c_2, if_true, if_false, Bool.false_eq_true]))
    · refine bk_then ?_
      exact bk_ret (x := ((((script.getD ((k % (script.length : Int))).toNat 0) + k) * (48271 : Int)) % (2147483647 : Int))) (ev_mod (i := (((script.getD ((k % (script.length : Int))).toNat 0) + k) * (48271 : Int))) (j := (2147483647 : Int)) (by decide) (ev_mulR (by decide) (ev_add (ev_atS (r := rInt) (as := script) (i := (k % (script.length : Int))) (d := 0) ⟨Int.emod_nonneg _ (by have := cell_ne c_2; omega), Int.emod_lt_of_pos _ (cell_ne c_2)⟩ (ev_v 0) (ev_mod (i := k) (j := (script.length : Int)) (cell_ne c_2) (ev_v 1) (ev_lenS (ev_v 0) T.f_len))) (ev_v 1)) ev_int) ev_int) (hret.eq (by simp only [cellAt, c_1, c_2, if_true, if_false, Bool.false_eq_true]))
abbrev s__law_numbers : Stmt := top 22
theorem sc__law_numbers : FnScope ["_law_cell", "_law_bounds", "_law_rest", "_law_found", "_law_bound"] ["_law_cell", "_law_bounds"] (defScope s__law_numbers) := ⟨rfl, rfl, rfl, by decide +kernel, rfl, by decide +kernel, by decide +kernel⟩
abbrev sp__law_numbers (K : PySem.W.Frag) : Sp := OSp (fun y : Int × (List Int) => (∀ b ∈ y.2, 0 < b ∧ b < 1073741824) ∧ y.2.length ≤ 1000) (fun y => [⟨rInt, y.1⟩, ⟨(rLst rInt), y.2⟩]) (fun y => oLst rInt (numbersL y.1 y.2))
theorem ok__law_numbers {f : Addr} {fd : FuncData} (F : FunD K "_law_numbers" "_law_numbers" (defArgs s__law_numbers) (defBody s__law_numbers) (defScope s__law_numbers) [] [] f fd) (T : Facts K mg)  : FnOk P w K mg base (CXL P w) 1 f fd ["_law_cell", "_law_bounds"] (sp__law_numbers K) := by
  refine fn_own F sc__law_numbers (fun _ => rfl) fun y hp cdv A outer s H E0 G D hr hret => ?_
  obtain ⟨cell, bounds⟩ := y
  try dsimp only at hp hret
  refine bk_set 2 sc__law_numbers.nd (ev_v 0) ?_
  refine bk_if (p := decide (cell < (1000000000000000000 : Int))) (et_lt (ev_v 0) (Ev.eq (ev_pow (i := (10 : Int)) (j := (18 : Int)) ⟨by decide, by decide, by decide⟩ ev_int ev_int) (by decide : ((10 : Int) ^ (18 : Int).toNat) = (1000000000000000000 : Int)))) (fun c_1 => ?_) (fun c_1 => ?_)
  · refine bk_set 2 sc__law_numbers.nd (ev_div (by decide) (ev_pow (i := (((cell % (2147483647 : Int)) * (48271 : Int)) + (12345 : Int))) (j := (5 : Int)) ⟨by decide, by decide, by omega⟩ (ev_add (ev_mulR (by decide) (ev_mod (i := cell) (j := (2147483647 : Int)) (by decide) (ev_v 0) ev_int) ev_int) ev_int) ev_int) ev_int) ?_
    refine bk_then ?_
    refine bk_setO 3 sc__law_numbers.nd (eo_nil (r := rInt)) ?_
    refine bk_for (fun sq1 : Int × (List Int) => [.sh rInt cell, .sh (rLst rInt) bounds, .sh rInt sq1.1, .ow (oLst rInt sq1.2) none, .no]) (fun i sq1 => sq1 = ((bounds).take i).foldl numStep ((((((cell % (2147483647 : Int)) * (48271 : Int)) + (12345 : Int)) ^ ((5 : Int)).toNat) / (1013 : Int)), ([] : (List Int)))) ((((((cell % (2147483647 : Int)) * (48271 : Int)) + (12345 : Int)) ^ ((5 : Int)).toNat) / (1013 : Int)), ([] : (List Int))) (passes_of rfl) (ei_lst (ev_v 1)) (tg_name 4 sc__law_numbers.nd) rfl (fun _ _ _ h => h) (fun F iq1 sq1 q1 mq1 eq1 => ?_) (fun sq1 eq1 => ?_)
    · have mm := List.mem_of_getElem? mq1
      have hln := num_len hp.2 mq1 eq1
      refine bk_append 3 rfl (ev_mod (i := sq1.1) (j := q1) (hp.1 _ mm).1 (ev_v 2) (ev_v 4)) (Nat.lt_of_succ_le (Evl.sz_of hln)) ?_
      refine bk_set 2 sc__law_numbers.nd (ev_div (i := sq1.1) (j := q1) (hp.1 _ mm) (ev_v 2) (ev_v 4)) ?_
      exact bk_end fun G H σ h => ⟨((sq1.1 / q1), (sq1.2 ++ [(sq1.1 % q1)])), foldl_next mq1 eq1 rfl, G, (Holds.forget 4 h)⟩
    · rw [List.take_length] at eq1
      subst eq1
      exact bk_retv 3 (hret.eqO (as' := (bounds.foldl numStep ((((((cell % (2147483647 : Int)) * (48271 : Int)) + (12345 : Int)) ^ ((5 : Int)).toNat) / (1013 : Int)), ([] : (List Int)))).2) (by unfold numbersL restOf; rw [if_pos c_1]))
  · refine bk_then ?_
    refine bk_setO 3 sc__law_numbers.nd (eo_nil (r := rInt)) ?_
    refine bk_for (fun sq2 : Int × (List Int) => [.sh rInt cell, .sh (rLst rInt) bounds, .sh rInt sq2.1, .ow (oLst rInt sq2.2) none, .no]) (fun i sq2 => sq2 = ((bounds).take i).foldl numStep (cell, ([] : (List Int)))) (cell, ([] : (List Int))) (passes_of rfl) (ei_lst (ev_v 1)) (tg_name 4 sc__law_numbers.nd) rfl (fun _ _ _ h => h) (fun F iq2 sq2 q2 mq2 eq2 => ?_) (fun sq2 eq2 => ?_)
    · have mm := List.mem_of_getElem? mq2
      have hln := num_len hp.2 mq2 eq2
      refine bk_append 3 rfl (ev_mod (i := sq2.1) (j := q2) (hp.1 _ mm).1 (ev_v 2) (ev_v 4)) (Nat.lt_of_succ_le (Evl.sz_of hln)) ?_
      refine bk_set 2 sc__law_numbers.nd (ev_div (i := sq2.1) (j := q2) (hp.1 _ mm) (ev_v 2) (ev_v 4)) ?_
      exact bk_end fun G H σ h => ⟨((sq2.1 / q2), (sq2.2 ++ [(sq2.1 % q2)])), foldl_next mq2 eq2 rfl, G, (Holds.forget 4 h)⟩
    · rw [List.take_length] at eq2
      subst eq2
      exact bk_retv 3 (hret.eqO (as' := (bounds.foldl numStep (cell, ([] : (List Int)))).2) (by unfold numbersL restOf; rw [if_neg (by rw [c_1]; simp)]))
abbrev s__law_names : Stmt := top 23
theorem sc__law_names : FnScope ["_law_first"] [] (defScope s__law_names) := ⟨rfl, rfl, rfl, by decide +kernel, rfl, by decide +kernel, by decide +kernel⟩
abbrev sp__law_names (K : PySem.W.Frag) : Sp := OSp (fun y : Unit => True) (fun y => []) (fun y => oLst rStr (namesL))
theorem ok__law_names {f : Addr} {fd : FuncData} (F : FunD K "_law_names" "_law_names" (defArgs s__law_names) (defBody s__law_names) (defScope s__law_names) [] [] f fd) (T : Facts K mg)  : FnOk P w K mg base (CXL P w) 1 f fd [] (sp__law_names K) := by
  refine fn_own F sc__law_names (fun _ => rfl) fun y hp cdv A outer s H E0 G D hr hret => ?_
  try dsimp only at hp hret
  refine bk_set 0 sc__law_names.nd (EvO.ev (eo_lst (r := rStr) (as := [("a" : Str), ("row" : Str), ("leaf" : Str), ("did" : Str), ("found" : Str), ("b" : Str), ("bundle" : Str), ("again" : Str), ("knows" : Str), ("c" : Str)]) (ea_cons ev_str (ea_cons ev_str (ea_cons ev_str (ea_cons ev_str (ea_cons ev_str (ea_cons ev_str (ea_cons ev_str (ea_cons ev_str (ea_cons ev_str (ea_cons ev_str ea_nil)))))))))) (by simp))) ?_
  exact bk_retO (eo_cat (r := rStr) (as := [("a" : Str), ("row" : Str), ("leaf" : Str), ("did" : Str), ("found" : Str), ("b" : Str), ("bundle" : Str), ("again" : Str), ("knows" : Str), ("c" : Str)]) (bs := [("d" : Str), ("e" : Str), ("f" : Str), ("g" : Str), ("h" : Str), ("zzzzzzzz" : Str), ("j" : Str), ("k" : Str), ("l" : Str), ("m" : Str)]) (Ev.bor (ev_v 0)) (EvO.bor (eo_lst (r := rStr) (as := [("d" : Str), ("e" : Str), ("f" : Str), ("g" : Str), ("h" : Str), ("zzzzzzzz" : Str), ("j" : Str), ("k" : Str), ("l" : Str), ("m" : Str)]) (ea_cons ev_str (ea_cons ev_str (ea_cons ev_str (ea_cons ev_str (ea_cons ev_str (ea_cons ev_str (ea_cons ev_str (ea_cons ev_str (ea_cons ev_str (ea_cons ev_str ea_nil)))))))))) (by simp))) (Evl.sz_of (by simp))) (hret.eqO (as' := ([("a" : Str), ("row" : Str), ("leaf" : Str), ("did" : Str), ("found" : Str), ("b" : Str), ("bundle" : Str), ("again" : Str), ("knows" : Str), ("c" : Str)] ++ [("d" : Str), ("e" : Str), ("f" : Str), ("g" : Str), ("h" : Str), ("zzzzzzzz" : Str), ("j" : Str), ("k" : Str), ("l" : Str), ("m" : Str)])) rfl)
abbrev s__law_work : Stmt := top 24
theorem sc__law_work : FnScope ["_law_digits", "_law_names_here", "_law_deep", "_law_name", "_law_parts", "_law_k", "_law_kind", "_law_many", "_law_size", "_law_weight"] ["_law_digits", "_law_names_here", "_law_deep"] (defScope s__law_work) := ⟨rfl, rfl, rfl, by decide +kernel, rfl, by decide +kernel, by decide +kernel⟩
abbrev sp__law_work (K : PySem.W.Frag) (d : Nat) : Sp := MSp (fun y : (List Int) × (List Str) × Int => (Al y.1 ∧ y.1 ≠ [] ∧ y.2.1 ≠ [] ∧ (0 ≤ y.2.2 ∧ y.2.2 ≤ 6) ∧ y.2.1.length ≤ 100 ∧ ∀ x ∈ y.2.1, NameOk x) ∧ y.2.2.toNat < d) (fun y => [.ow (oLst rInt y.1), .ow (oLst rStr y.2.1), .ty ⟨rInt, y.2.2⟩]) (rPl K) (fun y => (workL y.2.2.toNat y.1 y.2.1).1) (fun y => [oLst rInt ((workL y.2.2.toNat y.1 y.2.1).2.1), oLst rStr ((workL y.2.2.toNat y.1 y.2.1).2.2)])
theorem ok__law_work {f : Addr} {fd : FuncData} (F : FunD K "_law_work" "_law_work" (defArgs s__law_work) (defBody s__law_work) (defScope s__law_work) [] [] f fd) (T : Facts K mg) {d : Nat} (h__law_work : Has P w K mg base "_law_work" (1 + d) (sp__law_work K d)) : FnOk P w K mg base (CXL P w) (1 + d + 1) f fd ["_law_digits", "_law_names_here", "_law_deep"] (sp__law_work K (d + 1)) := by
  refine fn_par F sc__law_work (fun _ => rfl) fun y hp cdv A outer s H E0 G D qs hq hr hret hnx => ?_
  obtain ⟨digits, names_here, deep⟩ := y
  obtain ⟨p0, p1, rfl⟩ : ∃ p0 p1, qs = [p0, p1] := by match qs, hq with | [p0, p1], _ => exact ⟨p0, p1, rfl⟩
  try dsimp only at hp hret hnx
  obtain ⟨hp, hd⟩ := hp
  obtain ⟨hal, hdn, hnn, ⟨hde, hde6⟩, hnl, hnok⟩ := hp
  obtain ⟨a0, a1, a2, am, hdg, ha0, ha1, ha2, ham⟩ := hal.three hdn
  refine bk_setM 3 sc__law_work.nd (em_popH 1 (as := names_here) (d := Str.empty) (by first | exact hnn | (subst hdg; simp)) rfl) ?_
  refine bk_par3M 6 7 8 sc__law_work.nd (ema_cons (t := ⟨rInt, ((digits).headD 0)⟩) (em_popH 0 (as := digits) (d := 0) (by first | exact hnn | (subst hdg; simp)) rfl) (ema_cons (t := ⟨rInt, (((digits).tail).headD 0)⟩) (em_popH 0 (as := (digits).tail) (d := 0) (by first | exact hnn | (subst hdg; simp)) rfl) (ema_cons (t := ⟨rInt, ((((digits).tail).tail).headD 0)⟩) (em_popH 0 (as := ((digits).tail).tail) (d := 0) (by first | exact hnn | (subst hdg; simp)) rfl) ema_nil))) ?_
  refine bk_if (p := (decide (deep = (0 : Int)) || (decide (((digits).headD 0) < (2 : Int)) || (decide (((names_here).tail.length : Int) < (3 : Int)) || decide (((((digits).tail).tail).tail.length : Int) < (12 : Int)))))) (et_bool (ew_or (et_eqI (ev_v 2) ev_int) (fun q1 => (ew_or (et_lt (ev_v 6) ev_int) (fun q2 => (ew_or (et_lt (ev_lenB (eb_v 1) T.f_len) ev_int) (fun q3 => (ew_or1 (et_lt (ev_lenB (eb_v 0) T.f_len) ev_int))))))))) (fun c_1 => ?_) (fun c_1 => ?_)
  · have L : (workL deep.toNat digits names_here).1 = (Pl.leaf ((names_here).headD Str.empty) ([(none : Option Int), (some (1 : Int)), (some (2 : Int)), (some (3 : Int)), (some (5 : Int)), (some (7 : Int)), (some (12 : Int)), (some (1000 : Int))].getD (((((digits).tail).tail).headD 0)).toNat none)) ∧ (workL deep.toNat digits names_here).2.1 = (((digits).tail).tail).tail ∧ (workL deep.toNat digits names_here).2.2 = (names_here).tail := (by have z := work_leaf hde c_1; exact ⟨congrArg (fun q => q.1) z, congrArg (fun q => q.2.1) z, congrArg (fun q => q.2.2) z⟩)
    exact bk_retP (is := [0, 1]) (post := [oLst rInt ((((digits).tail).tail).tail), oLst rStr ((names_here).tail)]) (x := (Pl.leaf ((names_here).headD Str.empty) ([(none : Option Int), (some (1 : Int)), (some (2 : Int)), (some (3 : Int)), (some (5 : Int)), (some (7 : Int)), (some (12 : Int)), (some (1000 : Int))].getD (((((digits).tail).tail).headD 0)).toNat none))) (em_of (Ev.plLeaf (ev_tup3 (ea_cons ev_str (ea_cons (ev_v 3) (ea_cons (ev_at (r := (rOpt rInt)) (as := [(none : Option Int), (some (1 : Int)), (some (2 : Int)), (some (3 : Int)), (some (5 : Int)), (some (7 : Int)), (some (12 : Int)), (some (1000 : Int))]) (i := ((((digits).tail).tail).headD 0)) (d := none) (by subst hdg; show 0 ≤ a2 ∧ a2 < 8; exact ha2) (EvO.ev (eo_lst (r := (rOpt rInt)) (as := [(none : Option Int), (some (1 : Int)), (some (2 : Int)), (some (3 : Int)), (some (5 : Int)), (some (7 : Int)), (some (12 : Int)), (some (1000 : Int))]) (ea_cons (ev_none (r := rInt)) (ea_cons (ev_some (r := rInt) ev_int) (ea_cons (ev_some (r := rInt) ev_int) (ea_cons (ev_some (r := rInt) ev_int) (ea_cons (ev_some (r := rInt) ev_int) (ea_cons (ev_some (r := rInt) ev_int) (ea_cons (ev_some (r := rInt) ev_int) (ea_cons (ev_some (r := rInt) ev_int) ea_nil)))))))) (by simp))) (ev_v 8)) ea_nil)))))) (hret.eqP L.1 (by rw [L.2.1, L.2.2])) ⟨rfl, rfl, trivial⟩
  · refine bk_then ?_
    refine bk_setO 4 sc__law_work.nd (eo_nil (r := (rT2 K rInt (rPl K)))) ?_
    refine bk_for (fun sq5 : (List (Int × Pl)) × (List Int) × (List Str) => [.ow (oLst rInt sq5.2.1) (some p0), .ow (oLst rStr sq5.2.2) (some p1), .sh rInt deep, .sh rStr ((names_here).headD Str.empty), .ow (oLst (rT2 K rInt (rPl K)) sq5.1) none, .no, .sh rInt ((digits).headD 0), .sh rInt (((digits).tail).headD 0), .sh rInt ((((digits).tail).tail).headD 0), .no]) (fun i sq5 => sq5 = (((rangeL 0 ((if decide ((((digits).tail).headD 0) < (4 : Int)) = true then ((1 : Int) + (((digits).tail).headD 0)) else (6 : Int))).toNat)).take i).foldl (stepW (workL (deep - 1).toNat)) (([] : (List (Int × Pl))), (((digits).tail).tail).tail, (names_here).tail)) (([] : (List (Int × Pl))), (((digits).tail).tail).tail, (names_here).tail) (passes_of rfl) (ei_range1 (n := (if decide ((((digits).tail).headD 0) < (4 : Int)) = true then ((1 : Int) + (((digits).tail).headD 0)) else (6 : Int))) (ev_ifE (et_lt (ev_v 7) ev_int) (fun q4 => (ev_add ev_int (ev_v 7))) (fun q4 => ev_int)) (by subst hdg; show -(2 ^ 62) ≤ (if decide (a1 < 4) = true then 1 + a1 else 6) ∧ (if decide (a1 < 4) = true then 1 + a1 else 6) < 2 ^ 62; split <;> omega) T.f_range) (tg_name 5 sc__law_work.nd) rfl (fun _ _ _ h => h) (fun F iq5 sq5 q5 mq5 eq5 => ?_) (fun sq5 eq5 => ?_)
    · have hst := work_st hal hdn mq5 eq5
      refine bk_if (p := (decide ((1 : Int) < (sq5.2.2.length : Int)) && decide ((6 : Int) < (sq5.2.1.length : Int)))) (et_bool (ew_and (et_gt (ev_lenB (eb_v 1) T.f_len) ev_int) (fun q6 => (ew_and1 (et_gt (ev_lenB (eb_v 0) T.f_len) ev_int))))) (fun c_2 => ?_) (fun c_2 => ?_)
      · refine bk_set 9 sc__law_work.nd (ev_ifE (et_eqI (ev_atB (r := rInt) (as := sq5.2.1) (i := (2 : Int)) (d := 0) (by have := lt6 c_2; omega) (eb_v 0) ev_int) ev_int) (fun q7 => (ev_add ev_int (ev_mulR (by decide) (ev_atB (r := rInt) (as := sq5.2.1) (i := (0 : Int)) (d := 0) (by have := lt6 c_2; omega) (eb_v 0) ev_int) ev_int))) (fun q7 => (ev_add ev_int (ev_atB (r := rInt) (as := sq5.2.1) (i := (0 : Int)) (d := 0) (by have := lt6 c_2; omega) (eb_v 0) ev_int)))) ?_
        refine bk_appendM 4 rfl (em_tup2 (ema_cons (t := ⟨rInt, (if (if decide ((sq5.2.1.getD ((2 : Int)).toNat 0) = (7 : Int)) = true then ((1 : Int) + ((sq5.2.1.getD ((0 : Int)).toNat 0) * (33 : Int))) else ((1 : Int) + (sq5.2.1.getD ((0 : Int)).toNat 0))) < (100 : Int) then (if decide ((sq5.2.1.getD ((2 : Int)).toNat 0) = (7 : Int)) = true then ((1 : Int) + ((sq5.2.1.getD ((0 : Int)).toNat 0) * (33 : Int))) else ((1 : Int) + (sq5.2.1.getD ((0 : Int)).toNat 0))) else (100 : Int))⟩) (em_of (ev_min2 (ea_cons ev_int (ea_cons (ev_v 9) ea_nil)) T.f_min)) (ema_cons (t := ⟨(rPl K), ((workL (deep - (1 : Int)).toNat sq5.2.1 sq5.2.2).1)⟩) (em_callP (ss := [.sl 0, .sl 1]) h__law_work hr (by first | decide | omega) (sq5.2.1, sq5.2.2, (deep - (1 : Int))) (work_pre hst c_2 ⟨hde, hde6⟩ (leafW_deep c_1) hd hnl hnok) (ep_own 0 (ep_own 1 (ep_ty (t := ⟨rInt, (deep - (1 : Int))⟩) (ev_sub (ev_v 2) ev_int) ep_nil)))) ema_nil))) rfl (Nat.lt_of_succ_le (Evl.sz_of hst.len)) ?_
        refine bk_then ?_
        exact bk_end fun G H σ h => ⟨((sq5.1 ++ [((if (if decide ((sq5.2.1.getD ((2 : Int)).toNat 0) = (7 : Int)) = true then ((1 : Int) + ((sq5.2.1.getD ((0 : Int)).toNat 0) * (33 : Int))) else ((1 : Int) + (sq5.2.1.getD ((0 : Int)).toNat 0))) < (100 : Int) then (if decide ((sq5.2.1.getD ((2 : Int)).toNat 0) = (7 : Int)) = true then ((1 : Int) + ((sq5.2.1.getD ((0 : Int)).toNat 0) * (33 : Int))) else ((1 : Int) + (sq5.2.1.getD ((0 : Int)).toNat 0))) else (100 : Int)), ((workL (deep - (1 : Int)).toNat sq5.2.1 sq5.2.2).1))]), ((workL (deep - (1 : Int)).toNat sq5.2.1 sq5.2.2).2.1), ((workL (deep - (1 : Int)).toNat sq5.2.1 sq5.2.2).2.2)), foldl_next mq5 eq5 (by first | exact ifB_t c_2 | exact ifB_f c_2), G, (Holds.forget 9 (Holds.forget 5 h))⟩
      · refine bk_then ?_
        exact bk_end fun G H σ h => ⟨(sq5.1, sq5.2.1, sq5.2.2), foldl_next mq5 eq5 (by first | exact ifB_t c_2 | exact ifB_f c_2), G, (Holds.forget 5 h)⟩
    · rw [List.take_length] at eq5
      subst eq5
      refine bk_freeze 4 rfl ?_
      refine bk_if (p := (PyData.eqv (.list (pdPs ((rangeL 0 ((if decide ((((digits).tail).headD 0) < (4 : Int)) = true then ((1 : Int) + (((digits).tail).headD 0)) else (6 : Int))).toNat).foldl (stepW (workL (deep - 1).toNat)) (([] : (List (Int × Pl))), (((digits).tail).tail).tail, (names_here).tail)).1)) (.list []))) (et_eqD hr (eqv_pls (work_parts hal hdn hnok (by omega)).1 (work_parts hal hdn hnok (by omega)).2) eqv_nil (ev_v 4) (EvO.ev (eo_nil (r := (rT2 K rInt (rPl K)))))) (fun c_3 => ?_) (fun c_3 => ?_)
      · have L : (workL deep.toNat digits names_here).1 = (Pl.leaf ((names_here).headD Str.empty) (some (3 : Int))) ∧ (workL deep.toNat digits names_here).2.1 = ((rangeL 0 ((if decide ((((digits).tail).headD 0) < (4 : Int)) = true then ((1 : Int) + (((digits).tail).headD 0)) else (6 : Int))).toNat).foldl (stepW (workL (deep - 1).toNat)) (([] : (List (Int × Pl))), (((digits).tail).tail).tail, (names_here).tail)).2.1 ∧ (workL deep.toNat digits names_here).2.2 = ((rangeL 0 ((if decide ((((digits).tail).headD 0) < (4 : Int)) = true then ((1 : Int) + (((digits).tail).headD 0)) else (6 : Int))).toNat).foldl (stepW (workL (deep - 1).toNat)) (([] : (List (Int × Pl))), (((digits).tail).tail).tail, (names_here).tail)).2.2 := (by have z := work_none hde c_1 (nil_of c_3); exact ⟨congrArg (fun q => q.1) z, congrArg (fun q => q.2.1) z, congrArg (fun q => q.2.2) z⟩)
        exact bk_retP (is := [0, 1]) (post := [oLst rInt (((rangeL 0 ((if decide ((((digits).tail).headD 0) < (4 : Int)) = true then ((1 : Int) + (((digits).tail).headD 0)) else (6 : Int))).toNat).foldl (stepW (workL (deep - 1).toNat)) (([] : (List (Int × Pl))), (((digits).tail).tail).tail, (names_here).tail)).2.1), oLst rStr (((rangeL 0 ((if decide ((((digits).tail).headD 0) < (4 : Int)) = true then ((1 : Int) + (((digits).tail).headD 0)) else (6 : Int))).toNat).foldl (stepW (workL (deep - 1).toNat)) (([] : (List (Int × Pl))), (((digits).tail).tail).tail, (names_here).tail)).2.2)]) (x := (Pl.leaf ((names_here).headD Str.empty) (some (3 : Int)))) (em_of (Ev.plLeaf (ev_tup3 (ea_cons ev_str (ea_cons (ev_v 3) (ea_cons (ev_some (r := rInt) ev_int) ea_nil)))))) (hret.eqP L.1 (by rw [L.2.1, L.2.2])) ⟨rfl, rfl, trivial⟩
      · refine bk_then ?_
        have L : (workL deep.toNat digits names_here).1 = (Pl.lot (decide ((digits.headD 0) % 2 = 0)) ((names_here).headD Str.empty) ((rangeL 0 ((if decide ((((digits).tail).headD 0) < (4 : Int)) = true then ((1 : Int) + (((digits).tail).headD 0)) else (6 : Int))).toNat).foldl (stepW (workL (deep - 1).toNat)) (([] : (List (Int × Pl))), (((digits).tail).tail).tail, (names_here).tail)).1) ∧ (workL deep.toNat digits names_here).2.1 = ((rangeL 0 ((if decide ((((digits).tail).headD 0) < (4 : Int)) = true then ((1 : Int) + (((digits).tail).headD 0)) else (6 : Int))).toNat).foldl (stepW (workL (deep - 1).toNat)) (([] : (List (Int × Pl))), (((digits).tail).tail).tail, (names_here).tail)).2.1 ∧ (workL deep.toNat digits names_here).2.2 = ((rangeL 0 ((if decide ((((digits).tail).headD 0) < (4 : Int)) = true then ((1 : Int) + (((digits).tail).headD 0)) else (6 : Int))).toNat).foldl (stepW (workL (deep - 1).toNat)) (([] : (List (Int × Pl))), (((digits).tail).tail).tail, (names_here).tail)).2.2 := (by have z := work_lot hde c_1 (nil_not c_3); exact ⟨congrArg (fun q => q.1) z, congrArg (fun q => q.2.1) z, congrArg (fun q => q.2.2) z⟩)
        exact bk_retP (is := [0, 1]) (post := [oLst rInt (((rangeL 0 ((if decide ((((digits).tail).headD 0) < (4 : Int)) = true then ((1 : Int) + (((digits).tail).headD 0)) else (6 : Int))).toNat).foldl (stepW (workL (deep - 1).toNat)) (([] : (List (Int × Pl))), (((digits).tail).tail).tail, (names_here).tail)).2.1), oLst rStr (((rangeL 0 ((if decide ((((digits).tail).headD 0) < (4 : Int)) = true then ((1 : Int) + (((digits).tail).headD 0)) else (6 : Int))).toNat).foldl (stepW (workL (deep - 1).toNat)) (([] : (List (Int × Pl))), (((digits).tail).tail).tail, (names_here).tail)).2.2)]) (x := (Pl.lot (decide ((digits.headD 0) % 2 = 0)) ((names_here).headD Str.empty) ((rangeL 0 ((if decide ((((digits).tail).headD 0) < (4 : Int)) = true then ((1 : Int) + (((digits).tail).headD 0)) else (6 : Int))).toNat).foldl (stepW (workL (deep - 1).toNat)) (([] : (List (Int × Pl))), (((digits).tail).tail).tail, (names_here).tail)).1)) (em_of (Ev.plLot (row := (decide ((digits.headD 0) % 2 = 0))) (row_kind _ _ _) (ev_tup3 (ea_cons (ev_at (r := rStr) (as := [("row" : Str), ("bundle" : Str)]) (i := (((digits).headD 0) % (2 : Int))) (d := Str.empty) (by show 0 ≤ _ % 2 ∧ _ % 2 < 2; omega) (EvO.ev (eo_lst (r := rStr) (as := [("row" : Str), ("bundle" : Str)]) (ea_cons ev_str (ea_cons ev_str ea_nil)) (by simp))) (ev_mod (i := ((digits).headD 0)) (j := (2 : Int)) (by decide) (ev_v 6) ev_int)) (ea_cons (ev_v 3) (ea_cons (ev_v 4) ea_nil)))))) (hret.eqP L.1 (by rw [L.2.1, L.2.2])) ⟨rfl, rfl, trivial⟩
abbrev s__law_plan : Stmt := top 25
theorem sc__law_plan : FnScope ["_law_script", "_law_at", "_law_digits", "_law_k", "_law_start", "_law_names_here"] ["_law_script", "_law_at"] (defScope s__law_plan) := ⟨rfl, rfl, rfl, by decide +kernel, rfl, by decide +kernel, by decide +kernel⟩
abbrev sp__law_plan (K : PySem.W.Frag) : Sp := PSp (fun y : (List Int) × Int => 0 ≤ y.2 ∧ y.2 ≤ 1000) (fun y => [⟨(rSeq K rInt), y.1⟩, ⟨rInt, y.2⟩]) (rPl K) (fun y => planL y.1 y.2)
theorem ok__law_plan {f : Addr} {fd : FuncData} (F : FunD K "_law_plan" "_law_plan" (defArgs s__law_plan) (defBody s__law_plan) (defScope s__law_plan) [] [] f fd) (T : Facts K mg) (h__law_cell_at : Has P w K mg base "_law_cell_at" 1 (sp__law_cell_at K)) (h__law_numbers : Has P w K mg base "_law_numbers" 1 (sp__law_numbers K)) (h__law_names : Has P w K mg base "_law_names" 1 (sp__law_names K)) (h__law_work : Has P w K mg base "_law_work" 7 (sp__law_work K 6)) : FnOk P w K mg base (CXL P w) 8 f fd ["_law_script", "_law_at"] (sp__law_plan K) := by
  refine fn_pure F sc__law_plan (fun _ => rfl) fun y hp cdv A outer s H E0 G D hr hret hnx => ?_
  obtain ⟨script, at_⟩ := y
  try dsimp only at hp hret hnx
  refine bk_setO 2 sc__law_plan.nd (eo_nil (r := rInt)) ?_
  refine bk_for (fun sq1 : (List Int) => [.sh (rSeq K rInt) script, .sh rInt at_, .ow (oLst rInt sq1) none, .no, .no, .no]) (fun i sq1 => sq1 = (((rangeL 0 ((6 : Int)).toNat)).take i).foldl (digF script at_) (([] : (List Int)))) (([] : (List Int))) (passes_of rfl) (ei_range1 (n := (6 : Int)) ev_int (by first | decide | omega | assumption | (simp [rangeL]; done) | (simp; omega)) T.f_range) (tg_name 3 sc__law_plan.nd) rfl (fun _ _ _ h => h) (fun F iq1 sq1 q1 mq1 eq1 => ?_) (fun sq1 eq1 => ?_)
  · have mm := range_k (List.mem_of_getElem? mq1)
    have hcat := fun c : Int => digs_cat (c := c) mq1 eq1
    refine bk_setO 2 sc__law_plan.nd (eo_cat (r := rInt) (as := sq1) (bs := (numbersL (cellAt script (at_ + q1)) (repL [(4 : Int), (5 : Int), (8 : Int)] (3 : Int)))) (eb_v 2) (EvO.bor (eo_call h__law_numbers hr (by first | decide | omega) ((cellAt script (at_ + q1)), (repL [(4 : Int), (5 : Int), (8 : Int)] (3 : Int))) nine_pre (ea_cons (ev_call h__law_cell_at hr (by first | decide | omega) (script, (at_ + q1)) (by (try dsimp only); exact (by omega)) (ea_cons (ev_v 0) (ea_cons (ev_add (ev_v 1) (ev_v 3)) ea_nil))) (ea_cons (EvO.ev (eo_rep (as := [(4 : Int), (5 : Int), (8 : Int)]) (i := (3 : Int)) (EvO.bor (eo_lst (r := rInt) (as := [(4 : Int), (5 : Int), (8 : Int)]) (ea_cons ev_int (ea_cons ev_int (ea_cons ev_int ea_nil))) (by simp))) ev_int (by decide))) ea_nil)))) (hcat _)) ?_
    exact bk_end fun G H σ h => ⟨((sq1 ++ (numbersL (cellAt script (at_ + q1)) (repL [(4 : Int), (5 : Int), (8 : Int)] (3 : Int))))), foldl_next mq1 eq1 rfl, G, (Holds.forget 3 h)⟩
  · rw [List.take_length] at eq1
    have hs := eq1
    refine bk_setAt 2 rfl (ev_ifE (et_gt (ev_mod (i := (cellAt script at_)) (j := (7 : Int)) (by decide) (ev_call h__law_cell_at hr (by first | decide | omega) (script, at_) (by (try dsimp only); exact (by omega)) (ea_cons (ev_v 0) (ea_cons (ev_v 1) ea_nil))) ev_int) ev_int) (fun q2 => (ev_add ev_int (ev_mod (i := (sq1.getD ((0 : Int)).toNat 0)) (j := (2 : Int)) (by decide) (ev_atB (r := rInt) (as := sq1) (i := (0 : Int)) (d := 0) (by rw [hs, digs_len]; omega) (eb_v 2) ev_int) ev_int))) (fun q2 => (ev_atB (r := rInt) (as := sq1) (i := (0 : Int)) (d := 0) (by rw [hs, digs_len]; omega) (eb_v 2) ev_int))) ev_int (by rw [hs, digs_len]; omega) ?_
    refine bk_setg 4 sc__law_plan.nd (ev_mod (i := (cellAt script (at_ + (6 : Int)))) (j := (20 : Int)) (by decide) (ev_call h__law_cell_at hr (by first | decide | omega) (script, (at_ + (6 : Int))) (by (try dsimp only); exact (by omega)) (ea_cons (ev_v 0) (ea_cons (ev_add (ev_v 1) ev_int) ea_nil))) ev_int) (fun v__law_start h__law_start => ?_)
    try dsimp only at h__law_start
    refine bk_set 5 sc__law_plan.nd (EvO.ev (eo_call0 h__law_names hr (by first | decide | omega) () trivial rfl)) ?_
    exact bk_retE (x := ((workL ((3 : Int) + (v__law_start % (2 : Int))).toNat (sq1.set ((0 : Int)).toNat (if decide ((0 : Int) < ((cellAt script at_) % (7 : Int))) = true then ((2 : Int) + ((sq1.getD ((0 : Int)).toNat 0) % (2 : Int))) else (sq1.getD ((0 : Int)).toNat 0))) (cutL ((cutL (namesL) (some v__law_start) none) ++ (cutL (namesL) none (some v__law_start))) none (some (16 : Int)))).1)) (em_callP (ss := [.sl 2, .tmp]) h__law_work hr (by first | decide | omega) ((sq1.set ((0 : Int)).toNat (if decide ((0 : Int) < ((cellAt script at_) % (7 : Int))) = true then ((2 : Int) + ((sq1.getD ((0 : Int)).toNat 0) % (2 : Int))) else (sq1.getD ((0 : Int)).toNat 0))), (cutL ((cutL (namesL) (some v__law_start) none) ++ (cutL (namesL) none (some v__law_start))) none (some (16 : Int))), ((3 : Int) + (v__law_start % (2 : Int)))) (plan_pre2 hs h__law_start) (ep_own 2 (ep_tmp (eo_to (EvO.bor (eo_cat (r := rStr) (as := (cutL (namesL) (some v__law_start) none)) (bs := (cutL (namesL) none (some v__law_start))) (EvO.bor (eo_from (Ev.bor (ev_v 5)) (ev_v 4))) (EvO.bor (eo_to (Ev.bor (ev_v 5)) (ev_v 4))) (turn_cat h__law_start))) ev_int) (ep_ty (t := ⟨rInt, ((3 : Int) + (v__law_start % (2 : Int)))⟩) (ev_add ev_int (ev_mod (i := v__law_start) (j := (2 : Int)) (by decide) (ev_v 4) ev_int)) ep_nil)))) (hret.eq (by subst h__law_start hs; rfl))
abbrev s__law_all : Stmt := top 27
theorem sc__law_all : FnScope ["_law_plain", "_law_found", "_law_weight", "_law_work_here"] ["_law_plain"] (defScope s__law_all) := ⟨rfl, rfl, rfl, by decide +kernel, rfl, by decide +kernel, by decide +kernel⟩
abbrev sp__law_all (K : PySem.W.Frag) (d : Nat) : Sp := OSp (fun y : Pl => (y.names.length ≤ 1000) ∧ y.depth < d) (fun y => [⟨(rPl K), y⟩]) (fun y => oLst (rPl K) (y.all))
theorem ok__law_all {f : Addr} {fd : FuncData} (F : FunD K "_law_all" "_law_all" (defArgs s__law_all) (defBody s__law_all) (defScope s__law_all) [] [] f fd) (T : Facts K mg) {d : Nat} (h__law_all : Has P w K mg base "_law_all" (1 + d) (sp__law_all K d)) : FnOk P w K mg base (CXL P w) (1 + d + 1) f fd ["_law_plain"] (sp__law_all K (d + 1)) := by
  refine fn_own F sc__law_all (fun _ => rfl) fun plain hp cdv A outer s H E0 G D hr hret => ?_
  try dsimp only at hp hret
  obtain ⟨hp, hd⟩ := hp
  refine bk_setO 1 sc__law_all.nd (eo_lst (r := (rPl K)) (as := [plain]) (ea_cons (ev_v 0) ea_nil) (by simp)) ?_
  refine bk_if (p := (!decide (plain.kind = ("leaf" : Str)))) (et_neS (ev_pl0 (ev_v 0)) ev_str) (fun c_1 => ?_) (fun c_1 => ?_)
  · refine bk_for (fun sq1 : (List Pl) => [.sh (rPl K) plain, .ow (oLst (rPl K) sq1) none, .no, .no]) (fun i sq1 => sq1 = ((plain.parts).take i).foldl (fun (a : List Pl) (q : Int × Pl) => a ++ q.2.all) ([plain])) ([plain]) (passes_of rfl) (ei_lst (ev_pl2p (leaf_ne c_1) (ev_v 0))) (tg_tup2 (tg_name 2 sc__law_all.nd) (tg_name 3 sc__law_all.nd)) rfl (fun _ _ _ h => h) (fun F iq1 sq1 q1 mq1 eq1 => ?_) (fun sq1 eq1 => ?_)
    · have mm : q1 ∈ plain.parts := List.mem_of_getElem? mq1
      have hq := Pl.part_depth mm
      have hn := names_part mm
      have hl := all_fold eq1
      have hl2 := all_len q1.2
      refine bk_setO 1 sc__law_all.nd (eo_cat (r := (rPl K)) (as := sq1) (bs := (q1.2.all)) (eb_v 1) (EvO.bor (eo_call h__law_all hr (by first | decide | omega) q1.2 ⟨by omega, by omega⟩ (ea_cons (ev_v 3) ea_nil))) (Evl.sz_of (by omega))) ?_
      exact bk_end fun G H σ h => ⟨((sq1 ++ (q1.2.all))), foldl_next mq1 eq1 rfl, G, (Holds.forget 3 (Holds.forget 2 h))⟩
    · rw [List.take_length] at eq1
      subst eq1
      refine bk_then ?_
      exact bk_retv 1 (hret.eqO (as' := (plain.parts.foldl (fun (a : List Pl) (q : Int × Pl) => a ++ q.2.all) ([plain]))) (by first | exact all_done _ | exact all_leaf (leaf_ne c_1)))
  · refine bk_then ?_
    exact bk_retv 1 (hret.eqO (as' := [plain]) (by first | exact all_done _ | exact all_leaf (leaf_ne c_1)))
abbrev s__law_made_of : Stmt := top 33
theorem sc__law_made_of : FnScope ["_law_plain", "_law_parts", "_law_work_here", "_law_weight"] ["_law_plain"] (defScope s__law_made_of) := ⟨rfl, rfl, rfl, by decide +kernel, rfl, by decide +kernel, by decide +kernel⟩
abbrev sp__law_made_of (K : PySem.W.Frag) (d : Nat) : Sp := PSp (fun y : Pl => (PlanOk y) ∧ y.depth < d) (fun y => [⟨(rPl K), y⟩]) (rWk K (cW K)) (fun y => y)
theorem ok__law_made_of {f : Addr} {fd : FuncData} (F : FunD K "_law_made_of" "_law_made_of" (defArgs s__law_made_of) (defBody s__law_made_of) (defScope s__law_made_of) [] [] f fd) (T : Facts K mg) {d : Nat} (h__law_made_of : Has P w K mg base "_law_made_of" (11 + d) (sp__law_made_of K d)) (h_Leaf : HasI P w K mg base "Leaf" (cW K).L 3 (sp_Leaf_init K)) (h_Leaf1 : HasI P w K mg base "Leaf" (cW K).L 3 (sp_Leaf1 K)) (h_LeafK : HasK P w K mg base "Leaf" (cW K).L ["steps"] 3 (sp_Leaf_init K)) (h_Row : HasI P w K mg base "Row" (cW K).R 9 (sp_Lot_init K true)) (h_Bundle : HasI P w K mg base "Bundle" (cW K).B 9 (sp_Lot_init K false)) : FnOk P w K mg base (CXL P w) (11 + d + 1) f fd ["_law_plain"] (sp__law_made_of K (d + 1)) := by
  refine fn_pure F sc__law_made_of (fun _ => rfl) fun plain hp cdv A outer s H E0 G D hr hret hnx => ?_
  try dsimp only at hp hret hnx
  obtain ⟨hp, hd⟩ := hp
  refine bk_if (p := decide (plain.kind = ("leaf" : Str))) (et_eqS (ev_pl0 (ev_v 0)) ev_str) (fun c_1 => ?_) (fun c_1 => ?_)
  · exact bk_ret (x := (Pl.leaf plain.name plain.steps)) (ev_makeK h_LeafK hr (by first | decide | omega) (plain.name, plain.steps) ⟨⟨hp.name.1, hp.name.2.1⟩, hp.steps⟩ (ev_pl1 (ev_v 0)) (ev_pl2s (leaf_of c_1) (ev_v 0)) (frz_wk (w := (Pl.leaf plain.name plain.steps)))) (hret.eq (leaf_eta (leaf_of c_1)))
  · refine bk_then ?_
    refine bk_setLcm (s := (rT2 K rInt (rWk K (cW K)))) (val := fun q1 : (Int × Pl) => (q1.1, (q1.2))) 1 [("_law_weight", 3), ("_law_work_here", 2)] sc__law_made_of.nd (ei_lst (ev_pl2p (leaf_of c_1) (ev_v 0))) (blkOk_by (N := ["_law_plain", "_law_parts", "_law_work_here", "_law_weight"]) (sc := defScope s__law_made_of) (by decide +kernel)) (fun _ => (tg_tup2 (tg_name 3 sc__law_made_of.nd) (tg_name 2 sc__law_made_of.nd))) (fun _ q1 q2 => (ev_tup2 (ea_cons (ev_v 3) (ea_cons (ev_call h__law_made_of hr (by first | decide | omega) q1.2 ⟨hp.part q2, by have := Pl.part_depth q2; omega⟩ (ea_cons (ev_v 2) ea_nil)) ea_nil)))) (by have := hp.few; omega) ?_
    refine bk_setM 2 sc__law_made_of.nd (em_ifE (et_eqS (ev_pl0 (ev_v 0)) ev_str) (fun q3 => (em_make (ss := [.sl 1]) h_Row hr (by first | decide | omega) (plain.name, (plain.parts.map (fun q1 : (Int × Pl) => (q1.1, (q1.2))))) (made_lot hp (leaf_of c_1) q3) (ep_ty (t := ⟨rStr, plain.name⟩) (ev_pl1 (ev_v 0)) (ep_own 1 ep_nil)) (frz_wk (w := (Pl.lot true plain.name (plain.parts.map (fun q1 : (Int × Pl) => (q1.1, (q1.2))))))))) (fun q3 => (em_make (ss := [.sl 1]) h_Bundle hr (by first | decide | omega) (plain.name, (plain.parts.map (fun q1 : (Int × Pl) => (q1.1, (q1.2))))) (made_lot hp (leaf_of c_1) q3) (ep_ty (t := ⟨rStr, plain.name⟩) (ev_pl1 (ev_v 0)) (ep_own 1 ep_nil)) (frz_wk (w := (Pl.lot false plain.name (plain.parts.map (fun q1 : (Int × Pl) => (q1.1, (q1.2)))))))))) ?_
    refine bk_reverse 1 rfl ?_
    refine bk_append 1 rfl (ev_tup2 (ea_cons ev_int (ea_cons (ev_make (ss := []) h_Leaf1 hr (by first | decide | omega) ("zz" : Str) zz_ok (ep_ty (t := ⟨rStr, ("zz" : Str)⟩) ev_str ep_nil) (frz_wk (w := (Pl.leaf ("zz" : Str) none)))) ea_nil))) (Nat.lt_of_succ_le (Evl.sz_of (by have := hp.few; simp; omega))) ?_
    exact bk_ret (x := (if decide (plain.kind = ("row" : Str)) = true then (Pl.lot true plain.name (plain.parts.map (fun q1 : (Int × Pl) => (q1.1, (q1.2))))) else (Pl.lot false plain.name (plain.parts.map (fun q1 : (Int × Pl) => (q1.1, (q1.2))))))) (ev_v 2) (hret.eq (made_eq (leaf_of c_1)))
abbrev s__law_right : Stmt := top 32
theorem sc__law_right : FnScope ["_law_work_here", "_law_plain", "_law_sorts", "_law_parts", "_law_part", "_law_other", "_law_one"] ["_law_work_here", "_law_plain"] (defScope s__law_right) := ⟨rfl, rfl, rfl, by decide +kernel, rfl, by decide +kernel, by decide +kernel⟩
abbrev sp__law_right (K : PySem.W.Frag) (d : Nat) : Sp := PSp (fun y : Pl × Pl => (y.2 = y.1 ∧ PlanOk y.1) ∧ y.1.depth < d) (fun y => [⟨(rWk K (cW K)), y.1⟩, ⟨(rPl K), y.2⟩]) rBool (fun y => true)
theorem ok__law_right {f : Addr} {fd : FuncData} (F : FunD K "_law_right" "_law_right" (defArgs s__law_right) (defBody s__law_right) (defScope s__law_right) [] [] f fd) (T : Facts K mg) {d : Nat} (h__law_right : Has P w K mg base "_law_right" (9 + d) (sp__law_right K d)) (h_m_name : HasV P w K mg base (cW K) "name" 1 (fun y : Pl => y) (fun y : Pl => True) (fun y : Pl => []) rStr (fun y => y.name)) (h_m_names : HasVO P w K mg base (cW K) "names" 8 (fun y : Pl => y) (fun y : Pl => (y.names.length ≤ 1000) ∧ y.depth < 7) (fun y : Pl => []) (fun y => oLst rStr (y.names))) (h_m_parts : HasVO P w K mg base (cW K) "parts" 1 (fun y : Pl => y) (fun y : Pl => True) (fun y : Pl => []) (fun y => oLst (rT2 K rInt (rWk K (cW K))) (y.parts))) (h_m_steps : HasV P w K mg base (cW K) "steps" 1 (fun y : Pl => y) (fun y : Pl => True) (fun y : Pl => []) (rOpt rInt) (fun y => y.steps)) (h__law_all : Has P w K mg base "_law_all" 8 (sp__law_all K 7)) : FnOk P w K mg base (CXL P w) (9 + d + 1) f fd ["_law_work_here", "_law_plain"] (sp__law_right K (d + 1)) := by
  refine fn_pure F sc__law_right (fun _ => rfl) fun y hp cdv A outer s H E0 G D hr hret hnx => ?_
  obtain ⟨work_here, plain⟩ := y
  try dsimp only at hp hret hnx
  obtain ⟨hp, hd⟩ := hp
  obtain ⟨hw, hP⟩ := hp
  have hc := hP.count
  have hdp := hP.deep
  have hfew := hP.few
  refine bk_if (p := ((!true) || ((!decide ((work_here.name) = plain.name)) || (!(PyData.eqv (pdStrs (work_here.names)) (pdStrs ((plain.all).map (fun q3 : Pl => q3.name)))))))) (et_bool (ew_or (et_not (et_val (ev_isiC (b := true) (ev_v 0) (kind_wk T.ok T.ty) (T.ty.work work_here) T.f_isinstance T.c_Work))) (fun q1 => (ew_or (et_neS (ev_vm0 h_m_name hr (by first | decide | omega) work_here trivial (ev_v 0) rfl) (ev_pl1 (ev_v 1))) (fun q2 => (ew_or1 (et_neD hr (eqv_strs (fun z m => (hP.names z m).2.2)) (eqv_strs (fun z m => by rw [all_names] at m; subst hw; exact (hP.names z m).2.2)) (EvO.ev (eo_vm0 h_m_names hr (by first | decide | omega) work_here ⟨by omega, by omega⟩ (ev_v 0) rfl)) (EvO.ev (eo_lcm (val := fun q3 : Pl => q3.name) [("_law_one", 6)] sc__law_right.nd (ei_lst (EvO.ev (eo_call h__law_all hr (by first | decide | omega) plain ⟨by subst hw; omega, by subst hw; omega⟩ (ea_cons (ev_v 1) ea_nil)))) (blkOk_by (N := ["_law_work_here", "_law_plain", "_law_sorts", "_law_parts", "_law_part", "_law_other", "_law_one"]) (sc := defScope s__law_right) (by decide +kernel)) (fun _ => (tg_name 6 sc__law_right.nd)) (fun _ q3 q4 => (ev_pl1 (ev_v 6))) (by rw [all_len]; subst hw; omega)))))))))) (fun c_1 => ?_) (fun c_1 => ?_)
  · exact bk_ret (x := false) ev_bool (hret.eq (absurd c_1 (by rw [show (plain.all.map fun q : Pl => q.name) = plain.names from all_names plain, pdStrs_eqv]; subst hw; simp)))
  · refine bk_then ?_
    refine bk_setg 2 sc__law_right.nd (EvO.ev (eo_lst (r := rBool) (as := [(work_here).isLeaf, (work_here).isRow, (work_here).isBun]) (ea_cons (ev_isiC (b := (work_here).isLeaf) (ev_v 0) (kind_wk T.ok T.ty) (T.ty.leaf work_here) T.f_isinstance T.c_Leaf) (ea_cons (ev_isiC (b := (work_here).isRow) (ev_v 0) (kind_wk T.ok T.ty) (T.ty.row work_here) T.f_isinstance T.c_Row) (ea_cons (ev_isiC (b := (work_here).isBun) (ev_v 0) (kind_wk T.ok T.ty) (T.ty.bun work_here) T.f_isinstance T.c_Bundle) ea_nil))) (by simp))) (fun v__law_sorts h__law_sorts => ?_)
    try dsimp only at h__law_sorts
    refine bk_if (p := (!(PyData.eqv (.list (v__law_sorts.map .bool)) (.list ([decide (plain.kind = ("leaf" : Str)), decide (plain.kind = ("row" : Str)), decide (plain.kind = ("bundle" : Str))].map .bool))))) (et_neD hr eqv_bools eqv_bools (ev_v 2) (EvO.ev (eo_lst (r := rBool) (as := [decide (plain.kind = ("leaf" : Str)), decide (plain.kind = ("row" : Str)), decide (plain.kind = ("bundle" : Str))]) (ea_cons (ev_eqS (ev_pl0 (ev_v 1)) ev_str) (ea_cons (ev_eqS (ev_pl0 (ev_v 1)) ev_str) (ea_cons (ev_eqS (ev_pl0 (ev_v 1)) ev_str) ea_nil))) (by simp)))) (fun c_2 => ?_) (fun c_2 => ?_)
    · exact bk_ret (x := false) ev_bool (hret.eq (absurd c_2 (by subst h__law_sorts hw; rw [bools_eqv, sorts_eq]; simp)))
    · refine bk_then ?_
      refine bk_if (p := decide (plain.kind = ("leaf" : Str))) (et_eqS (ev_pl0 (ev_v 1)) ev_str) (fun c_3 => ?_) (fun c_3 => ?_)
      · exact bk_ret (x := ((PyData.eqv (.list []) (.list [])) && (PyData.eqv (pdOpt (work_here.steps)) (pdOpt plain.steps)))) (ev_and (ev_eqD hr (show Eqv K (rLst (rT2 K rInt (rWk K (cW K)))) (work_here.parts) (.list []) from (by subst hw; rw [leaf_steps (leaf_of c_3)]; exact eqv_nil)) eqv_nil (EvO.ev (eo_vm0 h_m_parts hr (by first | decide | omega) work_here trivial (ev_v 0) rfl)) (EvO.ev (eo_nil (r := (rT2 K rInt (rWk K (cW K))))))) (fun q5 => (ev_one (ev_eqD hr eqv_opt eqv_opt (ev_vm0 h_m_steps hr (by first | decide | omega) work_here trivial (ev_v 0) rfl) (ev_pl2s (leaf_of c_3) (ev_v 1)))))) (hret.eq (by subst hw; rw [pdOpt_eqv]; simp [PyData.eqv, PyData.eqvAll]))
      · refine bk_then ?_
        refine bk_forget 2 ?_
        refine bk_open2 (r := rWk K (cW K)) (s := rPl K) (x := work_here) (y := plain) rfl (by simp) (fun E1 v0 v1 comp hm k0 k1 => ?_)
        have hret1 : RetOk E1 D rBool true := fun v G H l rv => hret v G H (comp G H l) rv
        refine bk_setN 3 sc__law_right.nd (eo_vm0 h_m_parts hr (by first | decide | omega) work_here trivial (Ev.ex (ev_v 0)) rfl) ?_
        refine bk_if (p := ((!((work_here.steps)).isNone) || ((!true) || (!decide (((work_here.parts).length : Int) = (plain.parts.length : Int)))))) (et_bool (ew_or (et_notN nn_int (ev_vm0 h_m_steps hr (by first | decide | omega) work_here trivial (Ev.ex (ev_v 0)) rfl) ev_unit) (fun q6 => (ew_or (et_not (et_val (ev_isi (T := "list") (C := "list") (b := true) (Ev.nw (ev_v 3)) kind_lst (by decide +kernel) T.f_isinstance T.f_list (by decide +kernel)))) (fun q7 => (ew_or1 (et_neI (ev_lenB (Ev.bor (Ev.nw (ev_v 3))) T.f_len) (ev_lenB (Ev.bor (ev_pl2p (leaf_of c_3) (Ev.ex (ev_v 1)))) T.f_len)))))))) (fun c_4 => ?_) (fun c_4 => ?_)
        · exact bk_ret (x := false) ev_bool (hret1.eq (absurd c_4 (by subst hw; rw [lot_steps (leaf_of c_3)]; simp)))
        · refine bk_then ?_
          refine bk_for (fun _ : Unit => [.sh (rEx (rWk K (cW K)) v0) work_here, .sh (rEx (rPl K) v1) plain, .no, .sh (rNw E1.G (rT2 K rInt (rWk K (cW K)))) (work_here.parts), .no, .no, .no]) (fun _ _ => True) () (passes_of rfl) (ei_zip (Ev.nw (ev_v 3)) (ev_pl2p (leaf_of c_3) (Ev.ex (ev_v 1))) T.f_zip) (tg_tup2 (tg_name 4 sc__law_right.nd) (tg_name 5 sc__law_right.nd)) trivial (fun _ _ _ h => h) (fun F iq8 _ q8 mq8 _ => ?_) (fun _ _ => ?_)
          · have gq8 := mq8
            have mq8 := List.mem_of_getElem? mq8
            refine bk_if (p := ((!true) || ((!decide (q8.1.1 = q8.2.1)) || (!(true))))) (et_bool (ew_or (et_not (et_val (ev_isi (T := "tuple") (C := "tuple") (b := true) (ev_v 4) kind_T2 (by decide +kernel) T.f_isinstance T.f_tuple (by decide +kernel)))) (fun q9 => (ew_or (et_neI (ev_fst (ev_v 4)) (ev_fst (ev_v 5))) (fun q10 => (ew_or1 (et_not (et_val (ev_call h__law_right hr (by first | decide | omega) (q8.1.2, q8.2.2) (by (try dsimp only); exact ⟨⟨by subst hw; rw [(zip_self mq8).1], by subst hw; exact hP.part (zip_self mq8).2⟩, by subst hw; have := Pl.part_depth (zip_self mq8).2; omega⟩) (ea_cons (ev_snd (ev_v 4)) (ea_cons (ev_snd (ev_v 5)) ea_nil))))))))))) (fun c_5 => ?_) (fun c_5 => ?_)
            · exact bk_ret (x := false) ev_bool (hret1.eq (absurd c_5 (by subst hw; obtain ⟨z1, z2⟩ := zip_self mq8; rw [z1]; simp)))
            · refine bk_then ?_
              exact bk_end fun G H σ h => ⟨(), trivial, G, (Holds.forget 5 (Holds.forget 4 h))⟩
          · refine bk_reown 1 (n := 5) hm rfl rfl rfl k0 k1 rfl (by decide) (fun E2 p2 vs2 comp2 => ?_)
            have hret2 : RetOk E2 D rBool true := fun v G H l rv => hret1 v G H (comp2 G H l) rv
            refine bk_clear 3 rfl ?_
            refine bk_clearT (eo_vm0 h_m_names hr (by first | decide | omega) work_here ⟨by omega, by omega⟩ (ev_v 0) rfl) ?_
            exact bk_ret (x := (decide (((work_here.parts).length : Int) = (plain.parts.length : Int)) && (!(PyData.eqv (pdStrs (work_here.names)) (.list []))))) (ev_and (ev_eqI (ev_lenB (EvO.bor (eo_vm0 h_m_parts hr (by first | decide | omega) work_here trivial (ev_v 0) rfl)) T.f_len) (ev_lenB (Ev.bor (ev_pl2p (leaf_of c_3) (ev_v 1))) T.f_len)) (fun q11 => (ev_one (ev_neD hr (eqv_strs (fun z m => (hP.names z m).2.2)) eqv_nil (EvO.ev (eo_vm0 h_m_names hr (by first | decide | omega) work_here ⟨by omega, by omega⟩ (ev_v 0) rfl)) (EvO.ev (eo_nil (r := rStr))))))) (hret2.eq (by subst hw; rw [pdStrs_nil, decide_eq_false (names_ne _)]; simp))
abbrev s_law : Stmt := top 34
theorem sc_law : FnScope ["_law_script", "_law_plain", "_law_work_here"] ["_law_script"] (defScope s_law) := ⟨rfl, rfl, rfl, by decide +kernel, rfl, by decide +kernel, by decide +kernel⟩
abbrev sp_law (K : PySem.W.Frag) : Sp := PSp (fun y : (List Int) => y.length ≤ 63) (fun y => [⟨(rSeq K rInt), y⟩]) rBool (fun y => true)
theorem ok_law {f : Addr} {fd : FuncData} (F : FunD K "law" "law" (defArgs s_law) (defBody s_law) (defScope s_law) [] [] f fd) (T : Facts K mg) (h__law_plan : Has P w K mg base "_law_plan" 8 (sp__law_plan K)) (h__law_made_of : Has P w K mg base "_law_made_of" 18 (sp__law_made_of K 7)) (h__law_right : Has P w K mg base "_law_right" 16 (sp__law_right K 7)) (h_Leaf1 : HasI P w K mg base "Leaf" (cW K).L 3 (sp_Leaf1 K)) (h_m_steps : HasV P w K mg base (cW K) "steps" 1 (fun y : Pl => y) (fun y : Pl => True) (fun y : Pl => []) (rOpt rInt) (fun y => y.steps)) : FnOk P w K mg base (CXL P w) 19 f fd ["_law_script"] (sp_law K) := by
  refine fn_pure F sc_law (fun _ => rfl) fun script hp cdv A outer s H E0 G D hr hret hnx => ?_
  try dsimp only at hp hret hnx
  refine bk_setg 1 sc_law.nd (ev_call h__law_plan hr (by first | decide | omega) (script, (0 : Int)) (by (try dsimp only); exact (by omega)) (ea_cons (ev_v 0) (ea_cons ev_int ea_nil))) (fun v__law_plain h__law_plain => ?_)
  try dsimp only at h__law_plain
  refine bk_try ?_
  refine bk_set 2 sc_law.nd (ev_call h__law_made_of hr (by first | decide | omega) v__law_plain ⟨by subst h__law_plain; exact planL_ok _ _, by subst h__law_plain; have := planL_depth script 0; omega⟩ (ea_cons (ev_v 1) ea_nil)) ?_
  exact bk_ret (x := ((true) && ((true) && (((Pl.leaf ("row" : Str) none).steps)).isNone))) (ev_and (ev_call h__law_right hr (by first | decide | omega) ((v__law_plain), v__law_plain) (by (try dsimp only); exact ⟨⟨rfl, by subst h__law_plain; exact planL_ok _ _⟩, by subst h__law_plain; have := planL_depth script 0; omega⟩) (ea_cons (ev_v 2) (ea_cons (ev_v 1) ea_nil))) (fun q1 => (ev_and (ev_call h__law_right hr (by first | decide | omega) ((v__law_plain), v__law_plain) (by (try dsimp only); exact ⟨⟨rfl, by subst h__law_plain; exact planL_ok _ _⟩, by subst h__law_plain; have := planL_depth script 0; omega⟩) (ea_cons (ev_v 2) (ea_cons (ev_v 1) ea_nil))) (fun q2 => (ev_one (ev_isN nn_int (ev_vm0 h_m_steps hr (by first | decide | omega) (Pl.leaf ("row" : Str) none) trivial (ev_make (ss := []) h_Leaf1 hr (by first | decide | omega) ("row" : Str) (by decide +kernel) (ep_ty (t := ⟨rStr, ("row" : Str)⟩) ev_str ep_nil) (frz_wk (w := (Pl.leaf ("row" : Str) none)))) rfl) ev_unit)))))) (hret.eq rfl)
end
end Hf


/-! a Hook over all objects below a bound -/
namespace Hk
open PySem PySem.Spec PyProof.Rows L2 He
/-- the module's names first, then all addresses below n -/
def ads (n : Nat) : List Addr := mainGlobals :: List.range n
abbrev Seen : Type := AlT × Bool
def see (n : Nat) (fa : List Fa) (fn : List DefD) (ts : List Tab) (ex : PySem.W.Frag → Bool) (g : Addr → Option Obj) : Seen :=
  (obsT fa fn ts (frT g (ads n)), ex (frT g (ads n)))
structure Tells (fa : List Fa) (fn : List DefD) (ts : List Tab) (ex : PySem.W.Frag → Bool) (w : World) (K : PySem.W.Frag) : Prop where
  t : SaysT fa fn ts w K
  more : ex K = true
def hk (n : Nat) (fa : List Fa) (fn : List DefD) (ts : List Tab) (ex : PySem.W.Frag → Bool) : PySem.W.Hook where
  α := Seen
  obs := fun s => see n fa fn ts ex s.heap.get?
  val := fun w => (valT fn ts w, true)
  says := fun w h => ∃ K : PySem.W.Frag, K.In h ∧ Tells fa fn ts ex w K
  of := fun _ _ e => ⟨_, frT_in, congrArg (fun z : Seen => z.1) e, congrArg (fun z : Seen => z.2) e⟩
  keeps := fun _ _ _ ⟨K, hK, c⟩ k => ⟨K, PySem.W.Frag.In.keeps hK k, c⟩
theorem see_eq {n : Nat} {fa : List Fa} {fn : List DefD} {ts : List Tab} {ex : PySem.W.Frag → Bool} {g : Addr → Option Obj} {s : Shared} (h : ∀ a, g a = s.heap.get? a) : see n fa fn ts ex g = (hk n fa fn ts ex).obs s := by
  have e : g = s.heap.get? := funext h
  rw [e]
  rfl
end Hk

set_option maxHeartbeats 0
namespace Hd
open PySem PySem.Spec PyProof.Rows L2 PySem.W PySem.Calls Hf
def d_Work_init : He.DefD := ⟨("Work", some "__init__"), "__init__", "Work.__init__", defArgs s_Work_init, defBody s_Work_init, defScope s_Work_init, [], []⟩
def d_Leaf_init : He.DefD := ⟨("Leaf", some "__init__"), "__init__", "Leaf.__init__", defArgs s_Leaf_init, defBody s_Leaf_init, defScope s_Leaf_init, [.non], []⟩
def d_Lot_init : He.DefD := ⟨("Lot", some "__init__"), "__init__", "Lot.__init__", defArgs s_Lot_init, defBody s_Lot_init, defScope s_Lot_init, [], []⟩
def d_is_number : He.DefD := ⟨("is_number", none), "is_number", "is_number", defArgs s_is_number, defBody s_is_number, defScope s_is_number, [], []⟩
def d_is_name : He.DefD := ⟨("is_name", none), "is_name", "is_name", defArgs s_is_name, defBody s_is_name, defScope s_is_name, [], []⟩
def d_are_parts : He.DefD := ⟨("are_parts", none), "are_parts", "are_parts", defArgs s_are_parts, defBody s_are_parts, defScope s_are_parts, [], []⟩
def d_Work_names : He.DefD := ⟨("Work", some "names"), "names", "Work.names", defArgs s_Work_names, defBody s_Work_names, defScope s_Work_names, [], []⟩
def d_Work_depth : He.DefD := ⟨("Work", some "depth"), "depth", "Work.depth", defArgs s_Work_depth, defBody s_Work_depth, defScope s_Work_depth, [], []⟩
def d_Work_name : He.DefD := ⟨("Work", some "name"), "name", "Work.name", defArgs s_Work_name, defBody s_Work_name, defScope s_Work_name, [], []⟩
def d_Work_parts : He.DefD := ⟨("Work", some "parts"), "parts", "Work.parts", defArgs s_Work_parts, defBody s_Work_parts, defScope s_Work_parts, [], []⟩
def d_Work_steps : He.DefD := ⟨("Work", some "steps"), "steps", "Work.steps", defArgs s_Work_steps, defBody s_Work_steps, defScope s_Work_steps, [], []⟩
def d__law_cell_at : He.DefD := ⟨("_law_cell_at", none), "_law_cell_at", "_law_cell_at", defArgs s__law_cell_at, defBody s__law_cell_at, defScope s__law_cell_at, [], []⟩
def d__law_numbers : He.DefD := ⟨("_law_numbers", none), "_law_numbers", "_law_numbers", defArgs s__law_numbers, defBody s__law_numbers, defScope s__law_numbers, [], []⟩
def d__law_names : He.DefD := ⟨("_law_names", none), "_law_names", "_law_names", defArgs s__law_names, defBody s__law_names, defScope s__law_names, [], []⟩
def d__law_work : He.DefD := ⟨("_law_work", none), "_law_work", "_law_work", defArgs s__law_work, defBody s__law_work, defScope s__law_work, [], []⟩
def d__law_plan : He.DefD := ⟨("_law_plan", none), "_law_plan", "_law_plan", defArgs s__law_plan, defBody s__law_plan, defScope s__law_plan, [], []⟩
def d__law_all : He.DefD := ⟨("_law_all", none), "_law_all", "_law_all", defArgs s__law_all, defBody s__law_all, defScope s__law_all, [], []⟩
def d__law_made_of : He.DefD := ⟨("_law_made_of", none), "_law_made_of", "_law_made_of", defArgs s__law_made_of, defBody s__law_made_of, defScope s__law_made_of, [], []⟩
def d__law_right : He.DefD := ⟨("_law_right", none), "_law_right", "_law_right", defArgs s__law_right, defBody s__law_right, defScope s__law_right, [], []⟩
def d_law : He.DefD := ⟨("law", none), "law", "law", defArgs s_law, defBody s_law, defScope s_law, [], []⟩
def fn : List He.DefD := [d_Work_init, d_Leaf_init, d_Lot_init, d_is_number, d_is_name, d_are_parts, d_Work_names, d_Work_depth, d_Work_name, d_Work_parts, d_Work_steps, d__law_cell_at, d__law_numbers, d__law_names, d__law_work, d__law_plan, d__law_all, d__law_made_of, d__law_right, d_law]
def fa0 : List He.Fa := [.glo "is_number", .glo "is_name", .glo "are_parts", .glo "_law_cell_at", .glo "_law_numbers", .glo "_law_names", .glo "_law_work", .glo "_law_plan", .glo "_law_all", .glo "_law_made_of", .glo "_law_right", .glo "law", .free "len", .free "abs", .free "all", .free "isinstance", .free "tuple", .free "list", .free "int", .free "str", .free "bool", .free "range", .free "max", .free "min", .free "set", .free "zip", .free "sum", .int "LONGEST" 8, .int "STEPS" 1000, .int "WEIGHT" 100, .int "PARTS" 6, .int "WORKS" 20, .int "DEEP" 5, .str "LETTERS" letters, .glo "Work", .glo "Leaf", .glo "Row", .glo "Bundle", .cls "Leaf", .mkr "Leaf"]
def fa1 : List He.Fa := [.cls "Row", .mkr "Row", .cls "Bundle", .mkr "Bundle", .noat "Leaf" "called", .noat "Leaf" "held", .noat "Leaf" "many", .noat "Row" "called", .noat "Row" "held", .noat "Row" "many", .noat "Bundle" "called", .noat "Bundle" "held", .noat "Bundle" "many", .meth "Leaf" "depth", .meth "Leaf" "name", .meth "Leaf" "names", .meth "Leaf" "parts", .meth "Leaf" "steps", .meth "Row" "depth", .meth "Row" "name", .meth "Row" "names", .meth "Row" "parts", .meth "Row" "steps", .meth "Bundle" "depth", .meth "Bundle" "name", .meth "Bundle" "names", .meth "Bundle" "parts", .meth "Bundle" "steps"]
def fa : List He.Fa := fa0 ++ fa1
def exs (K : PySem.W.Frag) : List Bool := [tyB K, clsB K (cW K).L, clsB K (cW K).R, clsB K (cW K).B, kitB3 K (He.ga K "Work") true true true, kitB3 K (cW K).L true false false, kitB3 K (cW K).R false true false, kitB3 K (cW K).B false false true, unbB K (He.ga K "Work") "__init__", decide (He.ma K (He.ga K "Row") "__init__" = He.ma K (He.ga K "Lot") "__init__"), decide (He.ma K (He.ga K "Bundle") "__init__" = He.ma K (He.ga K "Lot") "__init__"), decide (He.ma K (He.ga K "Leaf") "depth" = He.ma K (He.ga K "Work") "depth"), decide (He.ma K (He.ga K "Row") "depth" = He.ma K (He.ga K "Work") "depth"), decide (He.ma K (He.ga K "Bundle") "depth" = He.ma K (He.ga K "Work") "depth"), decide (He.ma K (He.ga K "Leaf") "name" = He.ma K (He.ga K "Work") "name"), decide (He.ma K (He.ga K "Row") "name" = He.ma K (He.ga K "Work") "name"), decide (He.ma K (He.ga K "Bundle") "name" = He.ma K (He.ga K "Work") "name"), decide (He.ma K (He.ga K "Leaf") "names" = He.ma K (He.ga K "Work") "names"), decide (He.ma K (He.ga K "Row") "names" = He.ma K (He.ga K "Work") "names"), decide (He.ma K (He.ga K "Bundle") "names" = He.ma K (He.ga K "Work") "names"), decide (He.ma K (He.ga K "Leaf") "parts" = He.ma K (He.ga K "Work") "parts"), decide (He.ma K (He.ga K "Row") "parts" = He.ma K (He.ga K "Work") "parts"), decide (He.ma K (He.ga K "Bundle") "parts" = He.ma K (He.ga K "Work") "parts"), decide (He.ma K (He.ga K "Leaf") "steps" = He.ma K (He.ga K "Work") "steps"), decide (He.ma K (He.ga K "Row") "steps" = He.ma K (He.ga K "Work") "steps"), decide (He.ma K (He.ga K "Bundle") "steps" = He.ma K (He.ga K "Work") "steps")]
def ex (K : PySem.W.Frag) : Bool := (exs K).all id
abbrev R : PySem.W.OpenRow := PySem.W.OpenLaw.row PySem.Challenge.rw_howfar_k01_works
def ts : List He.Tab := []
abbrev hk : PySem.W.Hook := Hk.hk 900 fa fn ts ex
def ob (s : PySem.W.SharedT) : Hk.Seen := Hk.see 900 fa fn ts ex (HandSHeadRun.getT s)
theorem ob_eq (s : PySem.W.SharedT) : ob s = hk.obs s.abs := Hk.see_eq (HandSHeadRun.getT_eq s)
def names0 : List PySem.Str := ["_wall", "FarError", "BadWork", "LETTERS", "LONGEST", "STEPS", "WEIGHT", "PARTS", "WORKS", "DEEP", "is_number", "is_name", "Work", "Leaf", "are_parts", "Lot"]
def names1 : List PySem.Str := ["Row", "Bundle", "_law_cell_at", "_law_numbers", "_law_names", "_law_work", "_law_plan", "_law_made", "_law_all", "_law_leaves", "_law_common", "_law_share", "_law_far", "_law_right", "_law_made_of"]
def names : List PySem.Str := names0 ++ names1
theorem run (w : World) : HandSHeadRun.RunEq R (PySem.W.view R.prog [34]) hk ob 20000 names w := by
  intro os
  kernel_rfl
theorem facts {P : Program} {w : World} {K : PySem.W.Frag} {h : Heap} {mg : Str → Option Value} {f : Addr} (X : K.In h) (G : h.Ns mainGlobals mg) (hfa : mg ("law" : Str) = some (.ref f)) (c : Hk.Tells fa fn ts ex w K) :
    ∃ fd : FuncData, (∀ (s : Shared) (v : Value), BindsTo s fd ⟨[v], []⟩ [("_law_script", v)]) ∧ ∀ base : Heap, K.In base → base.Ns mainGlobals mg → FnOk P w K mg base CX0 19 f fd ["_law_script"] (sp_law K) := by
  have cd := c.t.d
  obtain ⟨fd_Work_init, F_Work_init⟩ := cd.def_ 0 (d := d_Work_init) rfl
  obtain ⟨fd_Leaf_init, F_Leaf_init⟩ := cd.def_ 1 (d := d_Leaf_init) rfl
  obtain ⟨fd_Lot_init, F_Lot_init⟩ := cd.def_ 2 (d := d_Lot_init) rfl
  obtain ⟨fd_is_number, F_is_number⟩ := cd.def_ 3 (d := d_is_number) rfl
  obtain ⟨fd_is_name, F_is_name⟩ := cd.def_ 4 (d := d_is_name) rfl
  obtain ⟨fd_are_parts, F_are_parts⟩ := cd.def_ 5 (d := d_are_parts) rfl
  obtain ⟨fd_Work_names, F_Work_names⟩ := cd.def_ 6 (d := d_Work_names) rfl
  obtain ⟨fd_Work_depth, F_Work_depth⟩ := cd.def_ 7 (d := d_Work_depth) rfl
  obtain ⟨fd_Work_name, F_Work_name⟩ := cd.def_ 8 (d := d_Work_name) rfl
  obtain ⟨fd_Work_parts, F_Work_parts⟩ := cd.def_ 9 (d := d_Work_parts) rfl
  obtain ⟨fd_Work_steps, F_Work_steps⟩ := cd.def_ 10 (d := d_Work_steps) rfl
  obtain ⟨fd__law_cell_at, F__law_cell_at⟩ := cd.def_ 11 (d := d__law_cell_at) rfl
  obtain ⟨fd__law_numbers, F__law_numbers⟩ := cd.def_ 12 (d := d__law_numbers) rfl
  obtain ⟨fd__law_names, F__law_names⟩ := cd.def_ 13 (d := d__law_names) rfl
  obtain ⟨fd__law_work, F__law_work⟩ := cd.def_ 14 (d := d__law_work) rfl
  obtain ⟨fd__law_plan, F__law_plan⟩ := cd.def_ 15 (d := d__law_plan) rfl
  obtain ⟨fd__law_all, F__law_all⟩ := cd.def_ 16 (d := d__law_all) rfl
  obtain ⟨fd__law_made_of, F__law_made_of⟩ := cd.def_ 17 (d := d__law_made_of) rfl
  obtain ⟨fd__law_right, F__law_right⟩ := cd.def_ 18 (d := d__law_right) rfl
  obtain ⟨fd_law, F_law⟩ := cd.def_ 19 (d := d_law) rfl
  have cl : ∀ w, Cls K ((cW K).of w) := ofW (c := cW K) (p := fun C => Cls K C) (He.cls_ok (cd.fact 38 (f := .cls "Leaf") rfl)) (He.cls_ok (cd.fact 40 (f := .cls "Row") rfl)) (He.cls_ok (cd.fact 42 (f := .cls "Bundle") rfl))
  have na_called : ∀ w, NoAttr K ((cW K).of w) "called" := ofW (c := cW K) (p := fun C => NoAttr K C "called") (He.noat_ok (cd.fact 44 (f := .noat "Leaf" "called") rfl)) (He.noat_ok (cd.fact 47 (f := .noat "Row" "called") rfl)) (He.noat_ok (cd.fact 50 (f := .noat "Bundle" "called") rfl))
  have na_held : ∀ w, NoAttr K ((cW K).of w) "held" := ofW (c := cW K) (p := fun C => NoAttr K C "held") (He.noat_ok (cd.fact 45 (f := .noat "Leaf" "held") rfl)) (He.noat_ok (cd.fact 48 (f := .noat "Row" "held") rfl)) (He.noat_ok (cd.fact 51 (f := .noat "Bundle" "held") rfl))
  have na_many : ∀ w, NoAttr K ((cW K).of w) "many" := ofW (c := cW K) (p := fun C => NoAttr K C "many") (He.noat_ok (cd.fact 46 (f := .noat "Leaf" "many") rfl)) (He.noat_ok (cd.fact 49 (f := .noat "Row" "many") rfl)) (He.noat_ok (cd.fact 52 (f := .noat "Bundle" "many") rfl))
  have T : Facts K mg := { f_len := He.free_ok X G (cd.fact 12 (f := .free "len") rfl), f_abs := He.free_ok X G (cd.fact 13 (f := .free "abs") rfl), f_all := He.free_ok X G (cd.fact 14 (f := .free "all") rfl), f_isinstance := He.free_ok X G (cd.fact 15 (f := .free "isinstance") rfl), f_tuple := He.free_ok X G (cd.fact 16 (f := .free "tuple") rfl), f_list := He.free_ok X G (cd.fact 17 (f := .free "list") rfl), f_int := He.free_ok X G (cd.fact 18 (f := .free "int") rfl), f_str := He.free_ok X G (cd.fact 19 (f := .free "str") rfl), f_bool := He.free_ok X G (cd.fact 20 (f := .free "bool") rfl), f_range := He.free_ok X G (cd.fact 21 (f := .free "range") rfl), f_max := He.free_ok X G (cd.fact 22 (f := .free "max") rfl), f_min := He.free_ok X G (cd.fact 23 (f := .free "min") rfl), f_set := He.free_ok X G (cd.fact 24 (f := .free "set") rfl), f_zip := He.free_ok X G (cd.fact 25 (f := .free "zip") rfl), f_sum := He.free_ok X G (cd.fact 26 (f := .free "sum") rfl), g_LONGEST := He.int_ok X G (cd.fact 27 (f := .int "LONGEST" 8) rfl), g_STEPS := He.int_ok X G (cd.fact 28 (f := .int "STEPS" 1000) rfl), g_WEIGHT := He.int_ok X G (cd.fact 29 (f := .int "WEIGHT" 100) rfl), g_PARTS := He.int_ok X G (cd.fact 30 (f := .int "PARTS" 6) rfl), g_WORKS := He.int_ok X G (cd.fact 31 (f := .int "WORKS" 20) rfl), g_DEEP := He.int_ok X G (cd.fact 32 (f := .int "DEEP" 5) rfl), g_LETTERS := He.str_ok X G (cd.fact 33 (f := .str "LETTERS" letters) rfl), c_Work := He.glo_ok X G (cd.fact 34 (f := .glo "Work") rfl), c_Leaf := He.glo_ok X G (cd.fact 35 (f := .glo "Leaf") rfl), c_Row := He.glo_ok X G (cd.fact 36 (f := .glo "Row") rfl), c_Bundle := He.glo_ok X G (cd.fact 37 (f := .glo "Bundle") rfl), ok := ⟨cl, na_called, na_held, na_many⟩, ty := wcTy_of (bAt c.more 0 (b := tyB K) rfl) (bAt c.more 1 (b := clsB K (cW K).L) rfl) (bAt c.more 2 (b := clsB K (cW K).R) rfl) (bAt c.more 3 (b := clsB K (cW K).B) rfl) (bAt c.more 4 (b := kitB3 K (He.ga K "Work") true true true) rfl) (bAt c.more 5 (b := kitB3 K (cW K).L true false false) rfl) (bAt c.more 6 (b := kitB3 K (cW K).R false true false) rfl) (bAt c.more 7 (b := kitB3 K (cW K).B false false true) rfl) }
  have e := hfa.symm.trans (He.glo_ok X G (cd.fact 11 (f := .glo "law") rfl))
  cases e
  have bl := FunD.bindsA (ps := ["_law_script"]) F_law fun _ _ _ _ _ _ us hl => match us, hl with | [_], _ => rfl
  refine ⟨fd_law, fun s v => bl s [v] rfl, fun base _ _ => ?_⟩
  have o_is_number := ok_is_number (P := P) (w := w) (base := base) F_is_number T
  have h_is_number : Has P w K mg base "is_number" 1 (sp_is_number K) := Has.mk0 (He.glo_ok X G (cd.fact 0 (f := .glo "is_number") rfl)) F_is_number.kp (FunD.bindsN F_is_number fun _ _ _ _ _ _ us hl => match us, hl with | [_, _, _], _ => rfl) o_is_number
  have o_is_name := ok_is_name (P := P) (w := w) (base := base) F_is_name T
  have h_is_name : Has P w K mg base "is_name" 1 (sp_is_name K) := Has.mk0 (He.glo_ok X G (cd.fact 1 (f := .glo "is_name") rfl)) F_is_name.kp (FunD.bindsN F_is_name fun _ _ _ _ _ _ us hl => match us, hl with | [_], _ => rfl) o_is_name
  have o_are_parts := ok_are_parts (P := P) (w := w) (base := base) F_are_parts T h_is_number
  have h_are_parts : Has P w K mg base "are_parts" 2 (sp_are_parts K) := Has.mk0 (He.glo_ok X G (cd.fact 2 (f := .glo "are_parts") rfl)) F_are_parts.kp (FunD.bindsN F_are_parts fun _ _ _ _ _ _ us hl => match us, hl with | [_], _ => rfl) o_are_parts
  have o_Work_names : ∀ d : Nat, FnOk P w K mg base (CXL P w) (1 + d) (He.fAd K d_Work_names.at_) fd_Work_names ["self"] (sp_Work_names K d) := by
    intro d
    induction d with
    | zero => exact fn_vac (vac_O (fun y h => absurd h.2 (Nat.not_lt_zero _)))
    | succ d ih => exact ok_Work_names F_Work_names T (HasVO.mk cl (ofW (c := cW K) (p := fun C => Meth K C "names" (He.ma K (He.ga K "Work") "names")) (meth_eq (He.meth_ok (cd.fact 55 (f := .meth "Leaf" "names") rfl)) (of_decide_eq_true (bAt c.more 17 (b := decide (He.ma K (He.ga K "Leaf") "names" = He.ma K (He.ga K "Work") "names")) rfl))) (meth_eq (He.meth_ok (cd.fact 60 (f := .meth "Row" "names") rfl)) (of_decide_eq_true (bAt c.more 18 (b := decide (He.ma K (He.ga K "Row") "names" = He.ma K (He.ga K "Work") "names")) rfl))) (meth_eq (He.meth_ok (cd.fact 65 (f := .meth "Bundle" "names") rfl)) (of_decide_eq_true (bAt c.more 19 (b := decide (He.ma K (He.ga K "Bundle") "names" = He.ma K (He.ga K "Work") "names")) rfl)))) (FunD.bindsN F_Work_names fun _ _ _ _ _ _ us hl => match us, hl with | [_], _ => rfl) ih)
  have h_m_names : HasVO P w K mg base (cW K) "names" 8 (fun y : Pl => y) (fun y : Pl => (y.names.length ≤ 1000) ∧ y.depth < 7) (fun y : Pl => []) (fun y => oLst rStr (y.names)) := HasVO.mk cl (ofW (c := cW K) (p := fun C => Meth K C "names" (He.ma K (He.ga K "Work") "names")) (meth_eq (He.meth_ok (cd.fact 55 (f := .meth "Leaf" "names") rfl)) (of_decide_eq_true (bAt c.more 17 (b := decide (He.ma K (He.ga K "Leaf") "names" = He.ma K (He.ga K "Work") "names")) rfl))) (meth_eq (He.meth_ok (cd.fact 60 (f := .meth "Row" "names") rfl)) (of_decide_eq_true (bAt c.more 18 (b := decide (He.ma K (He.ga K "Row") "names" = He.ma K (He.ga K "Work") "names")) rfl))) (meth_eq (He.meth_ok (cd.fact 65 (f := .meth "Bundle" "names") rfl)) (of_decide_eq_true (bAt c.more 19 (b := decide (He.ma K (He.ga K "Bundle") "names" = He.ma K (He.ga K "Work") "names")) rfl)))) (FunD.bindsN F_Work_names fun _ _ _ _ _ _ us hl => match us, hl with | [_], _ => rfl) (o_Work_names 7)
  have o_Work_depth : ∀ d : Nat, FnOk P w K mg base (CXL P w) (1 + d) (He.fAd K d_Work_depth.at_) fd_Work_depth ["self"] (sp_Work_depth K d) := by
    intro d
    induction d with
    | zero => exact fn_vac (vac_P (fun y h => absurd h.2 (Nat.not_lt_zero _)))
    | succ d ih => exact ok_Work_depth F_Work_depth T (HasV.mk cl (ofW (c := cW K) (p := fun C => Meth K C "depth" (He.ma K (He.ga K "Work") "depth")) (meth_eq (He.meth_ok (cd.fact 53 (f := .meth "Leaf" "depth") rfl)) (of_decide_eq_true (bAt c.more 11 (b := decide (He.ma K (He.ga K "Leaf") "depth" = He.ma K (He.ga K "Work") "depth")) rfl))) (meth_eq (He.meth_ok (cd.fact 58 (f := .meth "Row" "depth") rfl)) (of_decide_eq_true (bAt c.more 12 (b := decide (He.ma K (He.ga K "Row") "depth" = He.ma K (He.ga K "Work") "depth")) rfl))) (meth_eq (He.meth_ok (cd.fact 63 (f := .meth "Bundle" "depth") rfl)) (of_decide_eq_true (bAt c.more 13 (b := decide (He.ma K (He.ga K "Bundle") "depth" = He.ma K (He.ga K "Work") "depth")) rfl)))) (FunD.bindsN F_Work_depth fun _ _ _ _ _ _ us hl => match us, hl with | [_], _ => rfl) ih)
  have h_m_depth : HasV P w K mg base (cW K) "depth" 8 (fun y : Pl => y) (fun y : Pl => (y.parts.length ≤ 1000 ∧ Small y) ∧ y.depth < 7) (fun y : Pl => []) rInt (fun y => (y.depth : Int)) := HasV.mk cl (ofW (c := cW K) (p := fun C => Meth K C "depth" (He.ma K (He.ga K "Work") "depth")) (meth_eq (He.meth_ok (cd.fact 53 (f := .meth "Leaf" "depth") rfl)) (of_decide_eq_true (bAt c.more 11 (b := decide (He.ma K (He.ga K "Leaf") "depth" = He.ma K (He.ga K "Work") "depth")) rfl))) (meth_eq (He.meth_ok (cd.fact 58 (f := .meth "Row" "depth") rfl)) (of_decide_eq_true (bAt c.more 12 (b := decide (He.ma K (He.ga K "Row") "depth" = He.ma K (He.ga K "Work") "depth")) rfl))) (meth_eq (He.meth_ok (cd.fact 63 (f := .meth "Bundle" "depth") rfl)) (of_decide_eq_true (bAt c.more 13 (b := decide (He.ma K (He.ga K "Bundle") "depth" = He.ma K (He.ga K "Work") "depth")) rfl)))) (FunD.bindsN F_Work_depth fun _ _ _ _ _ _ us hl => match us, hl with | [_], _ => rfl) (o_Work_depth 7)
  have o_Work_name := ok_Work_name (P := P) (w := w) (base := base) F_Work_name T
  have h_m_name : HasV P w K mg base (cW K) "name" 1 (fun y : Pl => y) (fun y : Pl => True) (fun y : Pl => []) rStr (fun y => y.name) := HasV.mk cl (ofW (c := cW K) (p := fun C => Meth K C "name" (He.ma K (He.ga K "Work") "name")) (meth_eq (He.meth_ok (cd.fact 54 (f := .meth "Leaf" "name") rfl)) (of_decide_eq_true (bAt c.more 14 (b := decide (He.ma K (He.ga K "Leaf") "name" = He.ma K (He.ga K "Work") "name")) rfl))) (meth_eq (He.meth_ok (cd.fact 59 (f := .meth "Row" "name") rfl)) (of_decide_eq_true (bAt c.more 15 (b := decide (He.ma K (He.ga K "Row") "name" = He.ma K (He.ga K "Work") "name")) rfl))) (meth_eq (He.meth_ok (cd.fact 64 (f := .meth "Bundle" "name") rfl)) (of_decide_eq_true (bAt c.more 16 (b := decide (He.ma K (He.ga K "Bundle") "name" = He.ma K (He.ga K "Work") "name")) rfl)))) (FunD.bindsN F_Work_name fun _ _ _ _ _ _ us hl => match us, hl with | [_], _ => rfl) o_Work_name
  have o_Work_parts := ok_Work_parts (P := P) (w := w) (base := base) F_Work_parts T
  have h_m_parts : HasVO P w K mg base (cW K) "parts" 1 (fun y : Pl => y) (fun y : Pl => True) (fun y : Pl => []) (fun y => oLst (rT2 K rInt (rWk K (cW K))) (y.parts)) := HasVO.mk cl (ofW (c := cW K) (p := fun C => Meth K C "parts" (He.ma K (He.ga K "Work") "parts")) (meth_eq (He.meth_ok (cd.fact 56 (f := .meth "Leaf" "parts") rfl)) (of_decide_eq_true (bAt c.more 20 (b := decide (He.ma K (He.ga K "Leaf") "parts" = He.ma K (He.ga K "Work") "parts")) rfl))) (meth_eq (He.meth_ok (cd.fact 61 (f := .meth "Row" "parts") rfl)) (of_decide_eq_true (bAt c.more 21 (b := decide (He.ma K (He.ga K "Row") "parts" = He.ma K (He.ga K "Work") "parts")) rfl))) (meth_eq (He.meth_ok (cd.fact 66 (f := .meth "Bundle" "parts") rfl)) (of_decide_eq_true (bAt c.more 22 (b := decide (He.ma K (He.ga K "Bundle") "parts" = He.ma K (He.ga K "Work") "parts")) rfl)))) (FunD.bindsN F_Work_parts fun _ _ _ _ _ _ us hl => match us, hl with | [_], _ => rfl) o_Work_parts
  have o_Work_steps := ok_Work_steps (P := P) (w := w) (base := base) F_Work_steps T
  have h_m_steps : HasV P w K mg base (cW K) "steps" 1 (fun y : Pl => y) (fun y : Pl => True) (fun y : Pl => []) (rOpt rInt) (fun y => y.steps) := HasV.mk cl (ofW (c := cW K) (p := fun C => Meth K C "steps" (He.ma K (He.ga K "Work") "steps")) (meth_eq (He.meth_ok (cd.fact 57 (f := .meth "Leaf" "steps") rfl)) (of_decide_eq_true (bAt c.more 23 (b := decide (He.ma K (He.ga K "Leaf") "steps" = He.ma K (He.ga K "Work") "steps")) rfl))) (meth_eq (He.meth_ok (cd.fact 62 (f := .meth "Row" "steps") rfl)) (of_decide_eq_true (bAt c.more 24 (b := decide (He.ma K (He.ga K "Row") "steps" = He.ma K (He.ga K "Work") "steps")) rfl))) (meth_eq (He.meth_ok (cd.fact 67 (f := .meth "Bundle" "steps") rfl)) (of_decide_eq_true (bAt c.more 25 (b := decide (He.ma K (He.ga K "Bundle") "steps" = He.ma K (He.ga K "Work") "steps")) rfl)))) (FunD.bindsN F_Work_steps fun _ _ _ _ _ _ us hl => match us, hl with | [_], _ => rfl) o_Work_steps
  have o__law_cell_at := ok__law_cell_at (P := P) (w := w) (base := base) F__law_cell_at T
  have h__law_cell_at : Has P w K mg base "_law_cell_at" 1 (sp__law_cell_at K) := Has.mk0 (He.glo_ok X G (cd.fact 3 (f := .glo "_law_cell_at") rfl)) F__law_cell_at.kp (FunD.bindsN F__law_cell_at fun _ _ _ _ _ _ us hl => match us, hl with | [_, _], _ => rfl) o__law_cell_at
  have o__law_numbers := ok__law_numbers (P := P) (w := w) (base := base) F__law_numbers T
  have h__law_numbers : Has P w K mg base "_law_numbers" 1 (sp__law_numbers K) := Has.mk0 (He.glo_ok X G (cd.fact 4 (f := .glo "_law_numbers") rfl)) F__law_numbers.kp (FunD.bindsN F__law_numbers fun _ _ _ _ _ _ us hl => match us, hl with | [_, _], _ => rfl) o__law_numbers
  have o__law_names := ok__law_names (P := P) (w := w) (base := base) F__law_names T
  have h__law_names : Has P w K mg base "_law_names" 1 (sp__law_names K) := Has.mk0 (He.glo_ok X G (cd.fact 5 (f := .glo "_law_names") rfl)) F__law_names.kp (FunD.bindsN F__law_names fun _ _ _ _ _ _ us hl => match us, hl with | [], _ => rfl) o__law_names
  have o__law_work : ∀ d : Nat, FnOk P w K mg base (CXL P w) (1 + d) (He.fAd K d__law_work.at_) fd__law_work ["_law_digits", "_law_names_here", "_law_deep"] (sp__law_work K d) := by
    intro d
    induction d with
    | zero => exact fn_vac (vac_M (fun y h => absurd h.2 (Nat.not_lt_zero _)))
    | succ d ih => exact ok__law_work F__law_work T (Has.mk0 (He.glo_ok X G (cd.fact 6 (f := .glo "_law_work") rfl)) F__law_work.kp (FunD.bindsN F__law_work fun _ _ _ _ _ _ us hl => match us, hl with | [_, _, _], _ => rfl) ih)
  have h__law_work : Has P w K mg base "_law_work" 7 (sp__law_work K 6) := Has.mk0 (He.glo_ok X G (cd.fact 6 (f := .glo "_law_work") rfl)) F__law_work.kp (FunD.bindsN F__law_work fun _ _ _ _ _ _ us hl => match us, hl with | [_, _, _], _ => rfl) (o__law_work 6)
  have o__law_plan := ok__law_plan (P := P) (w := w) (base := base) F__law_plan T h__law_cell_at h__law_numbers h__law_names h__law_work
  have h__law_plan : Has P w K mg base "_law_plan" 8 (sp__law_plan K) := Has.mk0 (He.glo_ok X G (cd.fact 7 (f := .glo "_law_plan") rfl)) F__law_plan.kp (FunD.bindsN F__law_plan fun _ _ _ _ _ _ us hl => match us, hl with | [_, _], _ => rfl) o__law_plan
  have o__law_all : ∀ d : Nat, FnOk P w K mg base (CXL P w) (1 + d) (He.fAd K d__law_all.at_) fd__law_all ["_law_plain"] (sp__law_all K d) := by
    intro d
    induction d with
    | zero => exact fn_vac (vac_O (fun y h => absurd h.2 (Nat.not_lt_zero _)))
    | succ d ih => exact ok__law_all F__law_all T (Has.mk0 (He.glo_ok X G (cd.fact 8 (f := .glo "_law_all") rfl)) F__law_all.kp (FunD.bindsN F__law_all fun _ _ _ _ _ _ us hl => match us, hl with | [_], _ => rfl) ih)
  have h__law_all : Has P w K mg base "_law_all" 8 (sp__law_all K 7) := Has.mk0 (He.glo_ok X G (cd.fact 8 (f := .glo "_law_all") rfl)) F__law_all.kp (FunD.bindsN F__law_all fun _ _ _ _ _ _ us hl => match us, hl with | [_], _ => rfl) (o__law_all 7)
  have hu := unb_of (bAt c.more 8 (b := unbB K (He.ga K "Work") "__init__") rfl)
  have h_Work : HasU P w K mg base "Work" (He.ga K "Work") "__init__" 2 (sp_Work_init K) := HasU.mk0 T.c_Work hu (FunD.bindsN F_Work_init fun _ _ _ _ _ _ us hl => match us, hl with | [_, _], _ => rfl) (ok_Work_init (P := P) (w := w) (base := base) F_Work_init T h_is_name)
  have o_Leaf := ok_Leaf_init (P := P) (w := w) (base := base) F_Leaf_init T h_is_number h_Work
  have mk_L : Mk K (cW K).L (He.ma K (He.ga K "Leaf") "__init__") := He.mkr_ok (cd.fact 39 (f := .mkr "Leaf") rfl)
  have h_Leaf : HasI P w K mg base "Leaf" (cW K).L 3 (sp_Leaf_init K) := HasI.mkD (dvs := []) T.c_Leaf mk_L (FunD.binds1 (dvs := [V.non]) (ps := ["self", "name", "steps"]) F_Leaf_init 3 1 (by simp) rfl fun T kV doc pm an cdv ct us its l1 l2 => match us, its, l1, l2 with | [_, _, _], [_], _, _ => ⟨_, rfl, rfl⟩) o_Leaf (fun vs H Q z => by rw [List.append_nil]; exact z)
  have h_Leaf1 : HasI P w K mg base "Leaf" (cW K).L 3 (sp_Leaf1 K) := HasI.mkD (dvs := [.non]) T.c_Leaf mk_L (FunD.binds1 (dvs := [V.non]) (ps := ["self", "name", "steps"]) F_Leaf_init 2 0 (by simp) rfl fun T kV doc pm an cdv ct us its l1 l2 => match us, its, l1, l2 with | [_, _], [_], _, _ => ⟨_, rfl, rfl⟩) o_Leaf leaf1_imp
  have h_LeafK : HasK P w K mg base "Leaf" (cW K).L ["steps"] 3 (sp_Leaf_init K) := by
    obtain ⟨its, kb⟩ := FunD.kbindsD (dvs := [V.non]) (ps := ["self", "name", "steps"]) F_Leaf_init 2 ["steps"] (fun {α} us ds ws => us ++ ws) (by simp) (fun h1 _ h3 => h1.append h3) (fun T kV doc pm an cdv ct us its ws l1 l2 l3 => match us, its, ws, l1, l2, l3 with | [_, _], [_], [_], _, _, _ => ⟨_, rfl, rfl⟩)
    exact ⟨_, fd_Leaf_init, _, _, _, T.c_Leaf, mk_L, kb, o_Leaf, fun _ _ _ => rfl⟩
  have h_Row : HasI P w K mg base "Row" (cW K).R 9 (sp_Lot_init K true) := HasI.mk0 T.c_Row (mk_eq (He.mkr_ok (cd.fact 41 (f := .mkr "Row") rfl)) (of_decide_eq_true (bAt c.more 9 (b := decide (He.ma K (He.ga K "Row") "__init__" = He.ma K (He.ga K "Lot") "__init__")) rfl))) (FunD.bindsN F_Lot_init fun _ _ _ _ _ _ us hl => match us, hl with | [_, _, _], _ => rfl) (ok_Lot_init (P := P) (w := w) (base := base) true F_Lot_init T h_are_parts h_Work h_m_names h_m_depth)
  have h_Bundle : HasI P w K mg base "Bundle" (cW K).B 9 (sp_Lot_init K false) := HasI.mk0 T.c_Bundle (mk_eq (He.mkr_ok (cd.fact 43 (f := .mkr "Bundle") rfl)) (of_decide_eq_true (bAt c.more 10 (b := decide (He.ma K (He.ga K "Bundle") "__init__" = He.ma K (He.ga K "Lot") "__init__")) rfl))) (FunD.bindsN F_Lot_init fun _ _ _ _ _ _ us hl => match us, hl with | [_, _, _], _ => rfl) (ok_Lot_init (P := P) (w := w) (base := base) false F_Lot_init T h_are_parts h_Work h_m_names h_m_depth)
  have o__law_made_of : ∀ d : Nat, FnOk P w K mg base (CXL P w) (11 + d) (He.fAd K d__law_made_of.at_) fd__law_made_of ["_law_plain"] (sp__law_made_of K d) := by
    intro d
    induction d with
    | zero => exact fn_vac (vac_P (fun y h => absurd h.2 (Nat.not_lt_zero _)))
    | succ d ih => exact ok__law_made_of F__law_made_of T (Has.mk0 (He.glo_ok X G (cd.fact 9 (f := .glo "_law_made_of") rfl)) F__law_made_of.kp (FunD.bindsN F__law_made_of fun _ _ _ _ _ _ us hl => match us, hl with | [_], _ => rfl) ih) h_Leaf h_Leaf1 h_LeafK h_Row h_Bundle
  have h__law_made_of : Has P w K mg base "_law_made_of" 18 (sp__law_made_of K 7) := Has.mk0 (He.glo_ok X G (cd.fact 9 (f := .glo "_law_made_of") rfl)) F__law_made_of.kp (FunD.bindsN F__law_made_of fun _ _ _ _ _ _ us hl => match us, hl with | [_], _ => rfl) (o__law_made_of 7)
  have o__law_right : ∀ d : Nat, FnOk P w K mg base (CXL P w) (9 + d) (He.fAd K d__law_right.at_) fd__law_right ["_law_work_here", "_law_plain"] (sp__law_right K d) := by
    intro d
    induction d with
    | zero => exact fn_vac (vac_P (fun y h => absurd h.2 (Nat.not_lt_zero _)))
    | succ d ih => exact ok__law_right F__law_right T (Has.mk0 (He.glo_ok X G (cd.fact 10 (f := .glo "_law_right") rfl)) F__law_right.kp (FunD.bindsN F__law_right fun _ _ _ _ _ _ us hl => match us, hl with | [_, _], _ => rfl) ih) h_m_name h_m_names h_m_parts h_m_steps h__law_all
  have h__law_right : Has P w K mg base "_law_right" 16 (sp__law_right K 7) := Has.mk0 (He.glo_ok X G (cd.fact 10 (f := .glo "_law_right") rfl)) F__law_right.kp (FunD.bindsN F__law_right fun _ _ _ _ _ _ us hl => match us, hl with | [_, _], _ => rfl) (o__law_right 7)
  have o_law := ok_law (P := P) (w := w) (base := base) F_law T h__law_plan h__law_made_of h__law_right h_Leaf1 h_m_steps
  exact fn_quiet o_law fun vs H Q E E' z => z
end Hd
open PySem PySem.W PySem.Calls PyProof.Rows
set_option maxRecDepth 100000 in
set_option maxHeartbeats 0 in
theorem PySem.Challenge.cw_howfar_k01_works_holds : PySem.Challenge.rw_howfar_k01_works.Holds := by
  w_on; o_law
  refine HandSHeadRun.head_any (r := OpenLaw.row PySem.Challenge.rw_howfar_k01_works) (q := view (OpenLaw.row PySem.Challenge.rw_howfar_k01_works).prog [34]) (H := Hd.hk) (ob := Hd.ob) (M := 20000) (loose := Hd.names) (d := HandSHeadRun.topDef (OpenLaw.row PySem.Challenge.rw_howfar_k01_works).prog 34) (kwd := []) Hd.ob_eq
    (by kernel_rfl) (fun s => by kernel_rfl) Hd.run (by kernel_rfl) (by kernel_rfl) (by kernel_rfl) (by rfl) (by first | assumption | decide +kernel) (by decide +kernel) ⟨rfl, rfl, rfl, rfl, rfl, by decide +kernel⟩ ?hw ?hc
  case hw => w_witness2
  case hc =>
    refine L2.walk_ofE (l := PySem.Challenge.rw_howfar_k01_works) (n := 63) (k := 19) (x := "_law_script") (CX := L2.CX0) rfl (by decide) (by kernel_rfl) ⟨rfl, by decide, by decide⟩ ?F (fun _ _ _ _ z => z)
    intro w mg fa h Y G hmg0
    obtain ⟨K, KX, c⟩ := Y
    have hmg : mg ("law" : PySem.Str) = some (.ref fa) := by
      have e : (HandSHeadRun.topDef (OpenLaw.row PySem.Challenge.rw_howfar_k01_works).prog 34).name = ("law" : PySem.Str) := by kernel_rfl
      rw [← e]
      exact hmg0
    obtain ⟨fd, hb, hF⟩ := Hd.facts (P := (PySem.Challenge.rw_howfar_k01_works).prog) (w := w) KX G hmg c
    exact ⟨K, fd, Hf.sp_law K, KX, hb, fun H a ns hl _ hS => ⟨ns, H, hl, fun _ _ z => z, ⟨⟨a, _, rfl, hS, Hf.all2_ofInt ns⟩, trivial⟩, fun v G' H' _ hv => hv⟩, hF⟩


