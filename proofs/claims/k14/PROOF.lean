import PyProof.Rows.All
import Wide.All
import OpenK.AllK
import Wide.FinOn
import HandS.ForMost
import HandS.ForExc
import HandS.IsInst
import HandS.Evl
import HandS.Wide
import HandS.Defaults
import HandS.Text
import HandS.SetFor
import HandS.SortInts
import HandS.TupSets
import HandS.WideBits
import HandS.Strs
import HandS.Style
import HandS.More
import HandS.ClsMeth
import PyProof.Rows.SetFrom
import HandS.Zip
import HandS.MakeKw
import HandS.HeadHook1
import HandS.Deep
import HandS.NoneIn
import KE.KStateDown
import HandS.HeadHook4
import HandS.Head2
import HandS.HeadEnd
import PySem.Challenge.RW_howfar_k14_whole_known
import Lean
import HandS.Head0
import HandS.Head1
import HandS.HeadHook2
import HandS.HeadHook3
set_option Elab.async false
set_option linter.all false
set_option maxRecDepth 100000
/-! Hf: typed data over the abstract heap: what a value stands for, in a part of the heap that never changes; wp rules for expressions and statements over typed slots. -/
namespace Hf
open PySem PySem.Spec PyProof.Rows L2

abbrev Ex := Evl.Ex

/-- what a value stands for, by the frozen part of the heap -/
structure Rp (α : Type) where
  rel : Hp → V → α → Prop
  mono : ∀ {G G' : Hp} {v : V} {a : α}, Ex G G' → rel G v a → rel G' v a

def rInt : Rp Int := ⟨fun _ v i => v = .int i, fun _ h => h⟩
def rBool : Rp Bool := ⟨fun _ v i => v = .bl i, fun _ h => h⟩
def rStr : Rp Str := ⟨fun _ v i => v = .str i, fun _ h => h⟩
def rNon : Rp Unit := ⟨fun _ v _ => v = .non, fun _ h => h⟩
/-- any value, told as it is -/
def rV : Rp V := ⟨fun _ v w => v = w, fun _ h => h⟩
def rOpt {α : Type} (r : Rp α) : Rp (Option α) := ⟨fun G v o => match o with
  | none => v = .non
  | some a => r.rel G v a, fun {G G' v a} e h => by
    cases a with
    | none => exact h
    | some a => exact r.mono e h⟩
/-- items one by one -/
inductive All2 {α : Type} (r : Rp α) (G : Hp) : List V → List α → Prop
  | nil : All2 r G [] []
  | cons {v : V} {vs : List V} {a : α} {as : List α} : r.rel G v a → All2 r G vs as → All2 r G (v :: vs) (a :: as)
section
variable {α : Type} {r : Rp α} {G G' : Hp}
theorem All2.mono (e : Ex G G') : ∀ {vs : List V} {as : List α}, All2 r G vs as → All2 r G' vs as
  | _, _, .nil => .nil
  | _, _, .cons h t => .cons (r.mono e h) (All2.mono e t)
theorem All2.length : ∀ {vs : List V} {as : List α}, All2 r G vs as → vs.length = as.length
  | _, _, .nil => rfl
  | _, _, .cons _ t => congrArg (· + 1) (All2.length t)
theorem All2.get : ∀ {vs : List V} {as : List α} {i : Nat} {a : α}, All2 r G vs as → as[i]? = some a → ∃ v, vs[i]? = some v ∧ r.rel G v a
  | _, _, i, a, .nil, e => by cases e
  | _, _, 0, a, .cons h _, e => ⟨_, rfl, by cases e; exact h⟩
  | _, _, i + 1, a, .cons _ t, e => All2.get (i := i) t e
theorem All2.getV : ∀ {vs : List V} {as : List α} {i : Nat} {v : V}, All2 r G vs as → vs[i]? = some v → ∃ a, as[i]? = some a ∧ r.rel G v a
  | _, _, i, a, .nil, e => by cases e
  | _, _, 0, a, .cons h _, e => ⟨_, rfl, by cases e; exact h⟩
  | _, _, i + 1, a, .cons _ t, e => All2.getV (i := i) t e
theorem All2.append : ∀ {vs ws : List V} {as bs : List α}, All2 r G vs as → All2 r G ws bs → All2 r G (vs ++ ws) (as ++ bs)
  | _, _, _, _, .nil, h => h
  | _, _, _, _, .cons h t, k => .cons h (All2.append t k)
theorem All2.one {v : V} {a : α} (h : r.rel G v a) : All2 r G [v] [a] := .cons h .nil
theorem All2.drop : ∀ {vs : List V} {as : List α} (n : Nat), All2 r G vs as → All2 r G (vs.drop n) (as.drop n)
  | _, _, 0, h => h
  | _, _, _ + 1, .nil => .nil
  | _, _, n + 1, .cons _ t => All2.drop n t
theorem All2.take : ∀ {vs : List V} {as : List α} (n : Nat), All2 r G vs as → All2 r G (vs.take n) (as.take n)
  | _, _, 0, _ => .nil
  | _, _, _ + 1, .nil => .nil
  | _, _, n + 1, .cons h t => .cons h (All2.take n t)
theorem All2.set {v : V} {a : α} (h : r.rel G v a) : ∀ {vs : List V} {as : List α} (n : Nat), All2 r G vs as → All2 r G (vs.set n v) (as.set n a)
  | _, _, _, .nil => .nil
  | _, _, 0, .cons _ t => .cons h t
  | _, _, n + 1, .cons k t => .cons k (All2.set h n t)
theorem All2.reverse : ∀ {vs : List V} {as : List α}, All2 r G vs as → All2 r G vs.reverse as.reverse
  | _, _, .nil => .nil
  | _, _, .cons h t => by
    rw [List.reverse_cons, List.reverse_cons]
    exact (All2.reverse t).append (.one h)
theorem all2_int : ∀ {vs : List V} {as : List Int}, All2 rInt G vs as → vs = as.map V.int
  | _, _, .nil => rfl
  | _, _, .cons h t => by rw [h, all2_int t]; rfl
theorem all2_bool : ∀ {vs : List V} {as : List Bool}, All2 rBool G vs as → vs = as.map V.bl
  | _, _, .nil => rfl
  | _, _, .cons h t => by rw [h, all2_bool t]; rfl
theorem all2_str : ∀ {vs : List V} {as : List Str}, All2 rStr G vs as → vs = as.map V.str
  | _, _, .nil => rfl
  | _, _, .cons h t => by rw [h, all2_str t]; rfl
theorem all2_ofInt : ∀ (as : List Int), All2 rInt G (as.map V.int) as
  | [] => .nil
  | _ :: r => .cons rfl (all2_ofInt r)
theorem all2_ofStr : ∀ (as : List Str), All2 rStr G (as.map V.str) as
  | [] => .nil
  | _ :: r => .cons rfl (all2_ofStr r)
end
/-- a list of the frozen part -/
def rLst {α : Type} (r : Rp α) : Rp (List α) := ⟨fun G v as => ∃ p vs, v = .ref p ∧ G p = some (.lst vs) ∧ All2 r G vs as, fun {G G' v a} e ⟨p, vs, h1, h2, h3⟩ => ⟨p, vs, h1, e _ _ h2, h3.mono e⟩⟩
/-- a list that may be the script or of the written part: read only -/
def rSeq (K : PySem.W.Frag) {α : Type} (r : Rp α) : Rp (List α) := ⟨fun G v as => ∃ p vs, v = .ref p ∧ SqL K G p vs ∧ All2 r G vs as, fun {G G' v a} e ⟨p, vs, h1, h2, h3⟩ => ⟨p, vs, h1, Evl.ex_l e h2, h3.mono e⟩⟩
/-- tuples -/
def rT2 (K : PySem.W.Frag) {α β : Type} (r : Rp α) (s : Rp β) : Rp (α × β) := ⟨fun G v a => ∃ p x y, v = .ref p ∧ SqT K G p [x, y] ∧ r.rel G x a.1 ∧ s.rel G y a.2, fun {G G' v a} e ⟨p, x, y, h1, h2, h3, h4⟩ => ⟨p, x, y, h1, Evl.ex_t e h2, r.mono e h3, s.mono e h4⟩⟩
def rT3 (K : PySem.W.Frag) {α β γ : Type} (r : Rp α) (s : Rp β) (t : Rp γ) : Rp (α × β × γ) := ⟨fun G v a => ∃ p x y z, v = .ref p ∧ SqT K G p [x, y, z] ∧ r.rel G x a.1 ∧ s.rel G y a.2.1 ∧ t.rel G z a.2.2, fun {G G' v a} e ⟨p, x, y, z, h1, h2, h3, h4, h5⟩ => ⟨p, x, y, z, h1, Evl.ex_t e h2, r.mono e h3, s.mono e h4, t.mono e h5⟩⟩

/-! ### steps of the two heaps -/
/-- from (G, H) to (G', H'): what is frozen stays, all that was tracked stays; what is frozen anew is new -/
structure Le (G H G' H' : Hp) : Prop where
  g : Ex G G'
  h : Ex H H'
  gh : Ex G' H'
  new : ∀ a o, G' a = some o → G a = none → H a = none
theorem Le.refl {G H : Hp} (e : Ex G H) : Le G H G H := ⟨Evl.Ex.refl _, Evl.Ex.refl _, e, fun a o h1 h2 => by rw [h1] at h2; cases h2⟩
theorem Le.trans {G H G1 H1 G2 H2 : Hp} (a : Le G H G1 H1) (b : Le G1 H1 G2 H2) : Le G H G2 H2 :=
  ⟨a.g.trans b.g, a.h.trans b.h, b.gh, fun x o h1 h2 => by
    cases q : G1 x with
    | some u => exact a.new x u q h2
    | none => exact Evl.fresh_back a.h (b.new x o h1 q)⟩
/-- a new frozen object -/
theorem Le.add {G H G1 H1 : Hp} (a : Le G H G1 H1) {p : Addr} {o : HO} (n : H1 p = none) : Le G H (upd G1 p o) (upd H1 p o) :=
  have n1 : G1 p = none := Evl.fresh_back a.gh n
  ⟨a.g.trans (Evl.Ex.new n1), a.h.trans (Evl.Ex.new n), fun x u h => by
    by_cases e : x = p
    · subst e; rw [upd_same] at h ⊢; exact h
    · rw [upd_ne e] at h ⊢; exact a.gh x u h, fun x u h1 h2 => by
    by_cases e : x = p
    · subst e; exact Evl.fresh_back a.h n
    · rw [upd_ne e] at h1; exact a.new x u h1 h2⟩
/-- a new object that may change -/
theorem Le.addO {G H G1 H1 : Hp} (a : Le G H G1 H1) {p : Addr} {o : HO} (n : H1 p = none) : Le G H G1 (upd H1 p o) :=
  ⟨a.g, a.h.trans (Evl.Ex.new n), a.gh.trans (Evl.Ex.new n), a.new⟩
/-- an object that may change is frozen -/
theorem Le.frz {G H G1 H1 : Hp} (a : Le G H G1 H1) {p : Addr} {o : HO} (hp : H1 p = some o) (n : H p = none) (g1 : G1 p = none) : Le G H (upd G1 p o) H1 :=
  ⟨a.g.trans (Evl.Ex.new g1), a.h, fun x u h => by
    by_cases e : x = p
    · subst e; rw [upd_same] at h; cases h; exact hp
    · rw [upd_ne e] at h; exact a.gh x u h, fun x u h1 h2 => by
    by_cases e : x = p
    · subst e; exact n
    · rw [upd_ne e] at h1; exact a.new x u h1 h2⟩

/-! ### slots -/
/-- what an object that may change holds, by the frozen part -/
structure Oc where
  rel : Hp → HO → Prop
  mono : ∀ {G G' : Hp} {o : HO}, Ex G G' → rel G o → rel G' o
def oLst {α : Type} (r : Rp α) (as : List α) : Oc := ⟨fun G o => ∃ vs, o = .lst vs ∧ All2 r G vs as, fun e ⟨vs, h1, h2⟩ => ⟨vs, h1, h2.mono e⟩⟩
inductive Slot : Type 1 where
  | no
  | sh {α : Type} (r : Rp α) (a : α)
  | ow (c : Oc) (q : Option Addr := none)
/-- the entry: frozen part, heap, what may be changed of it; F: a frozen part that still stands -/
structure Ent where
  G : Hp
  H : Hp
  M : Addr → Prop := fun _ => False
  F : Hp := fun _ => none
structure LeE (G0 H0 : Hp) (M : Addr → Prop) (G H : Hp) : Prop where
  g : Ex G0 G
  h : ∀ a o, H0 a = some o → (¬ M a ∧ H a = some o) ∨ (M a ∧ ∃ u, H a = some u)
  gh : Ex G H
  new : ∀ a o, G a = some o → G0 a = none → H0 a = none
  m : ∀ a, M a → G0 a = none ∧ ∃ o, H0 a = some o
theorem LeE.step {G0 H0 : Hp} {M : Addr → Prop} {G H G' H' : Hp} (a : LeE G0 H0 M G H) (b : Le G H G' H') : LeE G0 H0 M G' H' := by
  refine ⟨a.g.trans b.g, fun x o e => ?_, b.gh, fun x o h1 h2 => ?_, a.m⟩
  · rcases a.h x o e with ⟨n, h⟩ | ⟨n, u, h⟩
    · exact .inl ⟨n, b.h _ _ h⟩
    · exact .inr ⟨n, u, b.h _ _ h⟩
  · cases q : G x with
    | some u => exact a.new x u q h2
    | none =>
      have z := b.new x o h1 q
      cases w : H0 x with
      | none => rfl
      | some u =>
        rcases a.h x u w with ⟨_, h⟩ | ⟨_, u, h⟩ <;> (rw [z] at h; cases h)
/-- nothing of the entry may change: a plain step -/
theorem LeE.le {G0 H0 : Hp} {M : Addr → Prop} {G H : Hp} (a : LeE G0 H0 M G H) (n : ∀ x, ¬ M x) : Le G0 H0 G H :=
  ⟨a.g, fun x o e => by
    rcases a.h x o e with ⟨_, h⟩ | ⟨m, _⟩
    · exact h
    · exact absurd m (n x), a.gh, a.new⟩
theorem LeE.fresh {G0 H0 : Hp} {M : Addr → Prop} {G H : Hp} (a : LeE G0 H0 M G H) {p : Addr} (n : H p = none) : H0 p = none := by
  cases w : H0 p with
  | none => rfl
  | some u =>
    rcases a.h p u w with ⟨_, h⟩ | ⟨_, u, h⟩ <;> (rw [n] at h; cases h)
theorem LeE.start {G H : Hp} (e : Ex G H) : LeE G H (fun _ => False) G H := ⟨.refl _, fun a o h => .inl ⟨fun q => q, h⟩, e, fun a o h1 h2 => (by rw [h1] at h2; cases h2), fun a q => False.elim q⟩
/-- where an object of one's own comes from: it is new, or it is the one that was handed in at z -/
def Pin (E : Ent) (p : Addr) : Option Addr → Prop
  | none => E.H p = none
  | some z => p = z ∧ E.M p
theorem Pin.or {E : Ent} {p : Addr} : ∀ {q : Option Addr}, Pin E p q → E.M p ∨ E.H p = none
  | none, h => .inr h
  | some _, h => .inl h.2
def Slot.ok (E : Ent) (G H : Hp) (x : Option (Option V)) : Slot → Prop
  | .no => True
  | .sh r a => ∃ v, x = some (some v) ∧ r.rel G v a
  | .ow c q => ∃ p o, x = some (some (.ref p)) ∧ G p = none ∧ Pin E p q ∧ H p = some o ∧ c.rel G o
def Slot.isOw : Slot → Bool
  | .ow _ _ => true
  | _ => false
structure Holds (E : Ent) (G H : Hp) (σ : L2.St) (Γ : List Slot) : Prop where
  le : LeE E.G E.H E.M G H
  fl : Ex E.F G
  len : σ.length = Γ.length
  ok : ∀ (i : Nat) (s : Slot), Γ[i]? = some s → s.ok E G H σ[i]?
  sep : ∀ (i j : Nat) (s t : Slot), Γ[i]? = some s → Γ[j]? = some t → s.isOw = true → t.isOw = true → σ[i]? = σ[j]? → i = j
section
variable {E : Ent} {G H G' H' : Hp} {σ : L2.St} {Γ : List Slot}
theorem Holds.step (h : Holds E G H σ Γ) (b : Le G H G' H') : Holds E G' H' σ Γ := by
  refine ⟨h.le.step b, h.fl.trans b.g, h.len, fun i s e => ?_, h.sep⟩
  · have k := h.ok i s e
    cases s with
    | no => trivial
    | sh r a =>
      obtain ⟨v, h1, h2⟩ := k
      exact ⟨v, h1, r.mono b.g h2⟩
    | ow c q =>
      obtain ⟨p, o, h1, h2, h3, h4, h5⟩ := k
      refine ⟨p, o, h1, ?_, h3, b.h _ _ h4, c.mono b.g h5⟩
      cases q : G' p with
      | none => rfl
      | some u =>
        have z := b.new p u q h2
        rw [z] at h4
        cases h4
theorem Holds.sh {α : Type} {r : Rp α} {a : α} {i : Nat} (h : Holds E G H σ Γ) (e : Γ[i]? = some (.sh r a)) : ∃ v, σ[i]? = some (some v) ∧ r.rel G v a := h.ok i _ e
theorem Holds.ow {c : Oc} {q : Option Addr} {i : Nat} (h : Holds E G H σ Γ) (e : Γ[i]? = some (.ow c q)) : ∃ p o, σ[i]? = some (some (.ref p)) ∧ G p = none ∧ Pin E p q ∧ H p = some o ∧ c.rel G o := h.ok i _ e
theorem get_set.{u} {α : Type u} {l : List α} {i j : Nat} {x y : α} (h : (l.set i x)[j]? = some y) : (i = j ∧ y = x) ∨ (i ≠ j ∧ l[j]? = some y) := by
  rw [List.getElem?_set] at h
  split at h
  · rename_i e
    split at h
    · exact .inl ⟨e, by cases h; rfl⟩
    · cases h
  · rename_i e
    exact .inr ⟨e, h⟩
theorem Holds.set_no {x : Option V} {i : Nat} (h : Holds E G H σ Γ) : Holds E G H (σ.set i x) (Γ.set i .no) :=
  ⟨h.le, h.fl, by rw [List.length_set, List.length_set]; exact h.len, fun j s e => by
    rcases get_set e with ⟨rfl, rfl⟩ | ⟨n, e⟩
    · trivial
    · rw [List.getElem?_set_ne n]
      exact h.ok j s e, fun j k s t e1 e2 o1 o2 q => by
    rcases get_set e1 with ⟨rfl, rfl⟩ | ⟨n1, e1⟩
    · cases o1
    · rcases get_set e2 with ⟨rfl, rfl⟩ | ⟨n2, e2⟩
      · cases o2
      · rw [List.getElem?_set_ne n1, List.getElem?_set_ne n2] at q
        exact h.sep j k s t e1 e2 o1 o2 q⟩
theorem Holds.set_sh {α : Type} {r : Rp α} {a : α} {v : V} {i : Nat} (h : Holds E G H σ Γ) (hv : r.rel G v a) : Holds E G H (σ.set i (some v)) (Γ.set i (.sh r a)) :=
  ⟨h.le, h.fl, by rw [List.length_set, List.length_set]; exact h.len, fun j s e => by
    rcases get_set e with ⟨rfl, rfl⟩ | ⟨n, e⟩
    · refine ⟨v, ?_, hv⟩
      have lt : i < σ.length := by
        rw [h.len]
        have z := (List.getElem?_eq_some_iff.mp e).1
        rw [List.length_set] at z
        exact z
      rw [List.getElem?_set_self lt]
    · rw [List.getElem?_set_ne n]
      exact h.ok j s e, fun j k s t e1 e2 o1 o2 q => by
    rcases get_set e1 with ⟨rfl, rfl⟩ | ⟨n1, e1⟩
    · cases o1
    · rcases get_set e2 with ⟨rfl, rfl⟩ | ⟨n2, e2⟩
      · cases o2
      · rw [List.getElem?_set_ne n1, List.getElem?_set_ne n2] at q
        exact h.sep j k s t e1 e2 o1 o2 q⟩
/-- a new object that may change, in a slot -/
theorem Holds.set_ow {c : Oc} {p : Addr} {o : HO} {i : Nat} (h : Holds E G H σ Γ) (b : Le G H G' H') (n : H p = none) (g : G' p = none) (hp : H' p = some o) (hc : c.rel G' o) : Holds E G' H' (σ.set i (some (.ref p))) (Γ.set i (.ow c)) := by
  have h1 := h.step b
  have other : ∀ (j : Nat) (s : Slot), Γ[j]? = some s → s.isOw = true → σ[j]? ≠ some (some (V.ref p)) := fun j s e w q => by
    cases s with
    | no => cases w
    | sh r a => cases w
    | ow c2 q2 =>
      obtain ⟨p2, o2, k1, _, _, k4, _⟩ := h.ow e
      rw [k1] at q
      cases q
      rw [n] at k4
      cases k4
  have lt : ∀ s : Slot, (Γ.set i (.ow c))[i]? = some s → i < σ.length := fun s e => by
    rw [h.len]
    have z := (List.getElem?_eq_some_iff.mp e).1
    rw [List.length_set] at z
    exact z
  refine ⟨h1.le, h1.fl, by rw [List.length_set, List.length_set]; exact h.len, fun j s e => ?_, fun j k s t e1 e2 o1 o2 q => ?_⟩
  · rcases get_set e with ⟨rfl, rfl⟩ | ⟨nj, e'⟩
    · exact ⟨p, o, by rw [List.getElem?_set_self (lt _ e)], g, h.le.fresh n, hp, hc⟩
    · rw [List.getElem?_set_ne nj]
      exact h1.ok j s e'
  · rcases get_set e1 with ⟨rfl, rfl⟩ | ⟨n1, e1'⟩
    · rcases get_set e2 with ⟨rfl, rfl⟩ | ⟨n2, e2'⟩
      · rfl
      · rw [List.getElem?_set_self (lt _ e1), List.getElem?_set_ne n2] at q
        exact absurd q.symm (other k t e2' o2)
    · rcases get_set e2 with ⟨rfl, rfl⟩ | ⟨n2, e2'⟩
      · rw [List.getElem?_set_self (lt _ e2), List.getElem?_set_ne n1] at q
        exact absurd q (other j s e1' o1)
      · rw [List.getElem?_set_ne n1, List.getElem?_set_ne n2] at q
        exact h.sep j k s t e1' e2' o1 o2 q
/-- the object in a slot is changed -/
theorem Holds.mut {c c' : Oc} {pq : Option Addr} {p : Addr} {o' : HO} {i : Nat} (h : Holds E G H σ Γ) (e : Γ[i]? = some (.ow c pq)) (hp : σ[i]? = some (some (.ref p))) (hc : c'.rel G o') : Holds E G (upd H p o') σ (Γ.set i (.ow c' pq)) := by
  obtain ⟨p1, o1, k1, k2, k3, k4, k5⟩ := h.ow e
  have ep : p1 = p := by
    rw [hp] at k1
    cases k1
    rfl
  subst ep
  refine ⟨⟨h.le.g, fun a u q => ?_, fun a u q => ?_, h.le.new, h.le.m⟩, h.fl, by rw [List.length_set]; exact h.len, fun j s q => ?_, fun j k s t e1 e2 w1 w2 q => ?_⟩
  · by_cases z : a = p1
    · subst z
      rcases k3.or with m | m
      · exact .inr ⟨m, _, upd_same⟩
      · rw [m] at q
        cases q
    · rw [upd_ne z]
      exact h.le.h a u q
  · have z : a ≠ p1 := fun z => by
      subst z
      rw [k2] at q
      cases q
    rw [upd_ne z]
    exact h.le.gh a u q
  · rcases get_set q with ⟨rfl, rfl⟩ | ⟨n, q⟩
    · exact ⟨p1, o', hp, k2, k3, upd_same, hc⟩
    · have w := h.ok j s q
      cases s with
      | no => trivial
      | sh r a => exact w
      | ow c2 q2 =>
        obtain ⟨p2, o2, w1, w2, w3, w4, w5⟩ := w
        have np : p2 ≠ p1 := fun z => by
          subst z
          exact n (h.sep i j _ _ e q rfl rfl (by rw [hp, w1]))
        exact ⟨p2, o2, w1, w2, w3, by rw [upd_ne np]; exact w4, w5⟩
  · have back : ∀ (j : Nat) (s : Slot), (Γ.set i (.ow c' pq))[j]? = some s → s.isOw = true → ∃ s', Γ[j]? = some s' ∧ s'.isOw = true := fun j s q w => by
      rcases get_set q with ⟨rfl, rfl⟩ | ⟨n, q⟩
      · exact ⟨_, e, rfl⟩
      · exact ⟨_, q, w⟩
    obtain ⟨s', q1, q2⟩ := back j s e1 w1
    obtain ⟨t', q3, q4⟩ := back k t e2 w2
    exact h.sep j k s' t' q1 q3 q2 q4 q
/-- another floor -/
theorem Holds.floor (h : Holds E G H σ Γ) {F : Hp} (e : Ex F G) : Holds { E with F := F } G H σ Γ := by
  refine ⟨h.le, e, h.len, fun i s q => ?_, h.sep⟩
  have k := h.ok i s q
  cases s with
  | no => trivial
  | sh r a => exact k
  | ow c q => exact k
theorem Holds.unfloor {F : Hp} (h : Holds { E with F := F } G H σ Γ) (e : Ex E.F G) : Holds E G H σ Γ := by
  refine ⟨h.le, e, h.len, fun i s q => ?_, h.sep⟩
  have k := h.ok i s q
  cases s with
  | no => trivial
  | sh r a => exact k
  | ow c q => exact k
/-- less is known of a slot -/
theorem Holds.weak {Γ' : List Slot} (h : Holds E G H σ Γ) (l : Γ'.length = Γ.length) (w : ∀ (i : Nat) (s : Slot), Γ'[i]? = some s → s = .no ∨ Γ[i]? = some s) : Holds E G H σ Γ' :=
  ⟨h.le, h.fl, by rw [l]; exact h.len, fun i s e => by
    rcases w i s e with rfl | q
    · trivial
    · exact h.ok i s q, fun i j s t e1 e2 w1 w2 q => by
    rcases w i s e1 with rfl | q1
    · cases w1
    · rcases w j t e2 with rfl | q2
      · cases w2
      · exact h.sep i j s t q1 q2 w1 w2 q⟩
end

/-! ### weakest preconditions -/
section
variable (X : Cx)
structure WE (e : Expr) (σ : L2.St) (H : Hp) (Q : VK) : Prop where
  run : ∀ (pins : List (Addr × Obj)) (s : Shared), Inv X pins σ H s → wpAny (model X.prog X.w) X.A (eval e X.env) (EP X pins σ Q) X.xe s
structure WT (e : Expr) (σ : L2.St) (H : Hp) (Q : Bool → Hp → Prop) : Prop where
  run : ∀ (pins : List (Addr × Obj)) (s : Shared), Inv X pins σ H s → wpAny (model X.prog X.w) X.A (isTrue e X.env (eval e X.env)) (TP X pins σ Q) X.xe s
structure WW (e : Expr) (σ : L2.St) (H : Hp) (Q : Bool → Hp → Prop) : Prop where
  run : ∀ (whole : Sem Value) (pins : List (Addr × Obj)) (s : Shared), Inv X pins σ H s → wpAny (model X.prog X.w) X.A (isTrue e X.env whole) (TP X pins σ Q) X.xe s
structure WA (es : List Expr) (σ : L2.St) (H : Hp) (Q : List V → Hp → Prop) : Prop where
  run : ∀ (pos : Pos) (pins : List (Addr × Obj)) (s : Shared), Inv X pins σ H s → wpAny (model X.prog X.w) X.A (spliced (backTo pos (starEach es X.env))) (AP X pins σ Q) X.xe s
structure WS (st : Stmt) (σ : L2.St) (H : Hp) (D : Ends) : Prop where
  run : ∀ (pins : List (Addr × Obj)) (s : Shared), Inv X pins σ H s → wpAny (model X.prog X.w) X.A (exec st X.env) (SP X pins D) X.xe s
structure WB (st : List Stmt) (σ : L2.St) (H : Hp) (D : Ends) : Prop where
  run : ∀ (pins : List (Addr × Obj)) (s : Shared), Inv X pins σ H s → wpAny (model X.prog X.w) X.A (execs st X.env) (SP X pins D) X.xe s
end
section
variable {X : Cx} {e : Expr} {es : List Expr} {st : Stmt} {sts : List Stmt} {σ : L2.St} {H : Hp}
theorem WE.pe : PE X e (WE X e) := ⟨fun pins s σ H Q I h => h.run pins s I⟩
theorem WT.pt : PT X e (WT X e) := ⟨fun pins s σ H Q I h => h.run pins s I⟩
theorem WW.pw : PW X e (WW X e) := ⟨fun w pins s σ H Q I h => h.run w pins s I⟩
theorem WA.pa : PA X es (WA X es) := ⟨fun pos pins s σ H Q I h => h.run pos pins s I⟩
theorem WS.ps : PS X st (fun D σ H => WS X st σ H D) := ⟨fun pins s σ H D I h => h.run pins s I⟩
theorem WB.pss : PSs X sts (fun D σ H => WB X sts σ H D) := ⟨fun pins s σ H D I h => h.run pins s I⟩
theorem WE.of {t : TE} {Q : VK} (p : PE X e t) (h : t σ H Q) : WE X e σ H Q := ⟨fun pins s I => p.run pins s σ H Q I h⟩
theorem WT.of {t : TT} {Q : Bool → Hp → Prop} (p : PT X e t) (h : t σ H Q) : WT X e σ H Q := ⟨fun pins s I => p.run pins s σ H Q I h⟩
theorem WW.of {t : TT} {Q : Bool → Hp → Prop} (p : PW X e t) (h : t σ H Q) : WW X e σ H Q := ⟨fun w pins s I => p.run w pins s σ H Q I h⟩
theorem WA.of {t : TA} {Q : List V → Hp → Prop} (p : PA X es t) (h : t σ H Q) : WA X es σ H Q := ⟨fun pos pins s I => p.run pos pins s σ H Q I h⟩
theorem WS.of {t : TS} {D : Ends} (p : PS X st t) (h : t D σ H) : WS X st σ H D := ⟨fun pins s I => p.run pins s σ H D I h⟩
theorem WB.of {t : TS} {D : Ends} (p : PSs X sts t) (h : t D σ H) : WB X sts σ H D := ⟨fun pins s I => p.run pins s σ H D I h⟩
theorem WE.mono {Q Q' : VK} (h : WE X e σ H Q) (k : ∀ v H', Q v H' → Q' v H') : WE X e σ H Q' := ⟨fun pins s I => thn (h.run pins s I) fun _ _ ⟨v, H', I', r, q⟩ => ⟨v, H', I', r, k v H' q⟩⟩
theorem WT.mono {Q Q' : Bool → Hp → Prop} (h : WT X e σ H Q) (k : ∀ v H', Q v H' → Q' v H') : WT X e σ H Q' := ⟨fun pins s I => thn (h.run pins s I) fun _ _ ⟨H', I', q⟩ => ⟨H', I', k _ H' q⟩⟩
end

/-! ### what an expression is worth -/
section
variable (X : Cx) (Γ : List Slot)
/-- worth a, told by r; nothing else changes -/
def Ev (e : Expr) {α : Type} (r : Rp α) (a : α) : Prop := ∀ (E : Ent) (G H : Hp) (σ : L2.St), Holds E G H σ Γ → ∀ Q : VK, (∀ v G' H', Le G H G' H' → r.rel G' v a → Q v H') → WE X e σ H Q
/-- a new object that may change -/
def EvO (e : Expr) (c : Oc) : Prop := ∀ (E : Ent) (G H : Hp) (σ : L2.St), Holds E G H σ Γ → ∀ Q : VK, (∀ p o G' H', H p = none → Le G H G' H' → G' p = none → H' p = some o → c.rel G' o → Q (.ref p) H') → WE X e σ H Q
/-- an object that may change, to be looked at -/
def EvB (e : Expr) (c : Oc) : Prop := ∀ (E : Ent) (G H : Hp) (σ : L2.St), Holds E G H σ Γ → ∀ Q : VK, (∀ p o G' H', Le G H G' H' → H' p = some o → c.rel G' o → Q (.ref p) H') → WE X e σ H Q
def EvT (e : Expr) (b : Bool) : Prop := ∀ (E : Ent) (G H : Hp) (σ : L2.St), Holds E G H σ Γ → ∀ Q : Bool → Hp → Prop, (∀ G' H', Le G H G' H' → Q b H') → WT X e σ H Q
def EvW (e : Expr) (b : Bool) : Prop := ∀ (E : Ent) (G H : Hp) (σ : L2.St), Holds E G H σ Γ → ∀ Q : Bool → Hp → Prop, (∀ G' H', Le G H G' H' → Q b H') → WW X e σ H Q
end
/-- a typed value -/
structure Ty : Type 1 where
  {α : Type}
  r : Rp α
  a : α
def Args (G : Hp) : List V → List Ty → Prop
  | [], [] => True
  | v :: vs, t :: ts => t.r.rel G v t.a ∧ Args G vs ts
  | _, _ => False
theorem Args.mono {G G' : Hp} (e : Ex G G') : ∀ {vs : List V} {ts : List Ty}, Args G vs ts → Args G' vs ts
  | [], [], h => h
  | _ :: _, t :: _, h => ⟨t.r.mono e h.1, Args.mono e h.2⟩
def EvA (X : Cx) (Γ : List Slot) (es : List Expr) (ts : List Ty) : Prop := ∀ (E : Ent) (G H : Hp) (σ : L2.St), Holds E G H σ Γ → ∀ Q : List V → Hp → Prop, (∀ vs G' H', Le G H G' H' → Args G' vs ts → Q vs H') → WA X es σ H Q
section
variable {X : Cx} {Γ : List Slot} {e a b c : Expr} {es : List Expr} {pos : Pos} {α β γ : Type} {r : Rp α} {x : α}
theorem Ev.eq {y : α} (h : Ev X Γ e r x) (q : x = y) : Ev X Γ e r y := q ▸ h
theorem EvT.eq {y z : Bool} (h : EvT X Γ e y) (q : y = z) : EvT X Γ e z := q ▸ h
theorem ea_nil : EvA X Γ [] [] := fun E G H σ h Q q => WA.of pa_nil (q [] G H (.refl h.le.gh) trivial)
theorem ea_cons {t : Ty} {ts : List Ty} (ha : Ev X Γ e t.r t.a) (hr : EvA X Γ es ts) (hs : starEach (e :: es) X.env = (false, eval e X.env) :: starEach es X.env := by rfl) : EvA X Γ (e :: es) (t :: ts) := fun E G H σ h Q q =>
  WA.of (pa_cons WE.pe WA.pa hs) (ha E G H σ h _ fun v G1 H1 l1 r1 => hr E G1 H1 σ (h.step l1) _ fun vs G2 H2 l2 r2 => q _ G2 H2 (l1.trans l2) ⟨t.r.mono l2.g r1, r2⟩)
theorem EvO.bor {c : Oc} (h : EvO X Γ e c) : EvB X Γ e c := fun E G H σ hh Q q => h E G H σ hh Q fun p o G' H' _ l _ h2 h3 => q p o G' H' l h2 h3
/-- a new list is frozen -/
theorem EvO.ev {as : List α} (h : EvO X Γ e (oLst r as)) : Ev X Γ e (rLst r) as := fun E G H σ hh Q q => h E G H σ hh Q fun p o G' H' n l g h2 ⟨vs, e1, h3⟩ => by
  subst e1
  exact q _ (upd G' p (.lst vs)) H' (l.frz h2 n g) ⟨p, vs, rfl, upd_same, h3.mono (Evl.Ex.new g)⟩
/-- a frozen list, looked at -/
theorem Ev.bor {as : List α} (h : Ev X Γ e (rLst r) as) : EvB X Γ e (oLst r as) := fun E G H σ hh Q q => h E G H σ hh Q fun v G' H' l ⟨p, vs, e1, h2, h3⟩ => by
  subst e1
  exact q p _ G' H' l (l.gh _ _ h2) ⟨vs, rfl, h3⟩
theorem ev_v (i : Nat) {y : Str} (hg : Γ[i]? = some (.sh r x) := by rfl) (hN : X.N[i]? = some y := by rfl) (hv : Vis X.env.scope y := by first | exact Or.inl rfl | exact Or.inr (Or.inl rfl) | exact Or.inr (Or.inr rfl)) (hd : (y == ("__debug__" : Str)) = false := by decide)
    (hcd : (y == ("__classdict__" : Str)) = false := by decide) : Ev X Γ (.Name y pos) r x := fun E G H σ h Q q => by
  obtain ⟨v, h1, h2⟩ := h.sh hg
  exact WE.of (pe_var hN hv hd hcd) ⟨v, h1, q v G H (.refl h.le.gh) h2⟩
theorem eb_v (i : Nat) {y : Str} {c : Oc} {pq : Option Addr} (hg : Γ[i]? = some (.ow c pq) := by rfl) (hN : X.N[i]? = some y := by rfl) (hv : Vis X.env.scope y := by first | exact Or.inl rfl | exact Or.inr (Or.inl rfl) | exact Or.inr (Or.inr rfl)) (hd : (y == ("__debug__" : Str)) = false := by decide)
    (hcd : (y == ("__classdict__" : Str)) = false := by decide) : EvB X Γ (.Name y pos) c := fun E G H σ h Q q => by
  obtain ⟨p, o, h1, h2, h3, h4, h5⟩ := h.ow hg
  exact WE.of (pe_var hN hv hd hcd) ⟨_, h1, q p o G H (.refl h.le.gh) h4 h5⟩
theorem ev_int {i : Int} {j : Nat} : Ev X Γ (.Constant (.int i) j pos) rInt i := fun E G H σ h Q q => WE.of pe_int (q _ G H (.refl h.le.gh) rfl)
theorem ev_bool {i : Bool} {j : Nat} : Ev X Γ (.Constant (.bool i) j pos) rBool i := fun E G H σ h Q q => WE.of pe_bl (q _ G H (.refl h.le.gh) rfl)
theorem ev_str {i : Str} {j : Nat} : Ev X Γ (.Constant (.str i) j pos) rStr i := fun E G H σ h Q q => WE.of pe_str (q _ G H (.refl h.le.gh) rfl)
theorem ev_none {j : Nat} : Ev X Γ (.Constant .none j pos) (rOpt r) none := fun E G H σ h Q q => WE.of pe_non (q _ G H (.refl h.le.gh) rfl)
theorem ev_unit {j : Nat} : Ev X Γ (.Constant .none j pos) rNon () := fun E G H σ h Q q => WE.of pe_non (q _ G H (.refl h.le.gh) rfl)
theorem ev_some (h : Ev X Γ e r x) : Ev X Γ e (rOpt r) (some x) := fun E G H σ hh Q q => h E G H σ hh Q fun v G' H' l k => q v G' H' l k
end
end Hf

namespace Hf
open PySem PySem.Spec PyProof.Rows L2

/-! ### operators -/
section
variable {X : Cx} {Γ : List Slot} {e f g : Expr} {es : List Expr} {pos : Pos} {α β γ δ : Type} {r : Rp α} {x : α} {s : Rp β} {y : β} {t : Rp γ} {z : γ} {i j : Int} {p q : Bool} {u v : Str}
/-- what an operator by values gives -/
def Gives (ρ : R2) (r : Rp α) (x : α) (s : Rp β) (y : β) (t : Rp γ) (z : γ) : Prop := ∀ (G H : Hp) (a b : V), Ex G H → r.rel G a x → s.rel G b y → ∀ Q : VK, (∀ c G' H', Le G H G' H' → t.rel G' c z → Q c H') → ρ a b H Q
theorem ev_bin {op : Operator} {ρ : R2} (ho : OpR X (binaryOp op) ρ) (ha : Ev X Γ e r x) (hb : Ev X Γ f s y) (hs : Gives ρ r x s y t z) : Ev X Γ (.BinOp e op f pos) t z := fun E G H σ h Q k =>
  WE.of (pe_op ho WE.pe WE.pe) (ha E G H σ h _ fun a G1 H1 l1 r1 => hb E G1 H1 σ (h.step l1) _ fun b G2 H2 l2 r2 => hs G2 H2 a b l2.gh (r.mono l2.g r1) r2 Q fun c G3 H3 l3 r3 => k c G3 H3 ((l1.trans l2).trans l3) r3)
theorem ev_cmpR {op : CmpOp} {ρ : R2} (ho : OpR X (compareOp op) ρ) (ha : Ev X Γ e r x) (hb : Ev X Γ f s y) (hs : Gives ρ r x s y t z) (hm : behindInMarks op f = false := by first | exact nobehind _ (by decide) (by decide) | rfl) : Ev X Γ (.Compare e [op] [f] pos) t z := fun E G H σ h Q k =>
  WE.of (pe_cmpR ho WE.pe WE.pe hm) (ha E G H σ h _ fun a G1 H1 l1 r1 => hb E G1 H1 σ (h.step l1) _ fun b G2 H2 l2 r2 => hs G2 H2 a b l2.gh (r.mono l2.g r1) r2 Q fun c G3 H3 l3 r3 => k c G3 H3 ((l1.trans l2).trans l3) r3)
theorem et_cmpR {op : CmpOp} {ρ : R2} (ho : OpR X (compareOp op) ρ) (ha : Ev X Γ e r x) (hb : Ev X Γ f s y) (hs : Gives ρ r x s y rBool p) (hm : behindInMarks op f = false := by first | exact nobehind _ (by decide) (by decide) | rfl) : EvT X Γ (.Compare e [op] [f] pos) p := fun E G H σ h Q k =>
  WT.of (pt_cmpR ho WE.pe WE.pe hm) (ha E G H σ h _ fun a G1 H1 l1 r1 => hb E G1 H1 σ (h.step l1) _ fun b G2 H2 l2 r2 => hs G2 H2 a b l2.gh (r.mono l2.g r1) r2 _ fun c G3 H3 l3 r3 => ⟨p, r3, k G3 H3 ((l1.trans l2).trans l3)⟩)
theorem gv_I0 {F : Int → Int → V} {k : Rp γ} (h : ∀ G, k.rel G (F i j) z) : Gives (rI0 F) rInt i rInt j k z := fun G H a b e h1 h2 Q q => ⟨i, j, h1, h2, q _ G H (.refl e) (h G)⟩
theorem gv_I {C : Int → Int → Prop} {F : Int → Int → V} {k : Rp γ} (c : C i j) (h : ∀ G, k.rel G (F i j) z) : Gives (rI C F) rInt i rInt j k z := fun G H a b e h1 h2 Q q => ⟨i, j, h1, h2, c, q _ G H (.refl e) (h G)⟩
theorem ev_add (ha : Ev X Γ e rInt i) (hb : Ev X Γ f rInt j) : Ev X Γ (.BinOp e .Add f pos) rInt (i + j) := ev_bin op_add ha hb (gv_I0 fun _ => rfl)
theorem ev_sub (ha : Ev X Γ e rInt i) (hb : Ev X Γ f rInt j) : Ev X Γ (.BinOp e .Sub f pos) rInt (i - j) := ev_bin op_sub ha hb (gv_I0 fun _ => rfl)
/-- a product: the left | the right one is small -/
theorem ev_mulL (hc : -(2 ^ 64) < i ∧ i < 2 ^ 64) (ha : Ev X Γ e rInt i) (hb : Ev X Γ f rInt j) : Ev X Γ (.BinOp e .Mult f pos) rInt (i * j) := ev_bin op_mul ha hb (gv_I (.inl hc) fun _ => rfl)
theorem ev_mulR (hc : -(2 ^ 64) < j ∧ j < 2 ^ 64) (ha : Ev X Γ e rInt i) (hb : Ev X Γ f rInt j) : Ev X Γ (.BinOp e .Mult f pos) rInt (i * j) := ev_bin op_mul ha hb (gv_I (.inr hc) fun _ => rfl)
theorem ev_mulW (hc : CMulW i j) (ha : Ev X Γ e rInt i) (hb : Ev X Γ f rInt j) : Ev X Γ (.BinOp e .Mult f pos) rInt (i * j) := ev_bin op_mulW ha hb (gv_I hc fun _ => rfl)
theorem ev_div (hc : 0 < j ∧ j < 1073741824) (ha : Ev X Γ e rInt i) (hb : Ev X Γ f rInt j) : Ev X Γ (.BinOp e .FloorDiv f pos) rInt (i / j) := ev_bin op_fdiv ha hb (gv_I hc fun _ => rfl)
theorem ev_divW (hc : CDivW i j) (ha : Ev X Γ e rInt i) (hb : Ev X Γ f rInt j) : Ev X Γ (.BinOp e .FloorDiv f pos) rInt (i / j) := ev_bin op_fdivW ha hb (gv_I hc fun _ => rfl)
theorem ev_mod (hc : 0 < j) (ha : Ev X Γ e rInt i) (hb : Ev X Γ f rInt j) : Ev X Γ (.BinOp e .Mod f pos) rInt (i % j) := ev_bin op_mod ha hb (gv_I hc fun _ => rfl)
theorem ev_pow (hc : CPow i j) (ha : Ev X Γ e rInt i) (hb : Ev X Γ f rInt j) : Ev X Γ (.BinOp e .Pow f pos) rInt (i ^ j.toNat) := ev_bin op_pow ha hb (gv_I hc fun _ => rfl)
theorem ev_neg (ha : Ev X Γ e rInt i) : Ev X Γ (.UnaryOp .USub e pos) rInt (-i) := fun E G H σ h Q k =>
  WE.of (pe_un un_neg WE.pe) (ha E G H σ h _ fun a G1 H1 l1 r1 => ⟨i, r1, k _ G1 H1 l1 rfl⟩)
theorem ev_cat (hl : u.length + v.length ≤ sizeLine) (ha : Ev X Γ e rStr u) (hb : Ev X Γ f rStr v) : Ev X Γ (.BinOp e .Add f pos) rStr (u ++ v) := ev_bin op_add_str ha hb fun G H a b e h1 h2 Q q => ⟨u, v, h1, h2, hl, q _ G H (.refl e) rfl⟩
/-- comparisons of ints -/
theorem ev_lt (ha : Ev X Γ e rInt i) (hb : Ev X Γ f rInt j) : Ev X Γ (.Compare e [.Lt] [f] pos) rBool (decide (i < j)) := ev_cmpR op_lt ha hb (gv_I0 fun _ => rfl)
theorem ev_le (ha : Ev X Γ e rInt i) (hb : Ev X Γ f rInt j) : Ev X Γ (.Compare e [.LtE] [f] pos) rBool (decide (i ≤ j)) := ev_cmpR op_le ha hb (gv_I0 fun _ => rfl)
theorem ev_gt (ha : Ev X Γ e rInt i) (hb : Ev X Γ f rInt j) : Ev X Γ (.Compare e [.Gt] [f] pos) rBool (decide (j < i)) := ev_cmpR op_gt ha hb (gv_I0 fun _ => rfl)
theorem ev_ge (ha : Ev X Γ e rInt i) (hb : Ev X Γ f rInt j) : Ev X Γ (.Compare e [.GtE] [f] pos) rBool (decide (j ≤ i)) := ev_cmpR op_ge ha hb (gv_I0 fun _ => rfl)
theorem et_lt (ha : Ev X Γ e rInt i) (hb : Ev X Γ f rInt j) : EvT X Γ (.Compare e [.Lt] [f] pos) (decide (i < j)) := et_cmpR op_lt ha hb (gv_I0 fun _ => rfl)
theorem et_le (ha : Ev X Γ e rInt i) (hb : Ev X Γ f rInt j) : EvT X Γ (.Compare e [.LtE] [f] pos) (decide (i ≤ j)) := et_cmpR op_le ha hb (gv_I0 fun _ => rfl)
theorem et_gt (ha : Ev X Γ e rInt i) (hb : Ev X Γ f rInt j) : EvT X Γ (.Compare e [.Gt] [f] pos) (decide (j < i)) := et_cmpR op_gt ha hb (gv_I0 fun _ => rfl)
theorem et_ge (ha : Ev X Γ e rInt i) (hb : Ev X Γ f rInt j) : EvT X Γ (.Compare e [.GtE] [f] pos) (decide (j ≤ i)) := et_cmpR op_ge ha hb (gv_I0 fun _ => rfl)
/-- == of flat things -/
theorem gv_eqI : Gives rEq rInt i rInt j rBool (decide (i = j)) := fun G H a b e h1 h2 Q q => by
  cases h1; cases h2
  refine ⟨rfl, q _ G H (.refl e) ?_⟩
  show V.bl _ = V.bl _
  congr 1
  exact decide_eq_decide.mpr (by constructor <;> (intro h; first | (cases h; rfl) | (rw [h])))
theorem gv_neI : Gives rNe rInt i rInt j rBool (!decide (i = j)) := fun G H a b e h1 h2 Q q => by
  cases h1; cases h2
  refine ⟨rfl, q _ G H (.refl e) ?_⟩
  show V.bl _ = V.bl _
  congr 2
  exact decide_eq_decide.mpr (by constructor <;> (intro h; first | (cases h; rfl) | (rw [h])))
theorem gv_eqS : Gives rEq rStr u rStr v rBool (decide (u = v)) := fun G H a b e h1 h2 Q q => by
  cases h1; cases h2
  refine ⟨rfl, q _ G H (.refl e) ?_⟩
  show V.bl _ = V.bl _
  congr 1
  exact decide_eq_decide.mpr (by constructor <;> (intro h; first | (cases h; rfl) | (rw [h])))
theorem gv_neS : Gives rNe rStr u rStr v rBool (!decide (u = v)) := fun G H a b e h1 h2 Q q => by
  cases h1; cases h2
  refine ⟨rfl, q _ G H (.refl e) ?_⟩
  show V.bl _ = V.bl _
  congr 2
  exact decide_eq_decide.mpr (by constructor <;> (intro h; first | (cases h; rfl) | (rw [h])))
theorem gv_eqB : Gives rEq rBool p rBool q rBool (p == q) := fun G H a b e h1 h2 Q k => by
  cases h1; cases h2
  refine ⟨rfl, k _ G H (.refl e) ?_⟩
  cases p <;> cases q <;> rfl
theorem gv_neB : Gives rNe rBool p rBool q rBool (p != q) := fun G H a b e h1 h2 Q k => by
  cases h1; cases h2
  refine ⟨rfl, k _ G H (.refl e) ?_⟩
  cases p <;> cases q <;> rfl
theorem ev_eqI (ha : Ev X Γ e rInt i) (hb : Ev X Γ f rInt j) : Ev X Γ (.Compare e [.Eq] [f] pos) rBool (decide (i = j)) := ev_cmpR op_eq ha hb gv_eqI
theorem ev_neI (ha : Ev X Γ e rInt i) (hb : Ev X Γ f rInt j) : Ev X Γ (.Compare e [.NotEq] [f] pos) rBool (!decide (i = j)) := ev_cmpR op_ne ha hb gv_neI
theorem et_eqI (ha : Ev X Γ e rInt i) (hb : Ev X Γ f rInt j) : EvT X Γ (.Compare e [.Eq] [f] pos) (decide (i = j)) := et_cmpR op_eq ha hb gv_eqI
theorem et_neI (ha : Ev X Γ e rInt i) (hb : Ev X Γ f rInt j) : EvT X Γ (.Compare e [.NotEq] [f] pos) (!decide (i = j)) := et_cmpR op_ne ha hb gv_neI
theorem ev_eqS (ha : Ev X Γ e rStr u) (hb : Ev X Γ f rStr v) : Ev X Γ (.Compare e [.Eq] [f] pos) rBool (decide (u = v)) := ev_cmpR op_eq ha hb gv_eqS
theorem ev_neS (ha : Ev X Γ e rStr u) (hb : Ev X Γ f rStr v) : Ev X Γ (.Compare e [.NotEq] [f] pos) rBool (!decide (u = v)) := ev_cmpR op_ne ha hb gv_neS
theorem et_eqS (ha : Ev X Γ e rStr u) (hb : Ev X Γ f rStr v) : EvT X Γ (.Compare e [.Eq] [f] pos) (decide (u = v)) := et_cmpR op_eq ha hb gv_eqS
theorem et_neS (ha : Ev X Γ e rStr u) (hb : Ev X Γ f rStr v) : EvT X Γ (.Compare e [.NotEq] [f] pos) (!decide (u = v)) := et_cmpR op_ne ha hb gv_neS
theorem ev_eqB (ha : Ev X Γ e rBool p) (hb : Ev X Γ f rBool q) : Ev X Γ (.Compare e [.Eq] [f] pos) rBool (p == q) := ev_cmpR op_eq ha hb gv_eqB
theorem ev_neB (ha : Ev X Γ e rBool p) (hb : Ev X Γ f rBool q) : Ev X Γ (.Compare e [.NotEq] [f] pos) rBool (p != q) := ev_cmpR op_ne ha hb gv_neB
theorem et_eqB (ha : Ev X Γ e rBool p) (hb : Ev X Γ f rBool q) : EvT X Γ (.Compare e [.Eq] [f] pos) (p == q) := et_cmpR op_eq ha hb gv_eqB
theorem et_neB (ha : Ev X Γ e rBool p) (hb : Ev X Γ f rBool q) : EvT X Γ (.Compare e [.NotEq] [f] pos) (p != q) := et_cmpR op_ne ha hb gv_neB
/-- two comparisons in a chain -/
theorem ev_chain {op op' : CmpOp} {ρ ρ' : R2} (ho : OpR X (compareOp op) ρ) (ho' : OpR X (compareOp op') ρ') (ha : Ev X Γ e r x) (hb : Ev X Γ f s y) (hc : p = true → Ev X Γ g t z) (h1 : Gives ρ r x s y rBool p) (h2 : p = true → Gives ρ' s y t z rBool q)
    (hm : lastMarks [op, op'] [f, g] = false := by with_unfolding_all rfl) : Ev X Γ (.Compare e [op, op'] [f, g] pos) rBool (p && q) := fun E G H σ h Q k =>
  WE.of (pe_chain ho ho' WE.pe WE.pe WE.pe hm) (ha E G H σ h _ fun a G1 H1 l1 r1 => hb E G1 H1 σ (h.step l1) _ fun b G2 H2 l2 r2 => h1 G2 H2 a b l2.gh (r.mono l2.g r1) r2 _ fun c G3 H3 l3 r3 => ⟨p, r3, by
    have l := (l1.trans l2).trans l3
    cases p with
    | false =>
      rw [if_neg Bool.false_ne_true]
      exact k _ G3 H3 l rfl
    | true =>
      rw [if_pos rfl]
      exact hc rfl E G3 H3 σ (h.step l) _ fun d G4 H4 l4 r4 => h2 rfl G4 H4 b d l4.gh (s.mono (l3.trans l4).g r2) r4 Q fun c G5 H5 l5 r5 => k c G5 H5 ((l.trans l4).trans l5) r5⟩)
theorem et_chain {op op' : CmpOp} {ρ ρ' : R2} (ho : OpR X (compareOp op) ρ) (ho' : OpR X (compareOp op') ρ') (ha : Ev X Γ e r x) (hb : Ev X Γ f s y) (hc : p = true → Ev X Γ g t z) (h1 : Gives ρ r x s y rBool p) (h2 : p = true → Gives ρ' s y t z rBool q)
    (hm : lastMarks [op, op'] [f, g] = false := by with_unfolding_all rfl) : EvT X Γ (.Compare e [op, op'] [f, g] pos) (p && q) := fun E G H σ h Q k =>
  WT.of (pt_chain ho ho' WE.pe WE.pe WE.pe hm) (ha E G H σ h _ fun a G1 H1 l1 r1 => hb E G1 H1 σ (h.step l1) _ fun b G2 H2 l2 r2 => h1 G2 H2 a b l2.gh (r.mono l2.g r1) r2 _ fun c G3 H3 l3 r3 => ⟨p, r3, by
    have l := (l1.trans l2).trans l3
    cases p with
    | false =>
      rw [if_neg Bool.false_ne_true]
      exact ⟨false, rfl, k G3 H3 l⟩
    | true =>
      rw [if_pos rfl]
      exact hc rfl E G3 H3 σ (h.step l) _ fun d G4 H4 l4 r4 => h2 rfl G4 H4 b d l4.gh (s.mono (l3.trans l4).g r2) r4 _ fun c G5 H5 l5 r5 => ⟨q, r5, k G5 H5 ((l.trans l4).trans l5)⟩⟩)
theorem gv_lt : Gives (rI0 fun i j => .bl (decide (i < j))) rInt i rInt j rBool (decide (i < j)) := gv_I0 fun _ => rfl
theorem gv_le : Gives (rI0 fun i j => .bl (decide (i ≤ j))) rInt i rInt j rBool (decide (i ≤ j)) := gv_I0 fun _ => rfl
theorem gv_gt : Gives (rI0 fun i j => .bl (decide (j < i))) rInt i rInt j rBool (decide (j < i)) := gv_I0 fun _ => rfl
theorem gv_ge : Gives (rI0 fun i j => .bl (decide (j ≤ i))) rInt i rInt j rBool (decide (j ≤ i)) := gv_I0 fun _ => rfl

/-! ### tests, and, or, not -/
theorem et_val (h : Ev X Γ e rBool p) (he : ∀ whole, isTrue e X.env whole = (do let v ← whole; standAt e.pos; holding [v] (truthy v)) := by intro _; rfl) : EvT X Γ e p := fun E G H σ hh Q k =>
  WT.of (pt_val WE.pe he) (h E G H σ hh _ fun a G1 H1 l1 r1 => ⟨p, r1, k G1 H1 l1⟩)
theorem et_not (h : EvT X Γ e p) : EvT X Γ (.UnaryOp .Not e pos) (!p) := fun E G H σ hh Q k => WT.of (pt_not WT.pt) (h E G H σ hh _ fun G1 H1 l1 => k G1 H1 l1)
theorem ev_not (h : Ev X Γ e rBool p) : Ev X Γ (.UnaryOp .Not e pos) rBool (!p) := fun E G H σ hh Q k => WE.of (pe_not WE.pe) (h E G H σ hh _ fun a G1 H1 l1 r1 => ⟨p, r1, k _ G1 H1 l1 rfl⟩)
theorem et_bool (h : EvW X Γ e p) : EvT X Γ e p := fun E G H σ hh Q k => WT.of WW.pw.pt (h E G H σ hh Q k)
theorem ew_and1 (h : EvT X Γ e p) : EvW X Γ (.BoolOp .And [e] pos) p := fun E G H σ hh Q k => WW.of (pw_and1 WT.pt) (h E G H σ hh Q k)
theorem ew_or1 (h : EvT X Γ e p) : EvW X Γ (.BoolOp .Or [e] pos) p := fun E G H σ hh Q k => WW.of (pw_or1 WT.pt) (h E G H σ hh Q k)
theorem ew_and (h : EvT X Γ e p) (h2 : p = true → EvW X Γ (.BoolOp .And (f :: es) pos) q) : EvW X Γ (.BoolOp .And (e :: f :: es) pos) (p && q) := fun E G H σ hh Q k => WW.of (pw_and WT.pt WW.pw) (h E G H σ hh _ fun G1 H1 l1 => by
  cases p with
  | false =>
    rw [if_neg Bool.false_ne_true]
    exact k G1 H1 l1
  | true =>
    rw [if_pos rfl]
    exact h2 rfl E G1 H1 σ (hh.step l1) Q fun G2 H2 l2 => k G2 H2 (l1.trans l2))
theorem ew_or (h : EvT X Γ e p) (h2 : p = false → EvW X Γ (.BoolOp .Or (f :: es) pos) q) : EvW X Γ (.BoolOp .Or (e :: f :: es) pos) (p || q) := fun E G H σ hh Q k => WW.of (pw_or WT.pt WW.pw) (h E G H σ hh _ fun G1 H1 l1 => by
  cases p with
  | true =>
    rw [if_pos rfl]
    exact k G1 H1 l1
  | false =>
    rw [if_neg Bool.false_ne_true]
    exact h2 rfl E G1 H1 σ (hh.step l1) Q fun G2 H2 l2 => k G2 H2 (l1.trans l2))
theorem ev_one {op : BoolOp} (h : Ev X Γ e r x) : Ev X Γ (.BoolOp op [e] pos) r x := fun E G H σ hh Q k => WE.of (pe_one WE.pe) (h E G H σ hh Q k)
theorem ev_and (h : Ev X Γ e rBool p) (h2 : p = true → Ev X Γ (.BoolOp .And (f :: es) pos) rBool q) : Ev X Γ (.BoolOp .And (e :: f :: es) pos) rBool (p && q) := fun E G H σ hh Q k => WE.of (pe_and WE.pe WE.pe) (h E G H σ hh _ fun a G1 H1 l1 r1 => ⟨p, r1, by
  cases p with
  | false =>
    rw [if_neg Bool.false_ne_true]
    exact k _ G1 H1 l1 rfl
  | true =>
    rw [if_pos rfl]
    exact h2 rfl E G1 H1 σ (hh.step l1) Q fun a G2 H2 l2 r2 => k a G2 H2 (l1.trans l2) r2⟩)
theorem ev_or (h : Ev X Γ e rBool p) (h2 : p = false → Ev X Γ (.BoolOp .Or (f :: es) pos) rBool q) : Ev X Γ (.BoolOp .Or (e :: f :: es) pos) rBool (p || q) := fun E G H σ hh Q k => WE.of (pe_or WE.pe WE.pe) (h E G H σ hh _ fun a G1 H1 l1 r1 => ⟨p, r1, by
  cases p with
  | true =>
    rw [if_pos rfl]
    exact k _ G1 H1 l1 rfl
  | false =>
    rw [if_neg Bool.false_ne_true]
    exact h2 rfl E G1 H1 σ (hh.step l1) Q fun a G2 H2 l2 r2 => k a G2 H2 (l1.trans l2) r2⟩)
theorem ev_ifE {x' : α} (h : EvT X Γ e p) (h1 : p = true → Ev X Γ f r x) (h2 : p = false → Ev X Γ g r x') : Ev X Γ (.IfExp e f g pos) r (if p = true then x else x') := fun E G H σ hh Q k => WE.of (pe_ifExp WT.pt WE.pe WE.pe) (h E G H σ hh _ fun G1 H1 l1 => by
  cases p with
  | true =>
    rw [if_pos rfl] at k ⊢
    exact h1 rfl E G1 H1 σ (hh.step l1) Q fun a G2 H2 l2 r2 => k a G2 H2 (l1.trans l2) r2
  | false =>
    rw [if_neg Bool.false_ne_true] at k ⊢
    exact h2 rfl E G1 H1 σ (hh.step l1) Q fun a G2 H2 l2 r2 => k a G2 H2 (l1.trans l2) r2)
/-- an arm that is taken for sure -/
theorem ev_ifT (h : EvT X Γ e true) (h1 : Ev X Γ f r x) : Ev X Γ (.IfExp e f g pos) r x := (ev_ifE (x' := x) (g := g) h (fun _ => h1) (fun q => by cases q)).eq (if_pos rfl)
theorem ev_ifF (h : EvT X Γ e false) (h1 : Ev X Γ g r x) : Ev X Γ (.IfExp e f g pos) r x := (ev_ifE (x := x) (f := f) h (fun q => by cases q) (fun _ => h1)).eq (if_neg Bool.false_ne_true)
end
end Hf

namespace Hf
open PySem PySem.Spec PyProof.Rows L2

/-! ### blocks of statements -/
/-- from any state that these slots tell, the block leads where D wants -/
def Bk (X : Cx) (E : Ent) (Γ : List Slot) (sts : List Stmt) (D : Ends) : Prop := ∀ (G H : Hp) (σ : L2.St), Holds E G H σ Γ → WB X sts σ H D
/-- some state that these slots tell -/
def At (E : Ent) (Γ : List Slot) (σ : L2.St) (H : Hp) : Prop := ∃ G, Holds E G H σ Γ
/-- what comes behind a block -/
abbrev thenD (X : Cx) (rest : List Stmt) (D : Ends) : Ends := { D with nx := fun σ H => WB X rest σ H D }
/-- an answer is told -/
def RetOk (E : Ent) (D : Ends) {α : Type} (r : Rp α) (a : α) : Prop := ∀ v G H, LeE E.G E.H E.M G H → r.rel G v a → D.rt v H
/-- an answer that is a new object -/
def RetO (E : Ent) (D : Ends) (c : Oc) : Prop := ∀ p o G H, LeE E.G E.H E.M G H → G p = none → E.H p = none → H p = some o → c.rel G o → D.rt (.ref p) H
section
variable {X : Cx} {E : Ent} {Γ Γ' : List Slot} {D : Ends} {e f g : Expr} {es : List Expr} {st : Stmt} {rest body : List Stmt} {pos : Pos} {α β γ : Type} {r : Rp α} {x : α} {s : Rp β} {y : β} {t : Rp γ} {z : γ}
theorem RetOk.eq {x' : α} (h : RetOk E D r x) (q : x = x') : RetOk E D r x' := q ▸ h
theorem bk_end (h : ∀ G H σ, Holds E G H σ Γ → D.nx σ H) : Bk X E Γ [] D := fun G H σ hh => WB.of pss_nil (h G H σ hh)
/-- the end of an inner block: on with what follows -/
theorem bk_then (h : Bk X E Γ rest D) : Bk X E Γ [] (thenD X rest D) := bk_end h
theorem bk_at (h : ∀ σ H, At E Γ σ H → D.nx σ H) : Bk X E Γ [] D := bk_end fun G H σ hh => h σ H ⟨G, hh⟩
theorem bk_of {t : TS} (p : PS X st t) (h : ∀ G H σ, Holds E G H σ Γ → t (thenD X rest D) σ H) : Bk X E Γ (st :: rest) D := fun G H σ hh => WB.of (pss_cons p WB.pss) (h G H σ hh)
theorem bk_weak (h : Bk X E Γ' rest D) (l : Γ'.length = Γ.length) (w : ∀ (i : Nat) (s : Slot), Γ'[i]? = some s → s = .no ∨ Γ[i]? = some s) : Bk X E Γ rest D := fun G H σ hh => h G H σ (hh.weak l w)
/-- x = e -/
theorem bk_set (i : Nat) {a : Str} {p : Pos} (nd : X.N.Nodup) (he : Ev X Γ e r x) (k : Bk X E (Γ.set i (.sh r x)) rest D) (hi : X.N[i]? = some a := by rfl) (hx : Loc X.env.scope a := by first | exact Or.inl rfl | exact Or.inr rfl)
    (hs : swapsWith e (some (.Name a p)) pos.line X.env = pure false := by rfl) (hf : X.fn a = true ∨ X.env.scope.names.lookup a = some .local := by first | exact .inl rfl | exact .inr rfl) : Bk X E Γ (.Assign [.Name a p] e pos :: rest) D :=
  bk_of (ps_set nd hi hx WE.pe hs hf) fun G H σ hh => he E G H σ hh _ fun v G1 H1 l1 r1 => k G1 H1 _ ((hh.step l1).set_sh r1)
/-- x = e, e a new object that will change -/
theorem bk_setO (i : Nat) {a : Str} {p : Pos} {c : Oc} (nd : X.N.Nodup) (he : EvO X Γ e c) (k : Bk X E (Γ.set i (.ow c)) rest D) (hi : X.N[i]? = some a := by rfl) (hx : Loc X.env.scope a := by first | exact Or.inl rfl | exact Or.inr rfl)
    (hs : swapsWith e (some (.Name a p)) pos.line X.env = pure false := by rfl) (hf : X.fn a = true ∨ X.env.scope.names.lookup a = some .local := by first | exact .inl rfl | exact .inr rfl) : Bk X E Γ (.Assign [.Name a p] e pos :: rest) D :=
  bk_of (ps_set nd hi hx WE.pe hs hf) fun G H σ hh => he E G H σ hh _ fun q o G1 H1 n l1 g1 h1 c1 => k G1 H1 _ (hh.set_ow l1 n g1 h1 c1)
theorem bk_ret (he : Ev X Γ e r x) (k : RetOk E D r x) : Bk X E Γ (.Return (some e) pos :: rest) D :=
  bk_of (ps_ret WE.pe) fun G H σ hh => he E G H σ hh _ fun v G1 H1 l1 r1 => k v G1 H1 (hh.step l1).le r1
theorem bk_retO {c : Oc} (he : EvO X Γ e c) (k : RetO E D c) : Bk X E Γ (.Return (some e) pos :: rest) D :=
  bk_of (ps_ret WE.pe) fun G H σ hh => he E G H σ hh _ fun q o G1 H1 n l1 g1 h1 c1 => k q o G1 H1 (hh.step l1).le g1 (hh.le.fresh n) h1 c1
/-- a list of one's own is handed back -/
theorem bk_retv (i : Nat) {a : Str} {c : Oc} {p : Pos} (k : RetO E D c) (hg : Γ[i]? = some (.ow c) := by rfl) (hN : X.N[i]? = some a := by rfl) (hv : Vis X.env.scope a := by first | exact Or.inl rfl | exact Or.inr (Or.inl rfl) | exact Or.inr (Or.inr rfl))
    (hd : (a == ("__debug__" : Str)) = false := by decide) (hcd : (a == ("__classdict__" : Str)) = false := by decide) : Bk X E Γ (.Return (some (.Name a p)) pos :: rest) D :=
  bk_of (ps_ret (pe_var hN hv hd hcd)) fun G H σ hh => by
    obtain ⟨q, o, h1, h2, h3, h4, h5⟩ := hh.ow hg
    exact ⟨_, h1, k q o G H hh.le h2 h3 h4 h5⟩
theorem bk_if {c : Expr} {A B : List Stmt} {p : Bool} (hc : EvT X Γ c p) (ha : p = true → Bk X E Γ A (thenD X rest D)) (hb : p = false → Bk X E Γ B (thenD X rest D)) : Bk X E Γ (.If c A B pos :: rest) D :=
  bk_of (ps_if WT.pt WB.pss WB.pss) fun G H σ hh => hc E G H σ hh _ fun G1 H1 l1 => by
    cases p with
    | true =>
      rw [if_pos rfl]
      exact ha rfl G1 H1 σ (hh.step l1)
    | false =>
      rw [if_neg Bool.false_ne_true]
      exact hb rfl G1 H1 σ (hh.step l1)
theorem bk_expr (he : Ev X Γ e r x) (k : Bk X E Γ rest D) (hs : swapsWith e none pos.line X.env = pure false := by rfl) : Bk X E Γ (.Expr e pos :: rest) D :=
  bk_of (ps_expr WE.pe hs) fun G H σ hh => he E G H σ hh _ fun v G1 H1 l1 r1 => k G1 H1 _ (hh.step l1)
/-- x, y = a, b -/
theorem bk_par (i j : Nat) {a b : Str} {e1 e2 : Expr} {px py pt : Pos} {kt k2 : Nat} {pt2 : Pos} (nd : X.N.Nodup) (h1 : Ev X Γ e1 r x) (h2 : Ev X Γ e2 s y) (k : Bk X E ((Γ.set i (.sh r x)).set j (.sh s y)) rest D) (hc : X.calm = true := by rfl) (hi : X.N[i]? = some a := by rfl) (hj : X.N[j]? = some b := by rfl) (hij : i ≠ j := by decide)
    (hx : X.env.scope.names.lookup a = some .local := by rfl) (hy : X.env.scope.names.lookup b = some .local := by rfl) (hs1 : starEach (e1 :: [e2]) X.env = (false, eval e1 X.env) :: starEach [e2] X.env := by rfl) (hs2 : starEach (e2 :: []) X.env = (false, eval e2 X.env) :: starEach [] X.env := by rfl)
    (hw : swappedStores [.Tuple [.Name a px, .Name b py] kt pt] (.Tuple [e1, e2] k2 pt2) X.env = pure (some [a, b]) := by rfl)
    (hs : swapsWithSole [.Tuple [.Name a px, .Name b py] kt pt] (.Tuple [e1, e2] k2 pt2) pos.line X.env = pure false := by rfl) : Bk X E Γ (.Assign [.Tuple [.Name a px, .Name b py] kt pt] (.Tuple [e1, e2] k2 pt2) pos :: rest) D :=
  bk_of (ps_par hc nd hi hj hij hx hy (pa_cons WE.pe (pa_cons WE.pe pa_nil hs2) hs1) hw hs) fun G H σ hh => h1 E G H σ hh _ fun v G1 H1 l1 r1 => h2 E G1 H1 σ (hh.step l1) _ fun w G2 H2 l2 r2 =>
    ⟨v, w, rfl, k G2 H2 _ ((((hh.step l1).step l2).set_sh (r.mono l2.g r1)).set_sh r2)⟩

/-! ### where a value is stored -/
/-- alike but at these places -/
def SameBut (vs : List Nat) (σ σ' : L2.St) : Prop := σ'.length = σ.length ∧ ∀ i, i ∉ vs → σ'[i]? = σ[i]?
theorem SameBut.set {i : Nat} {x : Option V} {σ : L2.St} : SameBut [i] σ (σ.set i x) := ⟨by rw [List.length_set], fun j hj => by
  rw [List.getElem?_set_ne]
  intro e
  exact hj (by simp [e])⟩
theorem SameBut.trans {vs ws : List Nat} {σ σ' σ'' : L2.St} (a : SameBut vs σ σ') (b : SameBut ws σ' σ'') : SameBut (vs ++ ws) σ σ'' := ⟨b.1.trans a.1, fun i hi => by
  rw [List.mem_append, not_or] at hi
  rw [b.2 i hi.2, a.2 i hi.1]⟩
/-- a store by a rule -/
structure WG (X : Cx) (tg : Expr) (v : V) (σ : L2.St) (H : Hp) (Q : L2.St → Hp → Prop) : Prop where
  run : ∀ (pins : List (Addr × Obj)) (s : Shared) (u : Value), Inv X pins σ H s → RelV v u → wpAny (model X.prog X.w) X.A (assign tg X.env u) (fun _ s' => ∃ σ' H', Inv X pins σ' H' s' ∧ Q σ' H') X.xe s
theorem WG.pg {X : Cx} {tg : Expr} : PG X tg (WG X tg) := ⟨fun pins s σ H v u Q I r h => h.run pins s u I r⟩
theorem WG.of {X : Cx} {tg : Expr} {t : TG} {v : V} {σ : L2.St} {H : Hp} {Q : L2.St → Hp → Prop} (p : PG X tg t) (h : t v σ H Q) : WG X tg v σ H Q := ⟨fun pins s u I r => p.run pins s σ H v u Q I r h⟩
def TgOk (X : Cx) (tg : Expr) (r : Rp α) (U : α → List Slot → List Slot) (vs : List Nat) : Prop := ∀ (E : Ent) (G H : Hp) (σ : L2.St) (Γ : List Slot) (v : V) (a : α), Holds E G H σ Γ → r.rel G v a → ∀ Q : L2.St → Hp → Prop, (∀ σ', SameBut vs σ σ' → Holds E G H σ' (U a Γ) → Q σ' H) → WG X tg v σ H Q
theorem tg_name (i : Nat) {a : Str} (nd : X.N.Nodup) (hi : X.N[i]? = some a := by rfl) (hx : Loc X.env.scope a := by first | exact Or.inl rfl | exact Or.inr rfl) (hf : X.fn a = true ∨ X.env.scope.names.lookup a = some .local := by first | exact .inl rfl | exact .inr rfl) :
    TgOk X (.Name a pos) r (fun a Γ => Γ.set i (.sh r a)) [i] := fun E G H σ Γ v a hh hv Q q => WG.of (pg_name nd hi hx hf) (q _ .set (hh.set_sh hv))
theorem tg_tup2 {t1 t2 : Expr} {n : Nat} {U : α → List Slot → List Slot} {W : β → List Slot → List Slot} {vs ws : List Nat} (h1 : TgOk X t1 r U vs) (h2 : TgOk X t2 s W ws) (hc : X.calm = true := by rfl) (hs1 : (assignEach (t1 :: [t2]) X.env).map (·.2) = assign t1 X.env :: (assignEach [t2] X.env).map (·.2) := by rfl)
    (hs2 : (assignEach (t2 :: []) X.env).map (·.2) = assign t2 X.env :: (assignEach [] X.env).map (·.2) := by rfl) (hn : (assignEach [t1, t2] X.env).length = 2 := by rfl) (hst : (assignEach [t1, t2] X.env).findIdx? (·.1) = none := by rfl) :
    TgOk X (.Tuple [t1, t2] n pos) (rT2 X.K r s) (fun a Γ => W a.2 (U a.1 Γ)) (vs ++ ws) := fun E G H σ Γ v a hh hv Q q => by
  obtain ⟨p, v1, v2, e, hp, q1, q2⟩ := hv
  subst e
  refine WG.of (pg_tup hc (pgs_cons (t := WG X t1) WG.pg (pgs_cons (t := WG X t2) WG.pg pgs_nil hs2) hs1) hn hst) ⟨p, [v1, v2], rfl, Evl.ex_t hh.le.gh hp, rfl, v1, [v2], rfl, ?_⟩
  exact h1 E G H σ Γ v1 a.1 hh q1 _ fun σ1 b1 hh1 => ⟨v2, [], rfl, h2 E G H σ1 _ v2 a.2 hh1 q2 _ fun σ2 b2 hh2 => ⟨rfl, q σ2 (b1.trans b2) hh2⟩⟩

/-! ### what is walked -/
/-- the items that an iterator gives, one behind another, whatever else is done meanwhile -/
def ItOk (J : It) (G0 : Hp) (r : Rp α) (xs : List α) : Prop := ∀ (i : Nat) (G H : Hp), Ex G0 G → Ex G H →
  (∀ a, xs[i]? = some a → J.go i H ∧ ∀ x H', J.yld i H x H' → ∃ G', Le G H G' H' ∧ r.rel G' x a) ∧ (xs.length ≤ i → J.stop i H)
def EvI (X : Cx) (Γ : List Slot) (tg iter : Expr) (r : Rp α) (xs : List α) : Prop := ∃ wi : TI, PI X tg iter wi ∧ ∀ (E : Ent) (G H : Hp) (σ : L2.St), Holds E G H σ Γ → ∀ R : It → Hp → Prop, (∀ J G' H', Le G H G' H' → ItOk J G' r xs → R J H') → wi σ H R
theorem ei_seq {tg : Expr} {xs : List α} (h : Ev X Γ e (rSeq X.K r) xs) : EvI X Γ tg e r xs := ⟨_, pi_list WE.pe, fun E G H σ hh R q => h E G H σ hh _ fun v G1 H1 l1 ⟨p, vs, e1, hp, ha⟩ =>
  ⟨p, e1, ⟨vs, Evl.ex_l l1.gh hp⟩, q _ G1 H1 l1 fun i G2 H2 g1 g2 => ⟨fun a ea => by
    obtain ⟨v, ev, rv⟩ := ha.get ea
    have hp2 := Evl.ex_l (g1.trans g2) hp
    exact ⟨⟨vs, v, hp2, ev⟩, fun x H' y => by
      obtain ⟨e3, y2⟩ := y
      have e4 := y2 vs hp2
      rw [ev] at e4
      cases e4
      rw [e3]
      exact ⟨G2, .refl g2, r.mono g1 rv⟩⟩, fun le => ⟨vs, Evl.ex_l (g1.trans g2) hp, by rw [ha.length]; exact le⟩⟩⟩⟩
theorem Ev.seq {xs : List α} (h : Ev X Γ e (rLst r) xs) : Ev X Γ e (rSeq X.K r) xs := fun E G H σ hh Q q => h E G H σ hh Q fun v G1 H1 l1 ⟨p, vs, e1, hp, ha⟩ => q v G1 H1 l1 ⟨p, vs, e1, .inl (.inl hp), ha⟩
theorem ei_lst {tg : Expr} {xs : List α} (h : Ev X Γ e (rLst r) xs) : EvI X Γ tg e r xs := ei_seq h.seq
/-- range(n) -/
def rangeL (lo : Int) (n : Nat) : List Int := (List.range n).map fun i : Nat => lo + (i : Int)
theorem ei_range1 {tg : Expr} {p : Pos} {n : Int} (h : Ev X Γ e rInt n) (hn : -(2 ^ 62) ≤ n ∧ n < 2 ^ 62) (hm : X.mg "range" = none) (hg : Gl X "range" := by rfl) (hs : starEach [e] X.env = [(false, eval e X.env)] := by rfl) (hs2 : starEach (e :: []) X.env = (false, eval e X.env) :: starEach [] X.env := by rfl) :
    EvI X Γ tg (.Call (.Name "range" p) [e] [] pos) rInt (rangeL 0 n.toNat) := ⟨_, pi_range1 hg hm (pa_cons WE.pe pa_nil hs2) hs, fun E G H σ hh R q => h E G H σ hh _ fun v G1 H1 l1 r1 => by
  refine ⟨n, by rw [show v = _ from r1], hn.1, hn.2, q _ G1 H1 l1 fun i G2 H2 g1 g2 => ⟨fun a ea => ?_, fun le => ?_⟩⟩
  · have lt : i < n.toNat := by
      have z := (List.getElem?_eq_some_iff.mp ea).1
      simpa [rangeL] using z
    refine ⟨lt, fun x H' y => ?_⟩
    obtain ⟨e1, e2⟩ := y
    subst e1
    refine ⟨G2, .refl g2, ?_⟩
    have : a = 0 + (i : Int) := by
      rw [rangeL, List.getElem?_map, List.getElem?_range lt] at ea
      exact (Option.some.inj ea).symm
    rw [e2, this]
    rfl
  · have z : (rangeL 0 n.toNat).length = n.toNat := by simp [rangeL]
    rw [z] at le
    exact le⟩

/-! ### for -/
/-- for: I tells what holds of the data that the turns change, mk the slots -/
theorem bk_for {S : Type} {tg : Expr} {U : α → List Slot → List Slot} {vs : List Nat} {xs : List α} (mk : S → List Slot) (I : Nat → S → Prop) (s0 : S) (hp : PassesOwn (model X.prog X.w) X.A X.env X.xe) (hi : EvI X Γ tg e r xs) (ht : TgOk X tg r U vs)
    (h0 : I 0 s0) (hΓ : ∀ G H σ, Holds E G H σ Γ → Holds E G H σ (mk s0))
    (step : ∀ F i s a, xs[i]? = some a → I i s → Bk X { E with F := F } (U a (mk s)) body { D with nx := fun σ H => ∃ s', I (i + 1) s' ∧ At { E with F := F } (mk s') σ H, ct := fun σ H => ∃ s', I (i + 1) s' ∧ At { E with F := F } (mk s') σ H, bk := fun σ H => WB X rest σ H D })
    (done : ∀ s, I xs.length s → Bk X E (mk s) rest D) (hc : X.calm = true := by rfl) (hs : ∀ x, foldedSetIterable e X.env x = pure x := by intro _; rfl) : Bk X E Γ (.For tg e body [] pos :: rest) D := by
  obtain ⟨wi, pi, hwi⟩ := hi
  refine bk_of (ps_for hp hc pi (WG.pg (tg := tg)) WB.pss hs) fun G H σ hh => hwi E G H σ hh _ fun J G1 H1 l1 it => ?_
  refine ⟨fun i m σ H => m = xs.length - i ∧ i ≤ xs.length ∧ ∃ s G, I i s ∧ Holds { E with F := G1 } G H σ (mk s), ⟨xs.length, by simp, Nat.zero_le _, s0, G1, h0, (hΓ _ _ _ (hh.step l1)).floor (.refl _)⟩, ?_⟩
  rintro i m σ H ⟨rfl, hi, s, G2, hs, hh2⟩
  obtain ⟨go, stop⟩ := it i G2 H hh2.fl hh2.le.gh
  by_cases lt : i < xs.length
  · obtain ⟨g, y⟩ := go xs[i] (by simp [lt])
    refine .inr ⟨g, fun σ' H' => ∃ s', I (i + 1) s' ∧ At { E with F := G1 } (mk s') σ' H', fun σ' H' ⟨s', i', G', h'⟩ => ⟨xs.length - (i + 1), by omega, rfl, lt, s', G', i', h'⟩, fun x H' yy => ?_⟩
    obtain ⟨G3, l3, rx⟩ := y x H' yy
    refine ht { E with F := G1 } G3 H' σ (mk s) x _ (hh2.step l3) rx _ fun σ3 _ hh3 => ?_
    exact step G1 i s xs[i] (by simp [lt]) hs G3 H' σ3 hh3
  · have e : i = xs.length := by omega
    subst e
    exact .inl ⟨stop (Nat.le_refl _), done s hs G2 H σ (hh2.unfloor ((hh.step l1).fl.trans hh2.fl))⟩
/-- the end of a turn -/
theorem bk_next {S : Type} {mk : S → List Slot} {I : Nat → S → Prop} {i : Nat} (s' : S) (hI : I (i + 1) s') (l : (mk s').length = Γ.length) (w : ∀ (i : Nat) (s : Slot), (mk s')[i]? = some s → s = .no ∨ Γ[i]? = some s) {bk ct : L2.St → Hp → Prop} {rt : VK} :
    Bk X E Γ [] { nx := fun σ H => ∃ s', I (i + 1) s' ∧ At E (mk s') σ H, rt := rt, bk := bk, ct := ct } := bk_end fun G H σ hh => ⟨s', hI, G, hh.weak l w⟩
end
end Hf

namespace Hf
open PySem PySem.Spec PyProof.Rows L2

/-! ### what a def promises, by data -/
/-- a def that only reads: ι the data, Pre what is asked of it, args the arguments, the answer told by r -/
def PSp {ι : Type} (Pre : ι → Prop) (args : ι → List Ty) {α : Type} (r : Rp α) (res : ι → α) : Sp := fun vs H Q _ => ∃ (x : ι) (G : Hp), Pre x ∧ Ex G H ∧ Args G vs (args x) ∧ ∀ v G' H', Le G H G' H' → r.rel G' v (res x) → Q v H'
/-- the same, the answer a new object that may change -/
def OSp {ι : Type} (Pre : ι → Prop) (args : ι → List Ty) (c : ι → Oc) : Sp := fun vs H Q _ => ∃ (x : ι) (G : Hp), Pre x ∧ Ex G H ∧ Args G vs (args x) ∧ ∀ p o G' H', H p = none → Le G H G' H' → G' p = none → H' p = some o → (c x).rel G' o → Q (.ref p) H'
theorem args_length {G : Hp} : ∀ {vs : List V} {ts : List Ty}, Args G vs ts → vs.length = ts.length
  | [], [], _ => rfl
  | _ :: _, _ :: _, h => congrArg (· + 1) (args_length h.2)
/-- slots at the entry -/
def slots0 (ts : List Ty) (n : Nat) : List Slot := ts.map (fun t => Slot.sh t.r t.a) ++ List.replicate n .no
theorem args_get {G : Hp} : ∀ {vs : List V} {ts : List Ty} {i : Nat} {t : Ty}, Args G vs ts → ts[i]? = some t → ∃ v, vs[i]? = some v ∧ t.r.rel G v t.a
  | [], [], i, t, _, e => by cases e
  | _ :: _, _ :: _, 0, t, h, e => ⟨_, rfl, by cases e; exact h.1⟩
  | _ :: _, _ :: _, i + 1, t, h, e => args_get (i := i) h.2 e
theorem holds_start {G H : Hp} {N : List Str} {vs : List V} {ts : List Ty} (e : Ex G H) (a : Args G vs ts) (hn : ts.length ≤ N.length) : Holds { G := G, H := H } G H (L2.start N vs) (slots0 ts (N.length - ts.length)) := by
  have hl := args_length a
  refine ⟨.start e, (fun a o q => by cases q), ?_, fun i s q => ?_, fun i j s t q1 q2 w1 w2 => ?_⟩
  · unfold L2.start slots0
    simp only [List.length_append, List.length_map, List.length_replicate]
    omega
  · unfold slots0 at q
    by_cases lt : i < ts.length
    · rw [List.getElem?_append_left (by simpa using lt), List.getElem?_map] at q
      cases w : ts[i]? with
      | none =>
        rw [w] at q
        cases q
      | some t =>
        rw [w] at q
        cases q
        obtain ⟨v, h1, h2⟩ := args_get a w
        refine ⟨v, ?_, h2⟩
        unfold L2.start
        rw [List.getElem?_append_left (by rw [List.length_map, hl]; exact lt), List.getElem?_map, h1]
        rfl
    · rw [List.getElem?_append_right (by simpa using lt)] at q
      have z := List.mem_of_getElem? q
      rw [List.mem_replicate] at z
      rw [z.2]
      trivial
  · have none : ∀ (i : Nat) (s : Slot), (slots0 ts (N.length - ts.length))[i]? = some s → s.isOw = true → False := fun i s q w => by
      have z := List.mem_of_getElem? q
      unfold slots0 at z
      rcases List.mem_append.mp z with z | z
      · obtain ⟨t, _, e⟩ := List.mem_map.mp z
        rw [← e] at w
        cases w
      · rw [List.mem_replicate] at z
        rw [z.2] at w
        cases w
    exact (none i s q1 w1).elim

section
variable {P : Program} {w : World} {K : PySem.W.Frag} {mg : Str → Option Value} {base : Heap} {x qual : Str} {params : Arguments} {body : List Stmt} {scope : Scope} {dvs : List V} {kws : List (Str × V)} {f : Addr} {fd : FuncData}
abbrev CXL (P : Program) (w : World) : CXT := L2.CX P w
/-- a def that only reads keeps its promise -/
theorem fn_pure {N ps : List Str} {k : Nat} {ι : Type} {Pre : ι → Prop} {args : ι → List Ty} {α : Type} {r : Rp α} {res : ι → α} (F : FunD K x qual params body scope dvs kws f fd) (S : FnScope N ps scope) (hl : ∀ y, (args y).length = ps.length)
    (hb : ∀ (y : ι), Pre y → ∀ (cdv : Value) (A : Around) (outer : List Env) (s : Shared) (H : Hp) (E0 : XK) (G : Hp) (D : Ends), Room k (A.deeper (envOfC qual scope s.heap.objs.size f cdv)) → RetOk { G := G, H := H } D r (res y) → (∀ σ G' H', LeE G H (fun _ => False) G' H' → r.rel G' .non (res y) → D.nx σ H') →
      Bk (cxOf (CXL P w) P w K mg base N qual scope f cdv A outer s H E0) { G := G, H := H } (slots0 (args y) (N.length - ps.length)) body D) :
    FnOk P w K mg base (CXL P w) (k + 1) f fd ps (PSp Pre args r res) := by
  refine F.ok S (fun vs H Q E ⟨y, G, _, _, a, _⟩ => by rw [args_length a, hl]) fun cdv A outer s H vs Q E hr ⟨y, G, hp, e, a, hq⟩ => ⟨_, WB.pss, ?_⟩
  have h := holds_start (N := N) e a (by rw [hl]; have z := congrArg List.length S.pre; rw [List.length_take] at z; omega)
  rw [hl] at h
  exact hb y hp cdv A outer s H E G _ hr (fun v G' H' l rv => hq v G' H' (l.le fun _ z => z) rv) (fun σ G' H' l rv => hq _ G' H' (l.le fun _ z => z) rv) G H _ h
theorem fn_own {N ps : List Str} {k : Nat} {ι : Type} {Pre : ι → Prop} {args : ι → List Ty} {c : ι → Oc} (F : FunD K x qual params body scope dvs kws f fd) (S : FnScope N ps scope) (hl : ∀ y, (args y).length = ps.length)
    (hb : ∀ (y : ι), Pre y → ∀ (cdv : Value) (A : Around) (outer : List Env) (s : Shared) (H : Hp) (E0 : XK) (G : Hp) (D : Ends), Room k (A.deeper (envOfC qual scope s.heap.objs.size f cdv)) → RetO { G := G, H := H } D (c y) →
      Bk (cxOf (CXL P w) P w K mg base N qual scope f cdv A outer s H E0) { G := G, H := H } (slots0 (args y) (N.length - ps.length)) body D) :
    FnOk P w K mg base (CXL P w) (k + 1) f fd ps (OSp Pre args c) := by
  refine F.ok S (fun vs H Q E ⟨y, G, _, _, a, _⟩ => by rw [args_length a, hl]) fun cdv A outer s H vs Q E hr ⟨y, G, hp, e, a, hq⟩ => ⟨_, WB.pss, ?_⟩
  have h := holds_start (N := N) e a (by rw [hl]; have z := congrArg List.length S.pre; rw [List.length_take] at z; omega)
  rw [hl] at h
  exact hb y hp cdv A outer s H E G _ hr (fun p o G' H' l g n h1 h2 => hq p o G' H' n (l.le fun _ z => z) g h1 h2) G H _ h
end

/-! ### a def of the module, as callers see it -/
structure Has (P : Program) (w : World) (K : PySem.W.Frag) (mg : Str → Option Value) (base : Heap) (x : Str) (k : Nat) (sp : Sp) : Prop where
  ex : ∃ (f : Addr) (fd : FuncData) (ps : List Str) (spF : Sp) (dvs : List V) (ds : List Value), mg x = some (.ref f) ∧ PySem.W.keepIn K (.ref f) = true ∧ Binds K fd ps ds ∧ Vals dvs ds ∧ FnOk P w K mg base (CXL P w) k f fd ps spF ∧ ∀ vs H Q, sp vs H Q E0 → spF (vs ++ dvs) H Q E0
/-- all parameters written -/
theorem Has.mk0 {P : Program} {w : World} {K : PySem.W.Frag} {mg : Str → Option Value} {base : Heap} {x : Str} {k : Nat} {sp : Sp} {f : Addr} {fd : FuncData} {ps : List Str} (hm : mg x = some (.ref f)) (hk : PySem.W.keepIn K (.ref f) = true) (hb : Binds K fd ps []) (F : FnOk P w K mg base (CXL P w) k f fd ps sp) : Has P w K mg base x k sp :=
  ⟨f, fd, ps, sp, [], [], hm, hk, hb, .nil, F, fun vs H Q h => by rw [List.append_nil]; exact h⟩
section
variable {X : Cx} {Γ : List Slot} {e a : Expr} {es : List Expr} {pos p : Pos} {α ι : Type} {r : Rp α} {k j : Nat} {f : Str} {Pre : ι → Prop} {args : ι → List Ty} {res : ι → α} {c : ι → Oc}
theorem we_call {sp : Sp} {σ : L2.St} {H : Hp} {Q : VK} (h : Has X.prog X.w X.K X.mg X.base f k sp) (hr : Room j X.A) (hk : k ≤ j) (ha : WA X (e :: es) σ H fun vs H1 => sp vs H1 Q E0) (hg : Gl X f := by rfl) (hdb : (f == ("__debug__" : Str)) = false := by decide)
    (he : starEach (e :: es) X.env = (false, eval e X.env) :: starEach es X.env := by rfl) (hpl : (backTo pos (starEach es X.env)).any (·.1) = false := by rfl) : WE X (.Call (.Name f p) (e :: es) [] pos) σ H Q := by
  obtain ⟨f0, fd, ps, spF, dvs, ds, hm, hkp, hb, hd, F, hi⟩ := h.ex
  refine WE.of (pe_call F (hr.mono hk) hg hm hkp hb hd passL WA.pa hdb he hpl) ?_
  exact ⟨fun pos pins s I => thn (ha.run pos pins s I) fun us s1 ⟨vs, H1, I1, r1, q⟩ => ⟨vs, H1, I1, r1, hi vs H1 Q q⟩⟩
theorem we_call0 {sp : Sp} {σ : L2.St} {H : Hp} {Q : VK} (h : Has X.prog X.w X.K X.mg X.base f k sp) (hr : Room j X.A) (hk : k ≤ j) (ha : sp [] H Q E0) (hg : Gl X f := by rfl) (hdb : (f == ("__debug__" : Str)) = false := by decide) : WE X (.Call (.Name f p) [] [] pos) σ H Q := by
  obtain ⟨f0, fd, ps, spF, dvs, ds, hm, hkp, hb, hd, F, hi⟩ := h.ex
  exact WE.of (pe_call0 F (hr.mono hk) hg hm hkp hb hd passL hdb) (hi [] H Q ha)
/-- f(e, ..), a def that only reads -/
theorem ev_call {z : α} (h : Has X.prog X.w X.K X.mg X.base f k (PSp Pre args r res)) (hr : Room j X.A) (hk : k ≤ j) (y : ι) (hp : Pre y) (ha : EvA X Γ (e :: es) (args y)) (hz : res y = z := by rfl) (hg : Gl X f := by rfl) (hdb : (f == ("__debug__" : Str)) = false := by decide)
    (he : starEach (e :: es) X.env = (false, eval e X.env) :: starEach es X.env := by rfl) (hpl : (backTo pos (starEach es X.env)).any (·.1) = false := by rfl) : Ev X Γ (.Call (.Name f p) (e :: es) [] pos) r z := fun E G H σ hh Q q =>
  we_call h hr hk (ha E G H σ hh _ fun vs G1 H1 l1 a1 => ⟨y, G1, hp, l1.gh, a1, fun v G2 H2 l2 r2 => q v G2 H2 (l1.trans l2) (hz ▸ r2)⟩) hg hdb he hpl
theorem ev_call0 {z : α} (h : Has X.prog X.w X.K X.mg X.base f k (PSp Pre args r res)) (hr : Room j X.A) (hk : k ≤ j) (y : ι) (hp : Pre y) (ha : args y = []) (hz : res y = z := by rfl) (hg : Gl X f := by rfl) (hdb : (f == ("__debug__" : Str)) = false := by decide) : Ev X Γ (.Call (.Name f p) [] [] pos) r z := fun E G H σ hh Q q =>
  we_call0 h hr hk ⟨y, G, hp, hh.le.gh, by rw [ha]; trivial, fun v G2 H2 l2 r2 => q v G2 H2 l2 (hz ▸ r2)⟩ hg hdb
theorem eo_call {z : Oc} (h : Has X.prog X.w X.K X.mg X.base f k (OSp Pre args c)) (hr : Room j X.A) (hk : k ≤ j) (y : ι) (hp : Pre y) (ha : EvA X Γ (e :: es) (args y)) (hz : c y = z := by rfl) (hg : Gl X f := by rfl) (hdb : (f == ("__debug__" : Str)) = false := by decide)
    (he : starEach (e :: es) X.env = (false, eval e X.env) :: starEach es X.env := by rfl) (hpl : (backTo pos (starEach es X.env)).any (·.1) = false := by rfl) : EvO X Γ (.Call (.Name f p) (e :: es) [] pos) z := fun E G H σ hh Q q =>
  we_call h hr hk (ha E G H σ hh _ fun vs G1 H1 l1 a1 => ⟨y, G1, hp, l1.gh, a1, fun p o G2 H2 n l2 g h1 h2 => q p o G2 H2 (Evl.fresh_back l1.h n) (l1.trans l2) g h1 (hz ▸ h2)⟩) hg hdb he hpl
theorem eo_call0 {z : Oc} (h : Has X.prog X.w X.K X.mg X.base f k (OSp Pre args c)) (hr : Room j X.A) (hk : k ≤ j) (y : ι) (hp : Pre y) (ha : args y = []) (hz : c y = z := by rfl) (hg : Gl X f := by rfl) (hdb : (f == ("__debug__" : Str)) = false := by decide) : EvO X Γ (.Call (.Name f p) [] [] pos) z := fun E G H σ hh Q q =>
  we_call0 h hr hk ⟨y, G, hp, hh.le.gh, by rw [ha]; trivial, fun p o G2 H2 n l2 g h1 h2 => q p o G2 H2 n l2 g h1 (hz ▸ h2)⟩ hg hdb
end

/-! ### built-ins, displays, subscripts -/
def noSlice : Expr → Bool
  | .Slice .. => false
  | _ => true
theorem plain_of {f : Expr} (h : noSlice f = true) : PlainIx f := fun o i => by
  cases f <;> first | (cases h; done) | (unfold subscripted; rfl)
section
variable {X : Cx} {Γ : List Slot} {e f g : Expr} {es : List Expr} {pos p : Pos} {α β γ : Type} {r : Rp α} {x : α} {s : Rp β} {y : β} {t : Rp γ} {z : γ} {i j : Int} {as bs : List α} {u v : Str}
/-- [e, ..] -/
theorem eo_list {ts : List Ty} (h : EvA X Γ es ts) (hl : ts.length ≤ 100000) (hr : ∀ G vs, Args G vs ts → All2 r G vs as) : EvO X Γ (.List es pos) (oLst r as) := fun E G H σ hh Q q =>
  WE.of (pe_lst WA.pa) (h E G H σ hh _ fun vs G1 H1 l1 a1 => ⟨by rw [args_length a1]; exact Evl.sz_of hl, fun p n => q p _ G1 _ (Evl.fresh_back l1.h n) (l1.addO n) (Evl.fresh_back l1.gh n) upd_same ⟨vs, rfl, hr G1 vs a1⟩⟩)
/-- items of one kind -/
def tys (r : Rp α) (as : List α) : List Ty := as.map fun a => ⟨r, a⟩
theorem args_tys {G : Hp} : ∀ {vs : List V} {as : List α}, Args G vs (tys r as) → All2 r G vs as
  | [], [], _ => .nil
  | _ :: _, _ :: _, h => .cons h.1 (args_tys h.2)
theorem eo_lst (h : EvA X Γ es (tys r as)) (hl : as.length ≤ 100000) : EvO X Γ (.List es pos) (oLst r as) := eo_list h (by simpa [tys] using hl) fun _ _ => args_tys
theorem eo_nil : EvO X Γ (.List [] pos) (oLst r []) := eo_lst ea_nil (Nat.zero_le _)
/-- (a, b) -/
theorem ev_tup2 {n : Nat} (h : EvA X Γ es [⟨r, x⟩, ⟨s, y⟩]) : Ev X Γ (.Tuple es n pos) (rT2 X.K r s) (x, y) := fun E G H σ hh Q q =>
  WE.of (pe_tup WA.pa) (h E G H σ hh _ fun vs G1 H1 l1 a1 => by
    match vs, a1 with
    | [v1, v2], ⟨h1, h2, _⟩ =>
      exact ⟨by show 2 ≤ sizeLine; decide, fun p n => q _ (upd G1 p (.tup [v1, v2])) _ (l1.add n) ⟨p, v1, v2, rfl, .inl (.inl upd_same), r.mono (Evl.Ex.new (Evl.fresh_back l1.gh n)) h1, s.mono (Evl.Ex.new (Evl.fresh_back l1.gh n)) h2⟩⟩)
theorem ev_tup3 {n : Nat} (h : EvA X Γ es [⟨r, x⟩, ⟨s, y⟩, ⟨t, z⟩]) : Ev X Γ (.Tuple es n pos) (rT3 X.K r s t) (x, y, z) := fun E G H σ hh Q q =>
  WE.of (pe_tup WA.pa) (h E G H σ hh _ fun vs G1 H1 l1 a1 => by
    match vs, a1 with
    | [v1, v2, v3], ⟨h1, h2, h3, _⟩ =>
      exact ⟨by show 3 ≤ sizeLine; decide, fun p n => q _ (upd G1 p (.tup [v1, v2, v3])) _ (l1.add n) ⟨p, v1, v2, v3, rfl, .inl (.inl upd_same), r.mono (Evl.Ex.new (Evl.fresh_back l1.gh n)) h1, s.mono (Evl.Ex.new (Evl.fresh_back l1.gh n)) h2, t.mono (Evl.Ex.new (Evl.fresh_back l1.gh n)) h3⟩⟩)
/-- x[0], x[1] of a pair -/
theorem ev_fst {a : α × β} {k : Nat} {p2 : Pos} (h : Ev X Γ e (rT2 X.K r s) a) : Ev X Γ (.Subscript e (.Constant (.int 0) k p2) pos) r a.1 := fun E G H σ hh Q q =>
  WE.of (pe_ix ix_tup WE.pe pe_int (plain_of rfl)) (h E G H σ hh _ fun v G1 H1 l1 ⟨p, v1, v2, e1, hp, h1, h2⟩ => ⟨p, _, 0, v1, e1, rfl, Evl.ex_t l1.gh hp, rfl, q _ G1 H1 l1 h1⟩)
theorem ev_snd {a : α × β} {k : Nat} {p2 : Pos} (h : Ev X Γ e (rT2 X.K r s) a) : Ev X Γ (.Subscript e (.Constant (.int 1) k p2) pos) s a.2 := fun E G H σ hh Q q =>
  WE.of (pe_ix ix_tup WE.pe pe_int (plain_of rfl)) (h E G H σ hh _ fun v G1 H1 l1 ⟨p, v1, v2, e1, hp, h1, h2⟩ => ⟨p, _, 1, v2, e1, rfl, Evl.ex_t l1.gh hp, rfl, q _ G1 H1 l1 h2⟩)
/-- xs[i] -/
theorem ev_ixS {k : Nat} (h : Ev X Γ e (rSeq X.K r) as) (h2 : Ev X Γ f rInt (k : Int)) (hx : as[k]? = some x) (hs : PlainIx f := by exact plain_of rfl) : Ev X Γ (.Subscript e f pos) r x := fun E G H σ hh Q q =>
  WE.of (pe_ix ix_list WE.pe WE.pe hs) (h E G H σ hh _ fun v G1 H1 l1 ⟨p, vs, e1, hp, ha⟩ => h2 E G1 H1 σ (hh.step l1) _ fun w G2 H2 l2 r2 => by
    obtain ⟨a, ea, ra⟩ := ha.get hx
    exact ⟨p, vs, (k : Int), a, e1, r2, Evl.ex_l (l1.gh.trans l2.h) hp, atI_nat ea, q _ G2 H2 (l1.trans l2) (r.mono l2.g ra)⟩)
theorem ev_ix {k : Nat} (h : Ev X Γ e (rLst r) as) (h2 : Ev X Γ f rInt (k : Int)) (hx : as[k]? = some x) (hs : PlainIx f := by exact plain_of rfl) : Ev X Γ (.Subscript e f pos) r x := ev_ixS h.seq h2 hx hs
/-- of a list that may change -/
theorem ev_ixB {k : Nat} (h : EvB X Γ e (oLst r as)) (h2 : Ev X Γ f rInt (k : Int)) (hx : as[k]? = some x) (hs : PlainIx f := by exact plain_of rfl) : Ev X Γ (.Subscript e f pos) r x := fun E G H σ hh Q q =>
  WE.of (pe_ix ix_list WE.pe WE.pe hs) (h E G H σ hh _ fun p o G1 H1 l1 hp ⟨vs, e1, ha⟩ => h2 E G1 H1 σ (hh.step l1) _ fun w G2 H2 l2 r2 => by
    subst e1
    obtain ⟨a, ea, ra⟩ := ha.get hx
    exact ⟨p, vs, (k : Int), a, rfl, r2, .inl (.inl (l2.h _ _ hp)), atI_nat ea, q _ G2 H2 (l1.trans l2) (r.mono l2.g ra)⟩)
/-- len(xs) -/
theorem ev_lenS (h : Ev X Γ e (rSeq X.K r) as) (hm : X.mg "len" = none) (hg : Gl X "len" := by rfl) (he : starEach (e :: []) X.env = (false, eval e X.env) :: starEach [] X.env := by rfl) (hpl : (backTo pos (starEach [] X.env)).any (·.1) = false := by rfl) : Ev X Γ (.Call (.Name "len" p) [e] [] pos) rInt (as.length : Int) := fun E G H σ hh Q q =>
  WE.of (pe_callB call_len_seq hg hm PySem.boot_len (pa_cons WE.pe pa_nil he) (he := he) (hpl := hpl)) (h E G H σ hh _ fun v G1 H1 l1 ⟨p, vs, e1, hp, ha⟩ => ⟨p, vs, by rw [e1], .inl (Evl.ex_l l1.gh hp), by rw [ha.length]; exact q _ G1 H1 l1 rfl⟩)
theorem ev_len (h : Ev X Γ e (rLst r) as) (hm : X.mg "len" = none) (hg : Gl X "len" := by rfl) (he : starEach (e :: []) X.env = (false, eval e X.env) :: starEach [] X.env := by rfl) (hpl : (backTo pos (starEach [] X.env)).any (·.1) = false := by rfl) : Ev X Γ (.Call (.Name "len" p) [e] [] pos) rInt (as.length : Int) := ev_lenS h.seq hm hg he hpl
theorem ev_lenB (h : EvB X Γ e (oLst r as)) (hm : X.mg "len" = none) (hg : Gl X "len" := by rfl) (he : starEach (e :: []) X.env = (false, eval e X.env) :: starEach [] X.env := by rfl) (hpl : (backTo pos (starEach [] X.env)).any (·.1) = false := by rfl) : Ev X Γ (.Call (.Name "len" p) [e] [] pos) rInt (as.length : Int) := fun E G H σ hh Q q =>
  WE.of (pe_callB call_len_seq hg hm PySem.boot_len (pa_cons WE.pe pa_nil he) (he := he) (hpl := hpl)) (h E G H σ hh _ fun p o G1 H1 l1 hp ⟨vs, e1, ha⟩ => by
    subst e1
    exact ⟨p, vs, rfl, .inl (.inl (.inl hp)), by rw [ha.length]; exact q _ G1 H1 l1 rfl⟩)
/-- len of a text -/
theorem ev_lenT (h : Ev X Γ e rStr u) (hl : u.length ≤ sizeLine) (hm : X.mg "len" = none) (hg : Gl X "len" := by rfl) (he : starEach (e :: []) X.env = (false, eval e X.env) :: starEach [] X.env := by rfl) (hpl : (backTo pos (starEach [] X.env)).any (·.1) = false := by rfl) : Ev X Γ (.Call (.Name "len" p) [e] [] pos) rInt (u.length : Int) := fun E G H σ hh Q q =>
  WE.of (pe_callB call_len_str hg hm PySem.boot_len (pa_cons WE.pe pa_nil he) (he := he) (hpl := hpl)) (h E G H σ hh _ fun v G1 H1 l1 e1 => ⟨u, by rw [show v = _ from e1], hl, q _ G1 H1 l1 rfl⟩)
/-- xs + ys -/
theorem eo_cat (h : EvB X Γ e (oLst r as)) (h2 : EvB X Γ f (oLst r bs)) (hl : as.length + bs.length ≤ sizeLine) : EvO X Γ (.BinOp e .Add f pos) (oLst r (as ++ bs)) := fun E G H σ hh Q q =>
  WE.of (pe_op op_cat WE.pe WE.pe) (h E G H σ hh _ fun p o G1 H1 l1 hp ⟨vs, e1, ha⟩ => h2 E G1 H1 σ (hh.step l1) _ fun p2 o2 G2 H2 l2 hp2 ⟨ws, e2, hb⟩ => by
    subst e1 e2
    exact ⟨p, p2, vs, ws, rfl, rfl, l2.h _ _ hp, hp2, by rw [ha.length, hb.length]; exact hl, fun p3 n => q p3 _ G2 _ (Evl.fresh_back (l1.trans l2).h n) ((l1.trans l2).addO n) (Evl.fresh_back l2.gh n) upd_same ⟨vs ++ ws, rfl, (ha.mono l2.g).append hb⟩⟩)
/-- list(xs) -/
theorem eo_listOf (h : EvB X Γ e (oLst r as)) (hm : X.mg "list" = none) (hg : Gl X "list" := by rfl) (he : starEach (e :: []) X.env = (false, eval e X.env) :: starEach [] X.env := by rfl) (hpl : (backTo pos (starEach [] X.env)).any (·.1) = false := by rfl) : EvO X Γ (.Call (.Name "list" p) [e] [] pos) (oLst r as) := fun E G H σ hh Q q =>
  WE.of (pe_callTy call_list_of hg hm (by decide +kernel) (pa_cons WE.pe pa_nil he) (he := he) (hpl := hpl)) (h E G H σ hh _ fun p o G1 H1 l1 hp ⟨vs, e1, ha⟩ => by
    subst e1
    exact ⟨p, vs, rfl, .inl (.inl (.inl hp)), fun p3 n => q p3 _ G1 _ (Evl.fresh_back l1.h n) (l1.addO n) (Evl.fresh_back l1.gh n) upd_same ⟨vs, rfl, ha⟩⟩)
/-- abs(n) -/
theorem ev_abs (h : Ev X Γ e rInt i) (hm : X.mg "abs" = none) (hg : Gl X "abs" := by rfl) (he : starEach (e :: []) X.env = (false, eval e X.env) :: starEach [] X.env := by rfl) (hpl : (backTo pos (starEach [] X.env)).any (·.1) = false := by rfl) : Ev X Γ (.Call (.Name "abs" p) [e] [] pos) rInt (if i < 0 then -i else i) := fun E G H σ hh Q q =>
  WE.of (pe_callB call_abs hg hm (by decide +kernel) (pa_cons WE.pe pa_nil he) (he := he) (hpl := hpl)) (h E G H σ hh _ fun v G1 H1 l1 e1 => ⟨i, by rw [show v = _ from e1], q _ G1 H1 l1 rfl⟩)
/-- max(a, b), min(a, b) -/
theorem ev_max2 (h : EvA X Γ [e, f] [⟨rInt, i⟩, ⟨rInt, j⟩]) (hm : X.mg "max" = none) (hc : X.calm = true := by rfl) (hg : Gl X "max" := by rfl) (he : starEach (e :: [f]) X.env = (false, eval e X.env) :: starEach [f] X.env := by rfl) (hpl : (backTo pos (starEach [f] X.env)).any (·.1) = false := by rfl) : Ev X Γ (.Call (.Name "max" p) [e, f] [] pos) rInt (if j > i then j else i) := fun E G H σ hh Q q =>
  WE.of (pe_callB (call_max2 hc) hg hm (by decide +kernel) WA.pa (he := he) (hpl := hpl)) (h E G H σ hh _ fun vs G1 H1 l1 a1 => by
    match vs, a1 with
    | [v1, v2], ⟨h1, h2, _⟩ => exact ⟨i, j, by rw [show v1 = _ from h1, show v2 = _ from h2], q _ G1 H1 l1 rfl⟩)
theorem ev_min2 (h : EvA X Γ [e, f] [⟨rInt, i⟩, ⟨rInt, j⟩]) (hm : X.mg "min" = none) (hc : X.calm = true := by rfl) (hg : Gl X "min" := by rfl) (he : starEach (e :: [f]) X.env = (false, eval e X.env) :: starEach [f] X.env := by rfl) (hpl : (backTo pos (starEach [f] X.env)).any (·.1) = false := by rfl) : Ev X Γ (.Call (.Name "min" p) [e, f] [] pos) rInt (if j < i then j else i) := fun E G H σ hh Q q =>
  WE.of (pe_callB (call_min2 hc) hg hm (by decide +kernel) WA.pa (he := he) (hpl := hpl)) (h E G H σ hh _ fun vs G1 H1 l1 a1 => by
    match vs, a1 with
    | [v1, v2], ⟨h1, h2, _⟩ => exact ⟨i, j, by rw [show v1 = _ from h1, show v2 = _ from h2], q _ G1 H1 l1 rfl⟩)
/-- sum, all, any of a list -/
theorem ev_sum {ns : List Int} (h : EvB X Γ e (oLst rInt ns)) (hm : X.mg "sum" = none) (hc : X.calm = true := by rfl) (hg : Gl X "sum" := by rfl) (he : starEach (e :: []) X.env = (false, eval e X.env) :: starEach [] X.env := by rfl) (hpl : (backTo pos (starEach [] X.env)).any (·.1) = false := by rfl) : Ev X Γ (.Call (.Name "sum" p) [e] [] pos) rInt ns.sum := fun E G H σ hh Q q =>
  WE.of (pe_callB (cr_sum hc) hg hm (by decide +kernel) (pa_cons WE.pe pa_nil he) (he := he) (hpl := hpl)) (h E G H σ hh _ fun p o G1 H1 l1 hp ⟨vs, e1, ha⟩ => by
    subst e1
    rw [all2_int ha] at hp
    exact ⟨p, ns, rfl, .inl (.inl hp), q _ G1 H1 l1 rfl⟩)
theorem ev_all {ns : List Bool} (h : EvB X Γ e (oLst rBool ns)) (hm : X.mg "all" = none) (hc : X.calm = true := by rfl) (hg : Gl X "all" := by rfl) (he : starEach (e :: []) X.env = (false, eval e X.env) :: starEach [] X.env := by rfl) (hpl : (backTo pos (starEach [] X.env)).any (·.1) = false := by rfl) : Ev X Γ (.Call (.Name "all" p) [e] [] pos) rBool (ns.all id) := fun E G H σ hh Q q =>
  WE.of (pe_callB (cr_all hc) hg hm (by decide +kernel) (pa_cons WE.pe pa_nil he) (he := he) (hpl := hpl)) (h E G H σ hh _ fun p o G1 H1 l1 hp ⟨vs, e1, ha⟩ => by
    subst e1
    rw [all2_bool ha] at hp
    exact ⟨p, ns, rfl, .inl (.inl hp), q _ G1 H1 l1 rfl⟩)
theorem ev_any {ns : List Bool} (h : EvB X Γ e (oLst rBool ns)) (hm : X.mg "any" = none) (hc : X.calm = true := by rfl) (hg : Gl X "any" := by rfl) (he : starEach (e :: []) X.env = (false, eval e X.env) :: starEach [] X.env := by rfl) (hpl : (backTo pos (starEach [] X.env)).any (·.1) = false := by rfl) : Ev X Γ (.Call (.Name "any" p) [e] [] pos) rBool (ns.any id) := fun E G H σ hh Q q =>
  WE.of (pe_callB (cr_any hc) hg hm (by decide +kernel) (pa_cons WE.pe pa_nil he) (he := he) (hpl := hpl)) (h E G H σ hh _ fun p o G1 H1 l1 hp ⟨vs, e1, ha⟩ => by
    subst e1
    rw [all2_bool ha] at hp
    exact ⟨p, ns, rfl, .inl (.inl hp), q _ G1 H1 l1 rfl⟩)
/-- str(n) -/
theorem ev_strI (h : Ev X Γ e rInt i) (hz : i.natAbs.log2 < 1920) (hm : X.mg "str" = none) (hg : Gl X "str" := by rfl) (he : starEach (e :: []) X.env = (false, eval e X.env) :: starEach [] X.env := by rfl) (hpl : (backTo pos (starEach [] X.env)).any (·.1) = false := by rfl) : Ev X Γ (.Call (.Name "str" p) [e] [] pos) rStr (Str.ofString (toString i)) := fun E G H σ hh Q q =>
  WE.of (pe_callTy call_str_int hg hm (by decide +kernel) (pa_cons WE.pe pa_nil he) (he := he) (hpl := hpl)) (h E G H σ hh _ fun v G1 H1 l1 e1 => ⟨i, by rw [show v = _ from e1], hz, q _ G1 H1 l1 rfl⟩)
end

/-! ### statements that change a list of one's own -/
section
variable {X : Cx} {E : Ent} {Γ : List Slot} {D : Ends} {e f g : Expr} {es : List Expr} {rest : List Stmt} {pos p apos cpos : Pos} {α β : Type} {r : Rp α} {x : α} {as bs : List α}
theorem bk_append (i : Nat) {a : Str} {pq : Option Addr} (hg : Γ[i]? = some (.ow (oLst r as) pq)) (he : Ev X Γ e r x) (hl : as.length < sizeLine) (k : Bk X E (Γ.set i (.ow (oLst r (as ++ [x])) pq)) rest D)
    (hpe : PE X (.Call (.Attribute (.Name a p) "append" apos) [e] [] cpos) (tBM X.K "list" rAppend (tVar i) (tCons (WE X e) tNil)) := by exact pe_bm PySem.F.plainAttrs_list PySem.F.slot_list_append PySem.F.type_list_append mt_append (pv _) (pa_cons WE.pe pa_nil))
    (hs : swapsWith (.Call (.Attribute (.Name a p) "append" apos) [e] [] cpos) none pos.line X.env = pure false := by rfl) : Bk X E Γ (.Expr (.Call (.Attribute (.Name a p) "append" apos) [e] [] cpos) pos :: rest) D :=
  bk_of (ps_expr hpe hs) fun G H σ hh => by
    obtain ⟨q, o, h1, h2, h3, h4, vs, h5, h6⟩ := hh.ow hg
    subst h5
    refine ⟨_, h1, .inl ⟨rfl, vs, .inl (.inl h4)⟩, he E G H σ hh _ fun v G1 H1 l1 r1 => ?_⟩
    have hh1 := hh.step l1
    refine ⟨q, vs, v, rfl, rfl, l1.h _ _ h4, by rw [h6.length]; exact hl, ?_⟩
    exact k G1 _ σ (hh1.mut hg h1 ⟨_, rfl, (h6.mono l1.g).append (.one r1)⟩)
end
end Hf

namespace Hf
open PySem PySem.Spec PyProof.Rows L2

/-! ### list comprehensions -/
theorem Le.keepO {G H G' H' : Hp} (l : Le G H G' H') {p : Addr} {o : HO} (h : H p = some o) (g : G p = none) : G' p = none := by
  cases q : G' p with
  | none => rfl
  | some u =>
    have z := l.new p u q g
    rw [h] at z
    cases z
def wipeS (Γ : List Slot) : List Nat → List Slot
  | [] => Γ
  | v :: vs => (wipeS Γ vs).set v .no
theorem Holds.wipe {E : Ent} {G H : Hp} {σ : L2.St} {Γ : List Slot} (h : Holds E G H σ Γ) : ∀ vs : List Nat, Holds E G H (L2.wipe σ vs) (wipeS Γ vs)
  | [] => h
  | v :: vs => (Holds.wipe h vs).set_no
theorem wipe_get {σ : L2.St} {i : Nat} : ∀ vs : List Nat, (L2.wipe σ vs)[i]? = if i ∈ vs ∧ i < σ.length then some none else σ[i]?
  | [] => by simp [L2.wipe]
  | v :: vs => by
    unfold L2.wipe
    by_cases e : v = i
    · subst e
      by_cases lt : v < σ.length
      · rw [List.getElem?_set_self (by rw [wipe_length]; exact lt), if_pos ⟨List.mem_cons_self, lt⟩]
      · rw [if_neg (fun q => lt q.2), List.getElem?_eq_none (by rw [List.length_set, wipe_length]; omega), List.getElem?_eq_none (by omega)]
    · rw [List.getElem?_set_ne e, wipe_get vs]
      have z : i ∈ v :: vs ↔ i ∈ vs := ⟨fun q => (List.mem_cons.mp q).elim (fun w => absurd w.symm e) id, List.mem_cons_of_mem _⟩
      simp only [z]
theorem wipe_same {σ σ' : L2.St} {vs : List Nat} (h : SameBut vs (L2.wipe σ vs) σ') : L2.wipe σ' vs = L2.wipe σ vs := by
  apply List.ext_getElem?
  intro i
  have hl : σ'.length = σ.length := by rw [h.1, wipe_length]
  rw [wipe_get, wipe_get, hl]
  by_cases q : i ∈ vs ∧ i < σ.length
  · rw [if_pos q, if_pos q]
  · rw [if_neg q, if_neg q]
    by_cases m : i ∈ vs
    · have n : ¬ i < σ.length := fun z => q ⟨m, z⟩
      rw [List.getElem?_eq_none (by omega), List.getElem?_eq_none (by omega)]
    · rw [h.2 i m, wipe_get, if_neg q]
def WTs (X : Cx) (cs : List Expr) (σ : L2.St) (H : Hp) (Q : Bool → Hp → Prop) : Prop := ∃ t : TT, PTs X cs t ∧ t σ H Q
theorem PTs.all {X : Cx} {cs : List Expr} : PTs X cs (WTs X cs) := ⟨fun pins s σ H Q I h => by
  obtain ⟨t, p, h⟩ := h
  exact p.run pins s σ H Q I h⟩
/-- the tests of a comprehension -/
def EvTs (X : Cx) (Γ : List Slot) (cs : List Expr) (b : Bool) : Prop := ∀ (E : Ent) (G H : Hp) (σ : L2.St), Holds E G H σ Γ → ∀ Q : Bool → Hp → Prop, (∀ G' H', Le G H G' H' → Q b H') → WTs X cs σ H Q
theorem ets_nil {X : Cx} {Γ : List Slot} : EvTs X Γ [] true := fun E G H σ h Q q => ⟨_, pts_nil, q G H (.refl h.le.gh)⟩
theorem ets_one {X : Cx} {Γ : List Slot} {c : Expr} {b : Bool} (h : EvT X Γ c b) : EvTs X Γ [c] b := fun E G H σ hh Q q => ⟨_, pts_one WT.pt, h E G H σ hh Q q⟩
section
variable {X : Cx} {E : Ent} {Γ : List Slot} {D : Ends} {elt tg iter : Expr} {ifs : List Expr} {scope : Scope} {own : List (Str × Nat)} {pos spos : Pos} {α β : Type} {r : Rp α} {s : Rp β} {U : α → List Slot → List Slot} {xs : List α} {keep : α → Bool} {val : α → β} {rest : List Stmt}
/-- the block of a comprehension -/
abbrev blkX (X : Cx) (scope : Scope) (q : Shared × Hp × Addr × List (Str × Addr) × List Addr) : Cx := X.blk q.1 q.2.1 scope (compEnvC scope q.2.2.2.1 q.2.2.1 X.env) q.2.2.2.2
def gAll (X : Cx) (scope : Scope) (tg : Expr) : TG := fun v σ H Q => ∀ q, WG (blkX X scope q) tg v σ H Q
def tAll (X : Cx) (scope : Scope) (cs : List Expr) : TT := fun σ H Q => ∀ q, WTs (blkX X scope q) cs σ H Q
def eAll (X : Cx) (scope : Scope) (e : Expr) : TE := fun σ H Q => ∀ q, WE (blkX X scope q) e σ H Q
theorem gAll.pg (q : Shared × Hp × Addr × List (Str × Addr) × List Addr) : PG (blkX X scope q) tg (gAll X scope tg) := ⟨fun pins s σ H v u Q I r h => (h q).run pins s u I r⟩
theorem tAll.pts (q : Shared × Hp × Addr × List (Str × Addr) × List Addr) : PTs (blkX X scope q) ifs (tAll X scope ifs) := ⟨fun pins s σ H Q I h => by
  obtain ⟨t, p, h⟩ := h q
  exact p.run pins s σ H Q I h⟩
theorem eAll.pe (q : Shared × Hp × Addr × List (Str × Addr) × List Addr) : PE (blkX X scope q) elt (eAll X scope elt) := ⟨fun pins s σ H Q I h => (h q).run pins s I⟩
theorem tlc_of {wi : TI} (hwi : ∀ (E : Ent) (G H : Hp) (σ : L2.St), Holds E G H σ Γ → ∀ R : It → Hp → Prop, (∀ J G' H', Le G H G' H' → ItOk J G' r xs → R J H') → wi σ H R)
    (ht : ∀ q, TgOk (blkX X scope q) tg r U (own.map (·.2))) (hk : ∀ q, ∀ a ∈ xs, EvTs (blkX X scope q) (U a (wipeS Γ (own.map (·.2)))) ifs (keep a))
    (hv : ∀ q, ∀ a ∈ xs, keep a = true → Ev (blkX X scope q) (U a (wipeS Γ (own.map (·.2)))) elt s (val a)) (hl : xs.length ≤ 100000)
    {G H : Hp} {σ : L2.St} (hh : Holds E G H σ Γ) {Q : VK} (hQ : ∀ p o G' H', H p = none → Le G H G' H' → G' p = none → H' p = some o → (oLst s ((xs.filter keep).map val)).rel G' o → Q (.ref p) H') :
    tLc wi (gAll X scope tg) (tAll X scope ifs) (eAll X scope elt) (own.map (·.2)) σ H Q := by
  refine hwi E G H σ hh _ fun J G1 H1 l1 it D hD => ?_
  have gD : G1 D = none := Evl.fresh_back l1.gh hD
  have hh1 := hh.step l1
  refine ⟨fun i m H2 => m = xs.length - i ∧ i ≤ xs.length ∧ ∃ G2 acc, Le G1 H1 G2 H2 ∧ G2 D = none ∧ H2 D = some (.lst acc) ∧ All2 s G2 acc (((xs.take i).filter keep).map val), ⟨xs.length, by simp, Nat.zero_le _, G1, [], (Le.refl l1.gh).addO hD, gD, upd_same, .nil⟩, ?_⟩
  rintro i m H2 ⟨rfl, hi, G2, acc, l2, g2, h2, a2⟩
  obtain ⟨go, stop⟩ := it i G2 H2 l2.g l2.gh
  by_cases lt : i < xs.length
  · have ex : xs[i]? = some xs[i] := by simp [lt]
    have mem : xs[i] ∈ xs := List.getElem_mem lt
    obtain ⟨g, y⟩ := go xs[i] ex
    have la : acc.length ≤ i := by
      rw [a2.length, List.length_map]
      exact Nat.le_trans (List.length_filter_le _ _) (by rw [List.length_take]; omega)
    have take : xs.take (i + 1) = xs.take i ++ [xs[i]] := by rw [List.take_add_one]; simp [lt]
    refine .inr ⟨g, fun H' => ∃ G' acc, Le G1 H1 G' H' ∧ G' D = none ∧ H' D = some (.lst acc) ∧ All2 s G' acc (((xs.take (i + 1)).filter keep).map val), fun H' ⟨G', acc', l', q1, q2, q3⟩ => ⟨xs.length - (i + 1), by omega, rfl, lt, G', acc', l', q1, q2, q3⟩, fun x H' yy q => ?_⟩
    obtain ⟨G3, l3, rx⟩ := y x H' yy
    have hh3 : Holds E G3 H' σ Γ := (hh1.step l2).step l3
    refine ht q E G3 H' _ _ x _ (hh3.wipe _) rx _ fun σ4 sb hh4 => ⟨wipe_same sb, fun q2 => ?_⟩
    refine hk q2 _ mem E G3 H' σ4 hh4 _ fun G5 H5 l5 => ?_
    have l35 := l3.trans l5
    cases kv : keep xs[i] with
    | false =>
      rw [if_neg Bool.false_ne_true]
      refine ⟨G5, acc, l2.trans l35, l35.keepO h2 g2, l35.h _ _ h2, ?_⟩
      rw [take, List.filter_append, List.filter_cons_of_neg (by simp [kv])]
      simpa using a2.mono l35.g
    | true =>
      rw [if_pos rfl]
      intro q3
      refine hv q3 _ mem kv E G5 H5 σ4 (hh4.step l5) _ fun v G6 H6 l6 r6 => ?_
      have l := l35.trans l6
      refine ⟨acc, l.h _ _ h2, Evl.sz_lt (by omega), G6, acc ++ [v], ?_, l.keepO h2 g2, upd_same, ?_⟩
      · have z := l2.trans l
        refine ⟨z.g, fun a o h => ?_, fun a o h => ?_, z.new⟩
        · rw [upd_ne (ne_of_none h hD)]
          exact z.h a o h
        · have n : a ≠ D := fun e => by
            subst e
            rw [l.keepO h2 g2] at h
            cases h
          rw [upd_ne n]
          exact z.gh a o h
      · rw [take, List.filter_append, List.filter_cons_of_pos kv, List.map_append]
        exact (a2.mono l.g).append (.one r6)
  · have e : i = xs.length := by omega
    subst e
    rw [List.take_length] at a2
    exact .inl ⟨stop (Nat.le_refl _), hQ D _ G2 H2 (Evl.fresh_back l1.h hD) (l1.trans l2) g2 h2 ⟨acc, rfl, a2⟩⟩
theorem eo_lc (own : List (Str × Nat)) (nd : X.N.Nodup) (hi : EvI X Γ tg iter r xs) (ok : BlkOk X.N X.env.scope scope own) (ht : ∀ q, TgOk (blkX X scope q) tg r U (own.map (·.2)))
    (hk : ∀ q, ∀ a ∈ xs, EvTs (blkX X scope q) (U a (wipeS Γ (own.map (·.2)))) ifs (keep a)) (hv : ∀ q, ∀ a ∈ xs, keep a = true → Ev (blkX X scope q) (U a (wipeS Γ (own.map (·.2)))) elt s (val a)) (hl : xs.length ≤ 100000)
    (hc : X.calm = true := by rfl) (hs : ∀ x, foldedSetIterable iter X.env x = pure x := by intro _; rfl) : EvO X Γ (.ListComp elt [⟨tg, iter, ifs, 0⟩] scope pos) (oLst s ((xs.filter keep).map val)) := fun E G H σ hh Q q => by
  obtain ⟨wi, pi, hwi⟩ := hi
  exact WE.of (pe_lc hc nd pi ok (fun s H C cl fp => gAll.pg (s, H, C, cl, fp)) (fun s H C cl fp => tAll.pts (s, H, C, cl, fp)) (fun s H C cl fp => eAll.pe (s, H, C, cl, fp)) hs) (tlc_of hwi ht hk hv hl hh q)
theorem filter_tt {α : Type} (xs : List α) : xs.filter (fun _ => true) = xs := by simp
/-- without a test -/
theorem eo_lcm (own : List (Str × Nat)) (nd : X.N.Nodup) (hi : EvI X Γ tg iter r xs) (ok : BlkOk X.N X.env.scope scope own) (ht : ∀ q, TgOk (blkX X scope q) tg r U (own.map (·.2)))
    (hv : ∀ q, ∀ a ∈ xs, Ev (blkX X scope q) (U a (wipeS Γ (own.map (·.2)))) elt s (val a)) (hl : xs.length ≤ 100000)
    (hc : X.calm = true := by rfl) (hs : ∀ x, foldedSetIterable iter X.env x = pure x := by intro _; rfl) : EvO X Γ (.ListComp elt [⟨tg, iter, [], 0⟩] scope pos) (oLst s (xs.map val)) := by
  have h := eo_lc (pos := pos) (keep := fun _ => true) (val := val) own nd hi ok ht (fun q a m => ets_nil) (fun q a m _ => hv q a m) hl hc hs
  rw [filter_tt] at h
  exact h
/-- x = [..] -/
theorem bk_setLc (i : Nat) {y : Str} {py : Pos} (own : List (Str × Nat)) (nd : X.N.Nodup) (hi : EvI X Γ tg iter r xs) (ok : BlkOk X.N X.env.scope scope own) (ht : ∀ q, TgOk (blkX X scope q) tg r U (own.map (·.2)))
    (hk : ∀ q, ∀ a ∈ xs, EvTs (blkX X scope q) (U a (wipeS Γ (own.map (·.2)))) ifs (keep a)) (hv : ∀ q, ∀ a ∈ xs, keep a = true → Ev (blkX X scope q) (U a (wipeS Γ (own.map (·.2)))) elt s (val a)) (hl : xs.length ≤ 100000)
    (k : Bk X E (Γ.set i (.ow (oLst s ((xs.filter keep).map val)))) rest D) (hy : X.N[i]? = some y := by rfl) (hyl : X.env.scope.names.lookup y = some .local := by rfl)
    (hsw : swapsWith (.ListComp elt [⟨tg, iter, ifs, 0⟩] scope pos) (some (.Name y py)) spos.line X.env = pure true := by exact sw_true rfl rfl rfl (by decide +kernel))
    (hc : X.calm = true := by rfl) (hs : ∀ x, foldedSetIterable iter X.env x = pure x := by intro _; rfl) : Bk X E Γ (.Assign [.Name y py] (.ListComp elt [⟨tg, iter, ifs, 0⟩] scope pos) spos :: rest) D := by
  obtain ⟨wi, pi, hwi⟩ := hi
  refine bk_of (ps_setLc hc nd hy hyl hsw pi ok (fun s H C cl fp => gAll.pg (s, H, C, cl, fp)) (fun s H C cl fp => tAll.pts (s, H, C, cl, fp)) (fun s H C cl fp => eAll.pe (s, H, C, cl, fp)) hs) fun G H σ hh => ?_
  exact tlc_of hwi ht hk hv hl hh fun p o G' H' n l g h1 h2 => k G' H' _ (hh.set_ow l n g h1 h2)
/-- x = [..], never changed behind -/
theorem bk_setLf (i : Nat) {y : Str} {py : Pos} (own : List (Str × Nat)) (nd : X.N.Nodup) (hi : EvI X Γ tg iter r xs) (ok : BlkOk X.N X.env.scope scope own) (ht : ∀ q, TgOk (blkX X scope q) tg r U (own.map (·.2)))
    (hk : ∀ q, ∀ a ∈ xs, EvTs (blkX X scope q) (U a (wipeS Γ (own.map (·.2)))) ifs (keep a)) (hv : ∀ q, ∀ a ∈ xs, keep a = true → Ev (blkX X scope q) (U a (wipeS Γ (own.map (·.2)))) elt s (val a)) (hl : xs.length ≤ 100000)
    (k : Bk X E (Γ.set i (.sh (rLst s) ((xs.filter keep).map val))) rest D) (hy : X.N[i]? = some y := by rfl) (hyl : X.env.scope.names.lookup y = some .local := by rfl)
    (hsw : swapsWith (.ListComp elt [⟨tg, iter, ifs, 0⟩] scope pos) (some (.Name y py)) spos.line X.env = pure true := by exact sw_true rfl rfl rfl (by decide +kernel))
    (hc : X.calm = true := by rfl) (hs : ∀ x, foldedSetIterable iter X.env x = pure x := by intro _; rfl) : Bk X E Γ (.Assign [.Name y py] (.ListComp elt [⟨tg, iter, ifs, 0⟩] scope pos) spos :: rest) D := by
  obtain ⟨wi, pi, hwi⟩ := hi
  refine bk_of (ps_setLc hc nd hy hyl hsw pi ok (fun s H C cl fp => gAll.pg (s, H, C, cl, fp)) (fun s H C cl fp => tAll.pts (s, H, C, cl, fp)) (fun s H C cl fp => eAll.pe (s, H, C, cl, fp)) hs) fun G H σ hh => ?_
  refine tlc_of hwi ht hk hv hl hh fun p o G' H' n l g h1 ⟨vs, e, h2⟩ => ?_
  subst e
  exact k (upd G' p (.lst vs)) H' _ ((hh.step (l.frz h1 n g)).set_sh ⟨p, vs, rfl, upd_same, h2.mono (Evl.Ex.new g)⟩)
end

/-! ### while -/
section
variable {X : Cx} {E : Ent} {Γ : List Slot} {D : Ends} {c : Expr} {rest body : List Stmt} {pos : Pos}
/-- while: I and the measure over the data -/
theorem bk_while {S : Type} (mk : S → List Slot) (I : S → Prop) (μ : S → Nat) (b : S → Bool) (s0 : S) (hp : PassesOwn (model X.prog X.w) X.A X.env X.xe) (h0 : I s0) (hΓ : ∀ G H σ, Holds E G H σ Γ → Holds E G H σ (mk s0)) (hc : ∀ s, I s → EvT X (mk s) c (b s))
    (step : ∀ s, I s → b s = true → Bk X E (mk s) body { D with nx := fun σ H => ∃ s', (I s' ∧ μ s' < μ s) ∧ At E (mk s') σ H, ct := fun σ H => ∃ s', (I s' ∧ μ s' < μ s) ∧ At E (mk s') σ H, bk := fun σ H => WB X rest σ H D })
    (done : ∀ s, I s → b s = false → Bk X E (mk s) rest D) : Bk X E Γ (.While c body [] pos :: rest) D := by
  refine bk_of (ps_while hp WT.pt WB.pss) fun G H σ hh => ?_
  refine ⟨fun m σ H => ∃ s, m = μ s ∧ I s ∧ At E (mk s) σ H, ⟨μ s0, s0, rfl, h0, G, hΓ _ _ _ hh⟩, ?_⟩
  rintro m σ H ⟨s, rfl, hs, G2, hh2⟩
  refine hc s hs E G2 H σ hh2 _ fun G3 H3 l3 => ?_
  cases e : b s with
  | true =>
    rw [if_pos rfl]
    exact ⟨fun σ' H' => ∃ s', (I s' ∧ μ s' < μ s) ∧ At E (mk s') σ' H', fun σ' H' ⟨s', ⟨i', lt⟩, a'⟩ => ⟨μ s', lt, s', rfl, i', a'⟩, step s hs e G3 H3 σ (hh2.step l3)⟩
  | false =>
    rw [if_neg Bool.false_ne_true]
    exact done s hs e G3 H3 σ (hh2.step l3)
theorem bk_wnext {S : Type} {mk : S → List Slot} {J : S → Prop} (s' : S) (hI : J s') (l : (mk s').length = Γ.length) (w : ∀ (i : Nat) (s : Slot), (mk s')[i]? = some s → s = .no ∨ Γ[i]? = some s) {bk ct : L2.St → Hp → Prop} {rt : VK} :
    Bk X E Γ [] { nx := fun σ H => ∃ s', J s' ∧ At E (mk s') σ H, rt := rt, bk := bk, ct := ct } := bk_end fun G H σ hh => ⟨s', hI, G, hh.weak l w⟩
end

/-! ### isinstance -/
section
variable {X : Cx} {Γ : List Slot} {e : Expr} {pos p p2 : Pos} {α : Type} {r : Rp α} {x : α}
/-- the built-in class of whatever r tells -/
def Kind (K : PySem.W.Frag) (r : Rp α) (x : α) (T : String) : Prop := ∀ G v, r.rel G v x → TyX K G v (.type T)
theorem tyX_mono {K : PySem.W.Frag} {G H : Hp} (e : Ex G H) {v : V} {t : Value} (h : TyX K G v t) : TyX K H v t := by
  cases h with
  | base h =>
    refine .base ?_
    cases h with
    | non => exact .non
    | bl b => exact .bl b
    | int i => exact .int i
    | str x => exact .str x
    | flt x => exact .flt x
    | lst h => exact .lst (e _ _ h)
    | frz h => exact .frz (e _ _ h)
    | tup h => exact .tup (e _ _ h)
    | dK h => exact .dK (e _ _ h)
    | dT h => exact .dT (e _ _ h)
    | ins h c a b d f => exact .ins (e _ _ h) c a b d f
  | byt b => exact .byt b
  | set h => exact .set (e _ _ h)
  | kList h c => exact .kList h c
  | kTuple h c => exact .kTuple h c
  | kDict h c => exact .kDict h c
  | fTuple h => exact .fTuple (e _ _ h)
  | fDict h => exact .fDict (e _ _ h)
theorem kind_int {K : PySem.W.Frag} {i : Int} : Kind K rInt i "int" := fun G v h => by cases h; exact .base (.int i)
theorem kind_bool {K : PySem.W.Frag} {i : Bool} : Kind K rBool i "bool" := fun G v h => by cases h; exact .base (.bl i)
theorem kind_str {K : PySem.W.Frag} {i : Str} : Kind K rStr i "str" := fun G v h => by cases h; exact .base (.str i)
theorem kind_lst {K : PySem.W.Frag} {as : List α} : Kind K (rLst r) as "list" := fun G v ⟨p, vs, e, h, _⟩ => by subst e; exact .base (.lst h)
theorem sqT_kind {K : PySem.W.Frag} {G : Hp} {p : Addr} {vs : List V} (h : SqT K G p vs) : TyX K G (.ref p) (.type "tuple") := by
  rcases h with (h | ⟨o, h⟩) | ⟨o, its, n, h, c, _⟩
  · exact .base (.tup h)
  · exact .fTuple h
  · exact .kTuple h c
theorem kind_T2 {K : PySem.W.Frag} {β : Type} {s : Rp β} {a : α × β} : Kind K (rT2 K r s) a "tuple" := fun G v ⟨p, x, y, e, h, _⟩ => by subst e; exact sqT_kind h
theorem kind_T3 {K : PySem.W.Frag} {β γ : Type} {s : Rp β} {t : Rp γ} {a : α × β × γ} : Kind K (rT3 K r s t) a "tuple" := fun G v ⟨p, x, y, z, e, h, _⟩ => by subst e; exact sqT_kind h
theorem ev_isi {T C : String} {c : Str} {b : Bool} (h : Ev X Γ e r x) (kd : Kind X.K r x T) (hk : kitB T C = some b) (hm : X.mg "isinstance" = none) (hmc : X.mg c = none) (hvc : bootBuiltins c = some (.type C)) (hg : Gl X "isinstance" := by rfl) (hgc : Gl X c := by rfl) (hn : c ≠ "__name__" := by decide) (hd : (c == ("__debug__" : Str)) = false := by decide)
    (hs1 : starEach (e :: [.Name c p2]) X.env = (false, eval e X.env) :: starEach [.Name c p2] X.env := by rfl) (hs2 : starEach (.Name c p2 :: []) X.env = (false, eval (.Name c p2) X.env) :: starEach [] X.env := by rfl) (hpl : (backTo pos (starEach [.Name c p2] X.env)).any (·.1) = false := by rfl) :
    Ev X Γ (.Call (.Name "isinstance" p) [e, .Name c p2] [] pos) rBool b := fun E G H σ hh Q q =>
  WE.of (pe_callB call_isi hg hm (by decide +kernel) (pa_cons WE.pe (pa_cons (pe_bltn (v := .ty C) hgc hmc hvc rfl hn hd) pa_nil hs2) hs1) (he := hs1) (hpl := hpl)) (h E G H σ hh _ fun v G1 H1 l1 r1 => ⟨v, .ty C, .type T, .type C, b, rfl, .ty C, tyX_mono l1.gh (kd G1 v r1), kit_ty hk, q _ G1 H1 l1 rfl⟩)
end
end Hf

namespace Hf
open PySem PySem.Spec PyProof.Rows L2

/-! ### data of any form; ω: objects of one's own -/
inductive Dyn (ω : Type) where
  | non | bl (b : Bool) | int (i : Int) | str (s : Str) | lst (xs : List (Dyn ω)) | tup (xs : List (Dyn ω)) | dic (kvs : List (Str × Dyn ω)) | ob (o : ω)
mutual
inductive DynAt {ω : Type} (K : PySem.W.Frag) (ro : Rp ω) (G : Hp) : V → Dyn ω → Prop
  | non : DynAt K ro G .non .non
  | bl (b : Bool) : DynAt K ro G (.bl b) (.bl b)
  | int (i : Int) : DynAt K ro G (.int i) (.int i)
  | str (s : Str) : DynAt K ro G (.str s) (.str s)
  | lst {p : Addr} {vs : List V} {ds : List (Dyn ω)} : G p = some (.lst vs) → DynAll K ro G vs ds → DynAt K ro G (.ref p) (.lst ds)
  | tup {p : Addr} {vs : List V} {ds : List (Dyn ω)} : SqT K G p vs → DynAll K ro G vs ds → DynAt K ro G (.ref p) (.tup ds)
  | dic {p : Addr} {kvs : List (Key × V)} {ds : List (Str × Dyn ω)} : G p = some (.dK kvs) → DynKvs K ro G kvs ds → DynAt K ro G (.ref p) (.dic ds)
  | ob {v : V} {o : ω} : ro.rel G v o → DynAt K ro G v (.ob o)
inductive DynAll {ω : Type} (K : PySem.W.Frag) (ro : Rp ω) (G : Hp) : List V → List (Dyn ω) → Prop
  | nil : DynAll K ro G [] []
  | cons {v : V} {vs : List V} {d : Dyn ω} {ds : List (Dyn ω)} : DynAt K ro G v d → DynAll K ro G vs ds → DynAll K ro G (v :: vs) (d :: ds)
inductive DynKvs {ω : Type} (K : PySem.W.Frag) (ro : Rp ω) (G : Hp) : List (Key × V) → List (Str × Dyn ω) → Prop
  | nil : DynKvs K ro G [] []
  | cons {k : Str} {v : V} {vs : List (Key × V)} {d : Dyn ω} {ds : List (Str × Dyn ω)} : DynAt K ro G v d → DynKvs K ro G vs ds → DynKvs K ro G ((.inr k, v) :: vs) ((k, d) :: ds)
end
section
variable {ω : Type} {K : PySem.W.Frag} {ro : Rp ω} {G G' : Hp}
mutual
theorem DynAt.mono (e : Ex G G') : ∀ (d : Dyn ω) (v : V), DynAt K ro G v d → DynAt K ro G' v d
  | .non, _, h => by cases h; exact .non
  | .bl b, _, h => by cases h; exact .bl b
  | .int b, _, h => by cases h; exact .int b
  | .str b, _, h => by cases h; exact .str b
  | .lst ds, _, h => by
    cases h with
    | lst h1 h2 => exact .lst (e _ _ h1) (DynAll.mono e ds _ h2)
  | .tup ds, _, h => by
    cases h with
    | tup h1 h2 => exact .tup (Evl.ex_t e h1) (DynAll.mono e ds _ h2)
  | .dic ds, _, h => by
    cases h with
    | dic h1 h2 => exact .dic (e _ _ h1) (DynKvs.mono e ds _ h2)
  | .ob o, _, h => by
    cases h with
    | ob h => exact .ob (ro.mono e h)
theorem DynAll.mono (e : Ex G G') : ∀ (ds : List (Dyn ω)) (vs : List V), DynAll K ro G vs ds → DynAll K ro G' vs ds
  | [], _, h => by cases h; exact .nil
  | d :: ds, _, h => by
    cases h with
    | cons h1 h2 => exact .cons (DynAt.mono e d _ h1) (DynAll.mono e ds _ h2)
theorem DynKvs.mono (e : Ex G G') : ∀ (ds : List (Str × Dyn ω)) (vs : List (Key × V)), DynKvs K ro G vs ds → DynKvs K ro G' vs ds
  | [], _, h => by cases h; exact .nil
  | (k, d) :: ds, _, h => by
    cases h with
    | cons h1 h2 => exact .cons (DynAt.mono e d _ h1) (DynKvs.mono e ds _ h2)
end
end
def rDyn {ω : Type} (K : PySem.W.Frag) (ro : Rp ω) : Rp (Dyn ω) := ⟨DynAt K ro, fun {G G' v a} e h => DynAt.mono e a v h⟩
/-- no objects -/
def rOb0 : Rp Empty := ⟨fun _ _ _ => False, fun _ h => h⟩

/-! ### == at any depth -/
/-- data that == reads -/
structure Eqv (K : PySem.W.Frag) {α : Type} (r : Rp α) (x : α) (d : PyData) : Prop where
  dp : ∀ G v, r.rel G v x → Dp K G v d
  sh : SeqAt.shaped d = true
theorem dpSq {K : PySem.W.Frag} {G H : Hp} {p : Addr} {vs : List V} (e : Ex G H) (h : SqL K G p vs) : SqL K H p vs := Evl.ex_l e h
mutual
theorem dp_mono {K : PySem.W.Frag} {G H : Hp} (e : Ex G H) : ∀ (d : PyData) (v : V), Dp K G v d → Dp K H v d
  | .none, _, h => by cases h; exact .non
  | .bool b, _, h => by cases h; exact .bl b
  | .int i, _, h => by cases h; exact .int i
  | .str x, _, h => by cases h; exact .str x
  | .list ds, _, h => by
    cases h with
    | lst h1 h2 => exact .lst (Evl.ex_l e h1) (dpAll_mono e ds _ h2)
  | .tuple ds, _, h => by
    cases h with
    | tup h1 h2 => exact .tup (Evl.ex_t e h1) (dpAll_mono e ds _ h2)
  | .dict _, _, h => by cases h
theorem dpAll_mono {K : PySem.W.Frag} {G H : Hp} (e : Ex G H) : ∀ (d : List PyData) (v : List V), DpAll K G v d → DpAll K H v d
  | [], _, h => by cases h; exact .nil
  | d :: ds, _, h => by
    cases h with
    | cons h1 h2 => exact .cons (dp_mono e d _ h1) (dpAll_mono e ds _ h2)
end
section
variable {X : Cx} {Γ : List Slot} {e f g : Expr} {es : List Expr} {pos p : Pos} {α β γ ω : Type} {r : Rp α} {x : α} {s : Rp β} {y : β} {i j : Int} {u v : Str} {c d : PyData} {k : Nat} {ro : Rp ω} {as bs : List α}
theorem gv_eqD (a : Eqv X.K r x c) (b : Eqv X.K s y d) : Gives (rEqD X.K) r x s y rBool (PyData.eqv c d) := fun G H v w e h1 h2 Q q => ⟨c, d, dp_mono e _ _ (a.dp G v h1), dp_mono e _ _ (b.dp G w h2), a.sh, b.sh, q _ G H (.refl e) rfl⟩
theorem gv_neD (a : Eqv X.K r x c) (b : Eqv X.K s y d) : Gives (rNeD X.K) r x s y rBool (!PyData.eqv c d) := fun G H v w e h1 h2 Q q => ⟨c, d, dp_mono e _ _ (a.dp G v h1), dp_mono e _ _ (b.dp G w h2), a.sh, b.sh, q _ G H (.refl e) rfl⟩
theorem ev_eqD (hr : Room k X.A) (a : Eqv X.K r x c) (b : Eqv X.K s y d) (ha : Ev X Γ e r x) (hb : Ev X Γ f s y) : Ev X Γ (.Compare e [.Eq] [f] pos) rBool (PyData.eqv c d) := ev_cmpR (op_eqD hr.units) ha hb (gv_eqD a b)
theorem ev_neD (hr : Room k X.A) (a : Eqv X.K r x c) (b : Eqv X.K s y d) (ha : Ev X Γ e r x) (hb : Ev X Γ f s y) : Ev X Γ (.Compare e [.NotEq] [f] pos) rBool (!PyData.eqv c d) := ev_cmpR (op_neD hr.units) ha hb (gv_neD a b)
theorem et_eqD (hr : Room k X.A) (a : Eqv X.K r x c) (b : Eqv X.K s y d) (ha : Ev X Γ e r x) (hb : Ev X Γ f s y) : EvT X Γ (.Compare e [.Eq] [f] pos) (PyData.eqv c d) := et_cmpR (op_eqD hr.units) ha hb (gv_eqD a b)
theorem et_neD (hr : Room k X.A) (a : Eqv X.K r x c) (b : Eqv X.K s y d) (ha : Ev X Γ e r x) (hb : Ev X Γ f s y) : EvT X Γ (.Compare e [.NotEq] [f] pos) (!PyData.eqv c d) := et_cmpR (op_neD hr.units) ha hb (gv_neD a b)

/-! ### texts -/
def rMulS : R2 := fun x y H Q => ∃ a n, x = .str a ∧ y = .int n ∧ MulOk a n ∧ Q (.str (Txt.mul a n)) H
theorem op_mulS : OpR X (binaryOp .Mult) rMulS := by
  intro pins s σ H x y v u Q I rx ry h
  obtain ⟨i, j, rfl, rfl, hz, q⟩ := h
  obtain ⟨t, rfl⟩ := rx
  obtain ⟨t', rfl⟩ := ry
  exact SB.mul hz fun t' k => ⟨.str (Txt.mul i j), H, I.tok _, ⟨_, rfl⟩, q⟩
theorem ev_mulS (hc : MulOk u i) (ha : Ev X Γ e rStr u) (hb : Ev X Γ f rInt i) : Ev X Γ (.BinOp e .Mult f pos) rStr (Txt.mul u i) := ev_bin op_mulS ha hb fun G H a b e h1 h2 Q q => ⟨u, i, h1, h2, hc, q _ G H (.refl e) rfl⟩
/-- a method of a text with one argument -/
theorem ev_m1 {id : String} {name : Str} {apos : Pos} {ρ : V → List V → Hp → VK → Prop} (slot : PySem.Slot "str" name id) (ty : typeOf (.builtin id) = pure (.type "method_descriptor")) (rule : MtR X id ρ) (ha : Ev X Γ e rStr u) (hb : Ev X Γ f r x)
    (hs : ∀ (G H : Hp) (b : V), Ex G H → r.rel G b x → ∀ Q : VK, (∀ c G' H', Le G H G' H' → s.rel G' c y → Q c H') → ρ (.str u) [b] H Q)
    (hst : starEach [f] X.env = [(false, eval f X.env)] := by rfl) (hbase : attributeBase e name X.env (eval e X.env) = eval e X.env := by rfl) (hline : (apos.endLine == pos.line) = true := by rfl) : Ev X Γ (.Call (.Attribute e name apos) [f] [] pos) s y := fun E G H σ hh Q q =>
  WE.of (pe_m1 slot ty rule WE.pe WE.pe hst hbase hline) (ha E G H σ hh _ fun v G1 H1 l1 r1 => by
    cases r1
    exact ⟨⟨u, rfl⟩, hb E G1 H1 σ (hh.step l1) _ fun w G2 H2 l2 r2 => hs G2 H2 w l2.gh r2 Q fun c G3 H3 l3 r3 => q c G3 H3 ((l1.trans l2).trans l3) r3⟩)
/-- the same, a new list -/
theorem eo_m1 {id : String} {name : Str} {apos : Pos} {ρ : V → List V → Hp → VK → Prop} {cc : Oc} (slot : PySem.Slot "str" name id) (ty : typeOf (.builtin id) = pure (.type "method_descriptor")) (rule : MtR X id ρ) (ha : Ev X Γ e rStr u) (hb : Ev X Γ f r x)
    (hs : ∀ (G H : Hp) (b : V), Ex G H → r.rel G b x → ∀ Q : VK, (∀ p o H', H p = none → H' = upd H p o → cc.rel G o → Q (.ref p) H') → ρ (.str u) [b] H Q)
    (hst : starEach [f] X.env = [(false, eval f X.env)] := by rfl) (hbase : attributeBase e name X.env (eval e X.env) = eval e X.env := by rfl) (hline : (apos.endLine == pos.line) = true := by rfl) : EvO X Γ (.Call (.Attribute e name apos) [f] [] pos) cc := fun E G H σ hh Q q =>
  WE.of (pe_m1 slot ty rule WE.pe WE.pe hst hbase hline) (ha E G H σ hh _ fun v G1 H1 l1 r1 => by
    cases r1
    refine ⟨⟨u, rfl⟩, hb E G1 H1 σ (hh.step l1) _ fun w G2 H2 l2 r2 => hs G2 H2 w l2.gh r2 Q fun p o H3 n e3 c3 => ?_⟩
    subst e3
    have l := l1.trans l2
    exact q p o G2 _ (Evl.fresh_back l.h n) (l.addO n) (Evl.fresh_back l2.gh n) upd_same c3)
end
end Hf

namespace Hf
open PySem PySem.Spec PyProof.Rows L2
theorem All2.concat {α : Type} {r : Rp α} {G : Hp} {b : α} : ∀ {vs : List V} {l : List α}, All2 r G vs (l ++ [b]) → ∃ ws w, vs = ws ++ [w] ∧ r.rel G w b
  | _, [], .cons h .nil => ⟨[], _, rfl, h⟩
  | _, _ :: l, .cons (v := v) h t => by
    obtain ⟨ws, w, e, k⟩ := All2.concat (l := l) t
    exact ⟨v :: ws, w, by rw [e]; rfl, k⟩
/-- a slice -/
def cutL {α : Type} (xs : List α) (lo hi : Option Int) : List α := (xs.drop (HT.sIx xs.length 0 lo)).take (HT.sIx xs.length xs.length hi - HT.sIx xs.length 0 lo)
theorem All2.cut {α : Type} {r : Rp α} {G : Hp} {vs : List V} {l : List α} (lo hi : Option Int) (h : All2 r G vs l) : All2 r G (cutV vs lo hi) (cutL l lo hi) := by
  unfold cutV cutL
  rw [h.length]
  exact (h.drop _).take _
theorem cutL_from {α : Type} {xs : List α} {i : Int} (h : 0 ≤ i) : cutL xs (some i) none = xs.drop i.toNat := by
  obtain ⟨k, rfl⟩ := Int.eq_ofNat_of_zero_le h
  unfold cutL
  rw [HT.sIx_none, HT.sIx_nat, Int.toNat_natCast]
  by_cases q : k ≤ xs.length
  · rw [Nat.min_eq_left q, List.take_of_length_le (by simp)]
  · rw [Nat.min_eq_right (by omega), List.drop_eq_nil_of_le (Nat.le_refl _), List.drop_eq_nil_of_le (by omega)]
    simp
theorem cutL_to {α : Type} {xs : List α} {i : Int} (h : 0 ≤ i) : cutL xs none (some i) = xs.take i.toNat := by
  obtain ⟨k, rfl⟩ := Int.eq_ofNat_of_zero_le h
  unfold cutL
  rw [HT.sIx_none, HT.sIx_nat, Int.toNat_natCast, List.drop_zero, Nat.sub_zero]
  by_cases q : k ≤ xs.length
  · rw [Nat.min_eq_left q]
  · rw [Nat.min_eq_right (by omega), List.take_of_length_le (Nat.le_refl _), List.take_of_length_le (by omega)]
theorem Holds.forget {E : Ent} {G H : Hp} {σ : L2.St} {Γ : List Slot} (i : Nat) (h : Holds E G H σ Γ) : Holds E G H σ (Γ.set i .no) := h.weak (by rw [List.length_set]) fun j s q => by
  rcases get_set q with ⟨_, e⟩ | ⟨_, e⟩
  · exact .inl e
  · exact .inr e
/-- a list of one's own, frozen where it stands -/
theorem Holds.freeze {E : Ent} {G H : Hp} {σ : L2.St} {Γ : List Slot} {α : Type} {r : Rp α} {as : List α} {i : Nat} (h : Holds E G H σ Γ) (e : Γ[i]? = some (.ow (oLst r as))) : ∃ G', Holds E G' H σ (Γ.set i (.sh (rLst r) as)) := by
  obtain ⟨p, o, h1, h2, h3, h4, vs, h5, h6⟩ := h.ow e
  subst h5
  have hn : E.H p = none := h3
  refine ⟨upd G p (.lst vs), ⟨h.le.g.trans (Evl.Ex.new h2), h.le.h, fun a o q => ?_, fun a o q1 q2 => ?_, h.le.m⟩, h.fl.trans (Evl.Ex.new h2), by rw [List.length_set]; exact h.len, fun j s q => ?_, fun j k s t e1 e2 w1 w2 q => ?_⟩
  · by_cases z : a = p
    · subst z; rw [upd_same] at q; cases q; exact h4
    · rw [upd_ne z] at q; exact h.le.gh a o q
  · by_cases z : a = p
    · subst z; exact hn
    · rw [upd_ne z] at q1; exact h.le.new a o q1 q2
  · rcases get_set q with ⟨rfl, rfl⟩ | ⟨n, q⟩
    · exact ⟨_, h1, p, vs, rfl, upd_same, h6.mono (Evl.Ex.new h2)⟩
    · have w := h.ok j s q
      cases s with
      | no => trivial
      | sh r a =>
        obtain ⟨v, w1, w2⟩ := w
        exact ⟨v, w1, r.mono (Evl.Ex.new h2) w2⟩
      | ow c2 q2 =>
        obtain ⟨p2, o2, w1, w2, w3, w4, w5⟩ := w
        have np : p2 ≠ p := fun z => by
          subst z
          exact n (h.sep i j _ _ e q rfl rfl (by rw [h1, w1]))
        exact ⟨p2, o2, w1, by rw [upd_ne np]; exact w2, w3, w4, c2.mono (Evl.Ex.new h2) w5⟩
  · rcases get_set e1 with ⟨rfl, rfl⟩ | ⟨n1, e1⟩
    · cases w1
    · rcases get_set e2 with ⟨rfl, rfl⟩ | ⟨n2, e2⟩
      · cases w2
      · exact h.sep j k s t e1 e2 w1 w2 q
section
variable {X : Cx} {E : Ent} {Γ : List Slot} {D : Ends} {e f g elt tg iter : Expr} {es : List Expr} {rest : List Stmt} {pos p spos : Pos} {α β γ ω : Type} {r : Rp α} {x : α} {s : Rp β} {y : β} {t : Rp γ} {z : γ} {i j : Int} {u v : Str} {as bs : List α} {ro : Rp ω}
theorem bk_freeze (i : Nat) (hg : Γ[i]? = some (.ow (oLst r as))) (k : Bk X E (Γ.set i (.sh (rLst r) as)) rest D) : Bk X E Γ rest D := fun G H σ hh => by
  obtain ⟨G', h'⟩ := hh.freeze hg
  exact k G' H σ h'
theorem bk_setg (i : Nat) {a : Str} {p : Pos} (nd : X.N.Nodup) (he : Ev X Γ e r x) (k : ∀ y, y = x → Bk X E (Γ.set i (.sh r y)) rest D) (hi : X.N[i]? = some a := by rfl) (hx : Loc X.env.scope a := by first | exact Or.inl rfl | exact Or.inr rfl)
    (hs : swapsWith e (some (.Name a p)) pos.line X.env = pure false := by rfl) (hf : X.fn a = true ∨ X.env.scope.names.lookup a = some .local := by first | exact .inl rfl | exact .inr rfl) : Bk X E Γ (.Assign [.Name a p] e pos :: rest) D := bk_set i nd he (k x rfl) hi hx hs hf
theorem bk_setLm (i : Nat) {y : Str} {py : Pos} {scope : Scope} {U : α → List Slot → List Slot} {val : α → β} (own : List (Str × Nat)) (nd : X.N.Nodup) (hi : EvI X Γ tg iter r as) (ok : BlkOk X.N X.env.scope scope own) (ht : ∀ q, TgOk (blkX X scope q) tg r U (own.map (·.2)))
    (hv : ∀ q, ∀ a ∈ as, Ev (blkX X scope q) (U a (wipeS Γ (own.map (·.2)))) elt s (val a)) (hl : as.length ≤ 100000)
    (k : Bk X E (Γ.set i (.sh (rLst s) (as.map val))) rest D) (hy : X.N[i]? = some y := by rfl) (hyl : X.env.scope.names.lookup y = some .local := by rfl)
    (hsw : swapsWith (.ListComp elt [⟨tg, iter, [], 0⟩] scope pos) (some (.Name y py)) spos.line X.env = pure true := by exact sw_true rfl rfl rfl (by decide +kernel))
    (hc : X.calm = true := by rfl) (hs : ∀ x, foldedSetIterable iter X.env x = pure x := by intro _; rfl) : Bk X E Γ (.Assign [.Name y py] (.ListComp elt [⟨tg, iter, [], 0⟩] scope pos) spos :: rest) D :=
  bk_setLf (keep := fun _ => true) (val := val) i own nd hi ok ht (fun q a m => ets_nil) (fun q a m _ => hv q a m) hl (by rw [filter_tt]; exact k) hy hyl hsw hc hs
theorem RetO.eqO {as' : List α} (h : RetO E D (oLst r as)) (q : as = as') : RetO E D (oLst r as') := q ▸ h
/-- an answer that is told frozen, handed back as it stands -/
theorem RetOk.own (h : RetOk E D (rLst r) as) : RetO E D (oLst r as) := fun p o G H l g n h1 ⟨vs, e, h2⟩ => by
  subst e
  refine h _ (upd G p (.lst vs)) H ⟨l.g.trans (Evl.Ex.new g), l.h, fun a o q => ?_, fun a o q1 q2 => ?_, l.m⟩ ⟨p, vs, rfl, upd_same, h2.mono (Evl.Ex.new g)⟩
  · by_cases z : a = p
    · subst z; rw [upd_same] at q; cases q; exact h1
    · rw [upd_ne z] at q; exact l.gh a o q
  · by_cases z : a = p
    · subst z; exact n
    · rw [upd_ne z] at q1; exact l.new a o q1 q2
/-- xs[i], any int in bounds -/
theorem getD_some {l : List α} {n : Nat} {d : α} (h : n < l.length) : l[n]? = some (l.getD n d) := by
  rw [List.getD_eq_getElem?_getD, List.getElem?_eq_getElem h]
  rfl
theorem ev_atS {d : α} (hb : 0 ≤ i ∧ i < (as.length : Int)) (h : Ev X Γ e (rSeq X.K r) as) (h2 : Ev X Γ f rInt i) (hs : PlainIx f := by exact plain_of rfl) : Ev X Γ (.Subscript e f pos) r (as.getD i.toNat d) :=
  ev_ixS (k := i.toNat) h (h2.eq (by omega)) (getD_some (by omega)) hs
theorem ev_at {d : α} (hb : 0 ≤ i ∧ i < (as.length : Int)) (h : Ev X Γ e (rLst r) as) (h2 : Ev X Γ f rInt i) (hs : PlainIx f := by exact plain_of rfl) : Ev X Γ (.Subscript e f pos) r (as.getD i.toNat d) := ev_atS hb h.seq h2 hs
theorem ev_atB {d : α} (hb : 0 ≤ i ∧ i < (as.length : Int)) (h : EvB X Γ e (oLst r as)) (h2 : Ev X Γ f rInt i) (hs : PlainIx f := by exact plain_of rfl) : Ev X Γ (.Subscript e f pos) r (as.getD i.toNat d) :=
  ev_ixB (k := i.toNat) h (h2.eq (by omega)) (getD_some (by omega)) hs
/-- xs[-1] -/
theorem ev_lastB {d : α} {k : Nat} {p1 p2 : Pos} (h : EvB X Γ e (oLst r as)) (hn : as ≠ []) : Ev X Γ (.Subscript e (.UnaryOp .USub (.Constant (.int 1) k p1) p2) pos) r (as.getLastD d) := fun E G H σ hh Q q =>
  WE.of (pe_ix ix_list WE.pe (pe_un un_neg pe_int) (plain_of rfl)) (h E G H σ hh _ fun p o G1 H1 l1 hp ⟨vs, e1, ha⟩ => by
    subst e1
    refine ⟨1, rfl, ?_⟩
    obtain ⟨l, b, rfl⟩ : ∃ l b, as = l ++ [b] := ⟨as.dropLast, as.getLast hn, (List.dropLast_concat_getLast hn).symm⟩
    have hv := ha.concat
    obtain ⟨ws, w, rfl, rw'⟩ := hv
    exact ⟨p, ws ++ [w], -1, w, rfl, rfl, .inl (.inl hp), atI_last ws w, by
      have z : (l ++ [b]).getLastD d = b := by simp [List.getLastD_eq_getLast?]
      rw [z] at q
      exact q w G1 H1 l1 rw'⟩)
theorem ev_last {d : α} {k : Nat} {p1 p2 : Pos} (h : Ev X Γ e (rLst r) as) (hn : as ≠ []) : Ev X Γ (.Subscript e (.UnaryOp .USub (.Constant (.int 1) k p1) p2) pos) r (as.getLastD d) := ev_lastB h.bor hn
/-- data that == reads -/
theorem eqv_int {K : PySem.W.Frag} : Eqv K rInt i (.int i) := ⟨fun G v h => by cases h; exact .int i, rfl⟩
theorem eqv_bool {K : PySem.W.Frag} {b : Bool} : Eqv K rBool b (.bool b) := ⟨fun G v h => by cases h; exact .bl b, rfl⟩
theorem eqv_str {K : PySem.W.Frag} (h : PyData.strOk u = true) : Eqv K rStr u (.str u) := ⟨fun G v h => by cases h; exact .str u, by simp [SeqAt.shaped, PyData.canLay0, h, PyData.depth]⟩
def pdPair (a : Int × Int) : PyData := .tuple [.int a.1, .int a.2]
theorem eqv_pair {K : PySem.W.Frag} {a : Int × Int} : Eqv K (rT2 K rInt rInt) a (pdPair a) := ⟨fun G v ⟨p, v1, v2, e, h, h1, h2⟩ => by
  cases e; cases h1; cases h2
  exact .tup h (.cons (.int _) (.cons (.int _) .nil)), rfl⟩
theorem pdPair_eqv {a b : Int × Int} : PyData.eqv (pdPair a) (pdPair b) = decide (a = b) := by
  obtain ⟨a1, a2⟩ := a
  obtain ⟨b1, b2⟩ := b
  simp [pdPair, PyData.eqv, PyData.eqvAll]
  by_cases h1 : a1 = b1 <;> by_cases h2 : a2 = b2 <;> simp [h1, h2]
def pdInts (a : List Int) : PyData := .list (a.map .int)
theorem dpAll_ints {K : PySem.W.Frag} {G : Hp} : ∀ {vs : List V} {ns : List Int}, All2 rInt G vs ns → DpAll K G vs (ns.map .int)
  | _, _, .nil => .nil
  | _, _, .cons h t => by cases h; exact .cons (.int _) (dpAll_ints t)
def pdStrs (a : List Str) : PyData := .list (a.map .str)
theorem dpAll_strs {K : PySem.W.Frag} {G : Hp} : ∀ {vs : List V} {ns : List Str}, All2 rStr G vs ns → DpAll K G vs (ns.map .str)
  | _, _, .nil => .nil
  | _, _, .cons h t => by cases h; exact .cons (.str _) (dpAll_strs t)
theorem eqv_strs {K : PySem.W.Frag} {ns : List Str} (hk : ∀ z ∈ ns, PyData.strOk z = true) : Eqv K (rLst rStr) ns (pdStrs ns) := ⟨fun G v ⟨p, vs, e, h, h2⟩ => by
  subst e
  exact .lst (.inl (.inl h)) (dpAll_strs h2), by
  have z : ∀ l : List Str, (∀ z ∈ l, PyData.strOk z = true) → PyData.canLayAll0 (l.map .str) = true := fun l => by
    induction l with
    | nil => intro _; rfl
    | cons a l ih =>
      intro h
      simp [PyData.canLayAll0, PyData.canLay0, ih (fun z m => h z (List.mem_cons_of_mem _ m)), h a List.mem_cons_self]
  have d : ∀ l : List Str, PyData.depthAll (l.map PyData.str) ≤ 1 := fun l => by
    induction l with
    | nil => simp [PyData.depthAll]
    | cons a l ih => simp [PyData.depthAll, PyData.depth]; omega
  unfold SeqAt.shaped pdStrs
  have := d ns
  simp only [PyData.canLay0, z ns hk, PyData.depth, Bool.true_and]
  exact decide_eq_true (by omega)⟩
theorem eqvAll_ints : ∀ {a b : List Int}, PyData.eqvAll (a.map .int) (b.map .int) = decide (a = b)
  | [], [] => rfl
  | [], _ :: _ => rfl
  | _ :: _, [] => rfl
  | x :: a, y :: b => by
    show (PyData.eqv (.int x) (.int y) && PyData.eqvAll (a.map .int) (b.map .int)) = _
    rw [eqvAll_ints]
    simp [PyData.eqv]
    by_cases h1 : x = y <;> by_cases h2 : a = b <;> simp [h1, h2]
theorem eqvAll_strs : ∀ {a b : List Str}, PyData.eqvAll (a.map .str) (b.map .str) = decide (a = b)
  | [], [] => rfl
  | [], _ :: _ => rfl
  | _ :: _, [] => rfl
  | x :: a, y :: b => by
    show (PyData.eqv (.str x) (.str y) && PyData.eqvAll (a.map .str) (b.map .str)) = _
    rw [eqvAll_strs]
    simp [PyData.eqv]
    by_cases h1 : x = y <;> by_cases h2 : a = b <;> simp [h1, h2]
theorem pdInts_eqv {a b : List Int} : PyData.eqv (pdInts a) (pdInts b) = decide (a = b) := by
  unfold pdInts PyData.eqv
  exact eqvAll_ints
theorem pdStrs_eqv {a b : List Str} : PyData.eqv (pdStrs a) (pdStrs b) = decide (a = b) := by
  unfold pdStrs PyData.eqv
  exact eqvAll_strs
/-! methods of texts -/
theorem ev_count {apos : Pos} (ha : Ev X Γ e rStr u) (hb : Ev X Γ f rStr v) (hst : starEach [f] X.env = [(false, eval f X.env)] := by rfl) (hbase : attributeBase e "count" X.env (eval e X.env) = eval e X.env := by rfl) (hline : (apos.endLine == pos.line) = true := by rfl) :
    Ev X Γ (.Call (.Attribute e "count" apos) [f] [] pos) rInt (Txt.count u v) := ev_m1 PySem.F.slot_str_count PySem.F.type_str_count mt_count ha hb (fun G H b ex hb Q q => by
  cases hb
  exact ⟨u, v, rfl, rfl, q _ G H (.refl ex) rfl⟩) hst hbase hline
theorem eo_split {apos : Pos} (hv : (v.length == 0) = false) (hn : u.length + 2 ≤ sizeLine) (ha : Ev X Γ e rStr u) (hb : Ev X Γ f rStr v) (hst : starEach [f] X.env = [(false, eval f X.env)] := by rfl) (hbase : attributeBase e "split" X.env (eval e X.env) = eval e X.env := by rfl) (hline : (apos.endLine == pos.line) = true := by rfl) :
    EvO X Γ (.Call (.Attribute e "split" apos) [f] [] pos) (oLst rStr (Txt.split u v)) := eo_m1 PySem.F.slot_str_split PySem.F.type_str_split mt_split ha hb (fun G H b ex hb Q q => by
  cases hb
  exact ⟨u, v, rfl, rfl, hv, hn, fun p n => q p _ _ n rfl ⟨_, rfl, all2_ofStr _⟩⟩) hst hbase hline
theorem ev_intT (hi : ∃ n, PySem.intText? u = some n) (hl : u.length ≤ 640) (h : Ev X Γ e rStr u) (hm : X.mg "int" = none) (hg : Gl X "int" := by rfl) (he : starEach (e :: []) X.env = (false, eval e X.env) :: starEach [] X.env := by rfl) (hpl : (backTo pos (starEach [] X.env)).any (·.1) = false := by rfl) :
    Ev X Γ (.Call (.Name "int" p) [e] [] pos) rInt ((PySem.intText? u).getD 0) := fun E G H σ hh Q q => by
  obtain ⟨n, hn⟩ := hi
  exact WE.of (pe_callTy call_int_str hg hm (by decide +kernel) (pa_cons WE.pe pa_nil he) (he := he) (hpl := hpl)) (h E G H σ hh _ fun v G1 H1 l1 r1 => ⟨u, n, by rw [show v = _ from r1], hn, hl, q _ G1 H1 l1 (by rw [hn]; rfl)⟩)
/-! slices -/
theorem eo_from {p2 : Pos} (h : EvB X Γ e (oLst r as)) (h2 : Ev X Γ f rInt i) : EvO X Γ (.Subscript e (.Slice (some f) none none p2) pos) (oLst r (cutL as (some i) none)) := fun E G H σ hh Q q =>
  WE.of (pe_slice sl_list WE.pe (po_some WE.pe) po_none) (h E G H σ hh _ fun p o G1 H1 l1 hp ⟨vs, e1, ha⟩ => by
    subst e1
    exact h2 E G1 H1 σ (hh.step l1) _ fun w G2 H2 l2 r2 => ⟨i, r2, p, vs, rfl, .inl (.inl (l2.h _ _ hp)), fun p3 n => q p3 _ G2 _ (Evl.fresh_back (l1.trans l2).h n) ((l1.trans l2).addO n) (Evl.fresh_back l2.gh n) upd_same ⟨_, rfl, (ha.mono l2.g).cut _ _⟩⟩)
theorem eo_to {p2 : Pos} (h : EvB X Γ e (oLst r as)) (h2 : Ev X Γ f rInt i) : EvO X Γ (.Subscript e (.Slice none (some f) none p2) pos) (oLst r (cutL as none (some i))) := fun E G H σ hh Q q =>
  WE.of (pe_slice sl_list WE.pe po_none (po_some WE.pe)) (h E G H σ hh _ fun p o G1 H1 l1 hp ⟨vs, e1, ha⟩ => by
    subst e1
    exact h2 E G1 H1 σ (hh.step l1) _ fun w G2 H2 l2 r2 => ⟨i, r2, p, vs, rfl, .inl (.inl (l2.h _ _ hp)), fun p3 n => q p3 _ G2 _ (Evl.fresh_back (l1.trans l2).h n) ((l1.trans l2).addO n) (Evl.fresh_back l2.gh n) upd_same ⟨_, rfl, (ha.mono l2.g).cut _ _⟩⟩)
theorem eo_fromto {g : Expr} {p2 : Pos} (h : EvB X Γ e (oLst r as)) (h2 : Ev X Γ f rInt i) (h3 : Ev X Γ g rInt j) : EvO X Γ (.Subscript e (.Slice (some f) (some g) none p2) pos) (oLst r (cutL as (some i) (some j))) := fun E G H σ hh Q q =>
  WE.of (pe_slice sl_list WE.pe (po_some WE.pe) (po_some WE.pe)) (h E G H σ hh _ fun p o G1 H1 l1 hp ⟨vs, e1, ha⟩ => by
    subst e1
    exact h2 E G1 H1 σ (hh.step l1) _ fun w G2 H2 l2 r2 => ⟨i, r2, h3 E G2 H2 σ ((hh.step l1).step l2) _ fun w G3 H3 l3 r3 => ⟨j, r3, p, vs, rfl, .inl (.inl ((l2.trans l3).h _ _ hp)), fun p3 n => q p3 _ G3 _ (Evl.fresh_back ((l1.trans l2).trans l3).h n) (((l1.trans l2).trans l3).addO n) (Evl.fresh_back l3.gh n) upd_same ⟨_, rfl, (ha.mono (l2.trans l3).g).cut _ _⟩⟩⟩)
/-- a for over a pair of like things -/
theorem ei_t2 {tg : Expr} {a : α × α} (h : Ev X Γ e (rT2 X.K r r) a) : EvI X Γ tg e r [a.1, a.2] := ⟨_, pi_tup WE.pe, fun E G H σ hh R q => h E G H σ hh _ fun v G1 H1 l1 ⟨p, v1, v2, e1, hp, h1, h2⟩ =>
  ⟨p, e1, ⟨_, Evl.ex_t l1.gh hp⟩, q _ G1 H1 l1 fun i G2 H2 g1 g2 => ⟨fun b eb => by
    have hp2 := Evl.ex_t (g1.trans g2) hp
    have ha : All2 r G1 [v1, v2] [a.1, a.2] := .cons h1 (.cons h2 .nil)
    obtain ⟨v, ev, rv⟩ := ha.get eb
    exact ⟨⟨_, v, hp2, ev⟩, fun x H' y => by
      obtain ⟨e3, y2⟩ := y
      have e4 := y2 _ hp2
      rw [ev] at e4
      cases e4
      rw [e3]
      exact ⟨G2, .refl g2, r.mono g1 rv⟩⟩, fun le => ⟨_, Evl.ex_t (g1.trans g2) hp, by exact le⟩⟩⟩⟩
theorem tg_tup3 {t1 t2 t3 : Expr} {n : Nat} {U : α → List Slot → List Slot} {W : β → List Slot → List Slot} {Z : γ → List Slot → List Slot} {vs ws zs : List Nat} (h1 : TgOk X t1 r U vs) (h2 : TgOk X t2 s W ws) (h3 : TgOk X t3 t Z zs) (hc : X.calm = true := by rfl)
    (hs1 : (assignEach (t1 :: [t2, t3]) X.env).map (·.2) = assign t1 X.env :: (assignEach [t2, t3] X.env).map (·.2) := by rfl) (hs2 : (assignEach (t2 :: [t3]) X.env).map (·.2) = assign t2 X.env :: (assignEach [t3] X.env).map (·.2) := by rfl) (hs3 : (assignEach (t3 :: []) X.env).map (·.2) = assign t3 X.env :: (assignEach [] X.env).map (·.2) := by rfl)
    (hn : (assignEach [t1, t2, t3] X.env).length = 3 := by rfl) (hst : (assignEach [t1, t2, t3] X.env).findIdx? (·.1) = none := by rfl) :
    TgOk X (.Tuple [t1, t2, t3] n pos) (rT3 X.K r s t) (fun a Γ => Z a.2.2 (W a.2.1 (U a.1 Γ))) (vs ++ (ws ++ zs)) := fun E G H σ Γ v a hh hv Q q => by
  obtain ⟨p, v1, v2, v3, e, hp, q1, q2, q3⟩ := hv
  subst e
  refine WG.of (pg_tup hc (pgs_cons (t := WG X t1) WG.pg (pgs_cons (t := WG X t2) WG.pg (pgs_cons (t := WG X t3) WG.pg pgs_nil hs3) hs2) hs1) hn hst) ⟨p, [v1, v2, v3], rfl, Evl.ex_t hh.le.gh hp, rfl, v1, [v2, v3], rfl, ?_⟩
  exact h1 E G H σ Γ v1 a.1 hh q1 _ fun σ1 b1 hh1 => ⟨v2, [v3], rfl, h2 E G H σ1 _ v2 a.2.1 hh1 q2 _ fun σ2 b2 hh2 => ⟨v3, [], rfl, h3 E G H σ2 _ v3 a.2.2 hh2 q3 _ fun σ3 b3 hh3 => ⟨rfl, q σ3 (b1.trans (b2.trans b3)) hh3⟩⟩⟩
theorem ev_t3a {a : α × β × γ} {k : Nat} {p2 : Pos} (h : Ev X Γ e (rT3 X.K r s t) a) : Ev X Γ (.Subscript e (.Constant (.int 0) k p2) pos) r a.1 := fun E G H σ hh Q q =>
  WE.of (pe_ix ix_tup WE.pe pe_int (plain_of rfl)) (h E G H σ hh _ fun v G1 H1 l1 ⟨p, v1, v2, v3, e1, hp, h1, h2, h3⟩ => ⟨p, _, 0, v1, e1, rfl, Evl.ex_t l1.gh hp, rfl, q _ G1 H1 l1 h1⟩)
theorem ev_t3b {a : α × β × γ} {k : Nat} {p2 : Pos} (h : Ev X Γ e (rT3 X.K r s t) a) : Ev X Γ (.Subscript e (.Constant (.int 1) k p2) pos) s a.2.1 := fun E G H σ hh Q q =>
  WE.of (pe_ix ix_tup WE.pe pe_int (plain_of rfl)) (h E G H σ hh _ fun v G1 H1 l1 ⟨p, v1, v2, v3, e1, hp, h1, h2, h3⟩ => ⟨p, _, 1, v2, e1, rfl, Evl.ex_t l1.gh hp, rfl, q _ G1 H1 l1 h2⟩)
theorem ev_t3c {a : α × β × γ} {k : Nat} {p2 : Pos} (h : Ev X Γ e (rT3 X.K r s t) a) : Ev X Γ (.Subscript e (.Constant (.int 2) k p2) pos) t a.2.2 := fun E G H σ hh Q q =>
  WE.of (pe_ix ix_tup WE.pe pe_int (plain_of rfl)) (h E G H σ hh _ fun v G1 H1 l1 ⟨p, v1, v2, v3, e1, hp, h1, h2, h3⟩ => ⟨p, _, 2, v3, e1, rfl, Evl.ex_t l1.gh hp, rfl, q _ G1 H1 l1 h3⟩)
/-! names of the module -/
theorem ev_gint {n : Str} (h : ∃ t, X.mg n = some (.int i t)) (hg : Gl X n := by rfl) (hd : (n == ("__debug__" : Str)) = false := by decide) : Ev X Γ (.Name n pos) rInt i := fun E G H σ hh Q q => by
  obtain ⟨t, h⟩ := h
  exact WE.of (pe_glob (v := .int i) hg h ⟨t, rfl⟩ hd) (q _ G H (.refl hh.le.gh) rfl)
theorem ev_gstr {n : Str} (h : ∃ t, X.mg n = some (.str u t)) (hg : Gl X n := by rfl) (hd : (n == ("__debug__" : Str)) = false := by decide) : Ev X Γ (.Name n pos) rStr u := fun E G H σ hh Q q => by
  obtain ⟨t, h⟩ := h
  exact WE.of (pe_glob (v := .str u) hg h ⟨t, rfl⟩ hd) (q _ G H (.refl hh.le.gh) rfl)
theorem ev_gref {n : Str} {a : Addr} (h : X.mg n = some (.ref a)) (hr : ∀ G, r.rel G (.ref a) x) (hg : Gl X n := by rfl) (hd : (n == ("__debug__" : Str)) = false := by decide) : Ev X Γ (.Name n pos) r x := fun E G H σ hh Q q =>
  WE.of (pe_glob (v := .ref a) hg h rfl hd) (q _ G H (.refl hh.le.gh) (hr G))
/-! data of any form -/
theorem ev_dint (h : Ev X Γ e rInt i) : Ev X Γ e (rDyn X.K ro) (.int i) := fun E G H σ hh Q q => h E G H σ hh Q fun v G1 H1 l1 r1 => q v G1 H1 l1 (by cases r1; exact .int i)
theorem ev_dstr (h : Ev X Γ e rStr u) : Ev X Γ e (rDyn X.K ro) (.str u) := fun E G H σ hh Q q => h E G H σ hh Q fun v G1 H1 l1 r1 => q v G1 H1 l1 (by cases r1; exact .str u)
end
end Hf

namespace Hf
open PySem PySem.Spec PyProof.Rows L2
abbrev FnP (K : PySem.W.Frag) (x : Str) (st : Stmt) (f : Addr) (fd : FuncData) : Prop := FunD K x x (defArgs st) (defBody st) (defScope st) [] [] f fd
/-! sizes of ints -/
def Top (i : Int) : Prop := i.natAbs.log2 < 100000
def Bot (j : Int) : Prop := 0 < j ∧ j.natAbs.log2 < 9000
theorem log2_lt {n k : Nat} (h0 : 0 < k) (h : n < 2 ^ k) : n.log2 < k := PySem.Flt.log2_lt_of h0 h
theorem top_of {i : Int} {k : Nat} (h : i.natAbs < 2 ^ k) (h0 : 0 < k) (hk : k ≤ 100000) : Top i := Nat.lt_of_lt_of_le (log2_lt h0 h) hk
theorem bot_of {i : Int} {k : Nat} (hp : 0 < i) (h : i.natAbs < 2 ^ k) (h0 : 0 < k) (hk : k ≤ 9000) : Bot i := ⟨hp, Nat.lt_of_lt_of_le (log2_lt h0 h) hk⟩
theorem Bot.top {i : Int} (h : Bot i) : Top i := Nat.lt_trans h.2 (by decide)
theorem top1 : Top 1 := by unfold Top; decide
theorem cm {i j : Int} (h : Top i) (k : Top j) : CMulW i j := by unfold CMulW Top at *; omega
theorem Bot.div {i j : Int} (h : Bot j) : CDivW i j := h
theorem log2_mono {m n : Nat} (h : m ≤ n) : m.log2 ≤ n.log2 := by
  by_cases hm : m = 0
  · subst hm; simp
  · exact (Nat.le_log2 (by omega)).mpr (Nat.le_trans ((Nat.le_log2 hm).mp (Nat.le_refl _)) h)
theorem Bot.le {i j : Int} (h : Bot j) (h0 : 0 < i) (h1 : i ≤ j) : Bot i := ⟨h0, Nat.lt_of_le_of_lt (log2_mono (by omega)) h.2⟩
/-! shares -/
def share (t b : Int) : Int × Int := (t / (Int.gcd t b : Int), b / (Int.gcd t b : Int))
def isMore (a b : Int × Int) : Bool := decide (b.1 * a.2 < a.1 * b.2)
theorem gcd_pos_r {t b : Int} (h : 0 < b) : 0 < (Int.gcd t b : Int) := by
  have := Int.gcd_pos_of_ne_zero_right t (b := b) (by omega)
  omega
theorem gcd_le_r {t b : Int} (h : 0 < b) : (Int.gcd t b : Int) ≤ b := Int.le_of_dvd h (Int.gcd_dvd_right ..)
theorem gcd_step {x y : Int} (hx : 0 ≤ x) (hy : 0 ≤ y) : Int.gcd y (x % y) = Int.gcd x y := by
  obtain ⟨m, rfl⟩ := Int.eq_ofNat_of_zero_le hx
  obtain ⟨n, rfl⟩ := Int.eq_ofNat_of_zero_le hy
  show Nat.gcd _ _ = Nat.gcd _ _
  rw [← Int.natCast_emod, Int.natAbs_natCast, Int.natAbs_natCast, Int.natAbs_natCast]
  rw [Nat.gcd_comm, Nat.gcd_comm m n, Nat.gcd_rec n m]
theorem gcd_absif {t b : Int} : (Int.gcd (if t < 0 then -t else t) b) = Int.gcd t b := by
  split
  · simp
  · rfl
/-- an own global that is an object of the written part -/
theorem ev_gref' {X : Cx} {Γ : List Slot} {α : Type} {r : Rp α} {x : α} {pos : Pos} {n : Str} (h : ∃ a, X.mg n = some (.ref a) ∧ ∀ G, r.rel G (.ref a) x) (hg : Gl X n := by rfl) (hd : (n == ("__debug__" : Str)) = false := by decide) : Ev X Γ (.Name n pos) r x := by
  obtain ⟨a, h1, h2⟩ := h
  exact ev_gref h1 h2 hg hd
theorem ev_lenT2 {X : Cx} {Γ : List Slot} {α β : Type} {r : Rp α} {s : Rp β} {a : α × β} {e : Expr} {pos p : Pos} (h : Ev X Γ e (rT2 X.K r s) a) (hm : X.mg "len" = none) (hg : Gl X "len" := by rfl) (he : starEach (e :: []) X.env = (false, eval e X.env) :: starEach [] X.env := by rfl) (hpl : (backTo pos (starEach [] X.env)).any (·.1) = false := by rfl) :
    Ev X Γ (.Call (.Name "len" p) [e] [] pos) rInt 2 := fun E G H σ hh Q q =>
  WE.of (pe_callB call_len_seq hg hm PySem.boot_len (pa_cons WE.pe pa_nil he) (he := he) (hpl := hpl)) (h E G H σ hh _ fun v G1 H1 l1 ⟨p, v1, v2, e1, hp, _, _⟩ => ⟨p, _, by rw [e1], .inr (Evl.ex_t l1.gh hp), q _ G1 H1 l1 rfl⟩)
theorem kind_seq {K : PySem.W.Frag} {α : Type} {r : Rp α} {as : List α} : Kind K (rSeq K r) as "list" := fun G v ⟨p, vs, e, h, _⟩ => by
  subst e
  rcases h with (h | ⟨o, h⟩) | ⟨o, its, n, h, c, _⟩
  · exact .base (.lst h)
  · exact .base (.frz h)
  · exact .kList h c
/-- int(..) // .. of the law's cells -/
def cellAt (script : List Int) (k : Int) : Int :=
  if decide (k < (script.length : Int)) = true then script.getD k.toNat 0
  else if PyData.eqv (pdInts script) (pdInts []) = true then k * 48271
  else (script.getD (k % (script.length : Int)).toNat 0 + k) * 48271 % 2147483647
theorem eqv_seqInts {K : PySem.W.Frag} {ns : List Int} : Eqv K (rSeq K rInt) ns (pdInts ns) := ⟨fun G v ⟨p, vs, e, h, h2⟩ => by
  subst e
  exact .lst h (dpAll_ints h2), by
  have z : ∀ l : List Int, PyData.canLayAll0 (l.map .int) = true := fun l => by
    induction l with
    | nil => rfl
    | cons a l ih => simp [PyData.canLayAll0, PyData.canLay0, ih]
  have d : ∀ l : List Int, PyData.depthAll (l.map PyData.int) ≤ 1 := fun l => by
    induction l with
    | nil => simp [PyData.depthAll]
    | cons a l ih => simp [PyData.depthAll, PyData.depth]; omega
  unfold SeqAt.shaped pdInts
  have := d ns
  simp only [PyData.canLay0, z, PyData.depth, Bool.true_and]
  exact decide_eq_true (by omega)⟩
theorem eqv_ints {K : PySem.W.Frag} {ns : List Int} : Eqv K (rLst rInt) ns (pdInts ns) := ⟨fun G v ⟨p, vs, e, h, h2⟩ => (eqv_seqInts (K := K)).dp G v ⟨p, vs, e, .inl (.inl h), h2⟩, (eqv_seqInts (K := K)).sh⟩
end Hf

namespace Hf
open PySem PySem.Spec PyProof.Rows L2
def isShare (t : Int × Int) : Bool := decide (0 ≤ t.1) && decide (1 ≤ t.2) && decide (share t.1 t.2 = t)
def isNum (i lo hi : Int) : Bool := decide (lo ≤ i) && decide (i ≤ hi)
theorem foldl_next {α β : Type} {xs : List α} {i : Nat} {a : α} {f : β → α → β} {b s : β} (h : xs[i]? = some a) (e : s = (xs.take i).foldl f b) {s' : β} (k : s' = f s a) : s' = (xs.take (i + 1)).foldl f b := by
  rw [List.take_add_one, h, List.foldl_append, ← e, k]
  rfl
/-! one sign many times -/
theorem mul_length {x : Str} {n : Int} (h : 0 ≤ n) (h1 : x.length = 1) : (Txt.mul x n).length = n.toNat := by
  unfold Txt.mul
  by_cases z : n < 1
  · rw [if_pos z]
    have : n = 0 := by omega
    subst this
    rfl
  · rw [if_neg z]
    by_cases e : n = 1
    · subst e
      rw [if_pos (by simp)]
      simpa using h1
    · rw [if_neg (by simp [e, h1])]
      have g : ∀ (k : Nat) (acc : Array Nat), ((List.replicate k x.cps).foldl (· ++ ·) acc).size = acc.size + k := fun k => by
        induction k with
        | zero => intro acc; simp
        | succ k ih =>
          intro acc
          rw [List.replicate_succ, List.foldl_cons, ih, Array.size_append]
          have : x.cps.size = 1 := h1
          omega
      show ((List.replicate n.toNat x.cps).foldl (· ++ ·) #[]).size = n.toNat
      rw [g]
      simp
theorem mulOk_one {x : Str} {n : Int} (h : 0 ≤ n ∧ n ≤ 1000) (h1 : x.length = 1 := by rfl) : MulOk x n := by
  refine ⟨by simp; omega, fun _ _ => ?_, fun _ _ => ?_⟩
  · rw [h1]
    have : (2 ^ 63 - 1 : Int) / n ≥ 1 := by
      have : (2 ^ 63 - 1 : Int) / n ≥ (2 ^ 63 - 1) / 1000 * 1 / 1 := by
        rw [ge_iff_le, Int.le_ediv_iff_mul_le (by omega)]
        omega
      omega
    omega
  · rw [h1]
    unfold Builtin.Str.tooLong
    have : n.toNat ≤ 1000 := by omega
    have z : 1 * n.toNat ≤ sizeLine := Evl.sz_of (by omega)
    simp only [decide_eq_false_iff_not]
    omega
/-! shares of the whole -/
def isPart (thing : Int × Int) : Bool := (isShare thing && !isMore thing (1, 1))
theorem part_facts {t : Int × Int} (h : isPart t = true) : 0 ≤ t.1 ∧ 1 ≤ t.2 ∧ t.1 ≤ t.2 := by
  simp [isPart, isShare, isMore] at h
  omega
theorem part_pos {t : Int × Int} (h : isPart t = true) (hl : t.2.natAbs.log2 < 30) : 0 < t.2 ∧ t.2 < 1073741824 := by
  have := part_facts h
  refine ⟨by omega, ?_⟩
  have : t.2.natAbs < 2 ^ 30 := (Nat.log2_lt (by omega)).mp hl
  omega
def doneOf (s : Int × Int) (many : Int) : Int := s.1 * many / s.2
def barT (s : Int × Int) (many : Int) : Str := Txt.mul "#" (doneOf s many) ++ Txt.mul "." (many - doneOf s many)
theorem done_bounds {t : Int × Int} {m : Int} (h : isPart t = true) (hm : 1 ≤ m) : 0 ≤ doneOf t m ∧ doneOf t m ≤ m := by
  obtain ⟨h0, h1, h2⟩ := part_facts h
  unfold doneOf
  refine ⟨Int.ediv_nonneg (Int.mul_nonneg h0 (by omega)) (by omega), ?_⟩
  have : t.1 * m ≤ m * t.2 := by
    rw [Int.mul_comm m]
    exact Int.mul_le_mul_of_nonneg_right h2 (by omega)
  have := Int.ediv_le_ediv (by omega : 0 < t.2) this
  rw [Int.mul_ediv_cancel _ (by omega)] at this
  exact this
end Hf

namespace Hf
open PySem PySem.Spec PyProof.Rows L2
abbrev FnD (K : PySem.W.Frag) (x : Str) (st : Stmt) (dvs : List V) (f : Addr) (fd : FuncData) : Prop := FunD K x x (defArgs st) (defBody st) (defScope st) dvs [] f fd
theorem cxl_no {P : Program} {w : World} {l : List Env} {H : Hp} {s : Shared} {e : Value} {s' : Shared} (h : L2.CX P w l H s E0 e s') : False := by
  obtain ⟨_, _, _, _, _, _, _, _, _, _, _, _, z⟩ := h
  exact z.elim
theorem fn_quiet {P : Program} {w : World} {K : PySem.W.Frag} {mg : Str → Option Value} {base : Heap} {k : Nat} {f : Addr} {fd : FuncData} {ps : List Str} {sp : Sp} (F : FnOk P w K mg base (CXL P w) k f fd ps sp) (h : ∀ vs H Q E E', sp vs H Q E → sp vs H Q E') : FnOk P w K mg base CX0 k f fd ps sp :=
  ⟨F.len, fun A outer s H args us vs Q E hr he hb hv hs => codeAny_mono (F.run A outer s H args us vs Q E0 hr he hb hv (h _ _ _ _ _ hs)) fun r s' q => by
    cases r with
    | error e => exact (cxl_no q).elim
    | ok fl => cases fl <;> exact q⟩
/-- a def of which the last parameters may be left out -/
theorem Has.mkD {P : Program} {w : World} {K : PySem.W.Frag} {mg : Str → Option Value} {base : Heap} {x : Str} {k : Nat} {sp spF : Sp} {f : Addr} {fd : FuncData} {ps : List Str} {dvs : List V} (hm : mg x = some (.ref f)) (hk : PySem.W.keepIn K (.ref f) = true) (hb : ∃ ds, Vals dvs ds ∧ Binds K fd ps ds) (F : FnOk P w K mg base (CXL P w) k f fd ps spF)
    (h : ∀ vs H Q, sp vs H Q E0 → spF (vs ++ dvs) H Q E0) : Has P w K mg base x k sp := by
  obtain ⟨ds, h1, h2⟩ := hb
  exact ⟨f, fd, ps, spF, dvs, ds, hm, hk, h2, h1, F, h⟩
theorem args_app {G : Hp} {v : V} {t : Ty} (h : t.r.rel G v t.a) : ∀ {vs : List V} {ts : List Ty}, Args G vs ts → Args G (vs ++ [v]) (ts ++ [t])
  | [], [], _ => ⟨h, trivial⟩
  | _ :: _, _ :: _, k => ⟨k.1, args_app h k.2⟩
end Hf

/-! set(list of ints), sorted(set of ints), any number of them -/
namespace Hf
open PySem PySem.Spec PyProof.Rows L2 PySem.W PySem.Calls
/-- the set that is made first -/
abbrev nset (w : World) : Obj := { cls := .type "set", dict := none, data := .set #[] 0 (.fresh 0 0 (!w.params.followText "set-order")) }
section
variable {P : Program} {w : World} {A : Around} {E : Value → Shared → Prop} {s : Shared}
set_option maxHeartbeats 3200000 in
theorem set_of_list {l : Addr} {items : Array Value} (ns : List Int) {Q : Value → Shared → Prop} (nh : A.handled = none) (hl : s.heap.IsList l items) (it : IntsAre items.toList ns) (fit : ns.length + 1 < scanBound)
    (k : ∀ (g : Heap) (tk c : Nat), SetR w g s.heap.objs.size (fun j => decide (j ∈ ns)) c → c ≤ ns.length → (∀ b o, s.heap.get? b = some o → g.get? b = some o) → Q (.ref s.heap.objs.size) { s with heap := g, toks := tk }) :
    wpAny (model P w) A (call (.type "set") [.ref l]) Q E s := by
  have sz : items.size = ns.length := by have q := it.length; rw [Array.length_toList] at q; exact q
  have fs := F.called_set
  obtain ⟨mc, mt, hmro⟩ := fs.mro
  have x1 := fs.made; have x2 := fs.sub; have x3 := fs.notType; have x4 := fs.canCreate
  refine wpAny_call (codeAny_of_tree (wpAny_pure (show _ ∧ _ from ⟨Code.quiet_builtin _ (by decide +kernel), codeAny_builtin F.entry_type_call ?_⟩)))
  rw [Around.under_plain (weight_type_call_type "set" [.ref l] []) rfl]
  have x5 := F.typeCall_set_1 (.ref l)
  repeat (any_goals (first | assumption | wp_step))
  refine codeAny_mono (code_set_led1 (.ref l) (E := E) (Q₁ := fun ob u => ob = .ref s.heap.objs.size ∧ u = { s with heap := s.heap.push (nset w) }) ⟨rfl, rfl⟩) fun r u hr => ?_
  match r, hr with
  | .error e, hr => exact hr
  | .ok (.ret ob), hr =>
    obtain ⟨e1, e2⟩ := hr
    subst e1; subst e2
    have hS : (s.heap.push (nset w)).get? s.heap.objs.size = some (nset w) := Heap.get?_push_size _ rfl
    have hT : Shared.TypeIs { s with heap := s.heap.push (nset w) } (.ref s.heap.objs.size) "set" := ⟨_, hS, rfl⟩
    have x6 := fs.init.lookup; have x7 := fs.init.bind (.ref s.heap.objs.size)
    repeat (any_goals (first | assumption | wp_step))
    refine codeAny_mono (codeAny_call_builtin (R := wants (fun r s₂ => r = .none ∧ ∃ g tk c, s₂ = { s with heap := g, toks := tk } ∧ SetR w g s.heap.objs.size (fun j => decide (j ∈ ns)) c ∧ c ≤ ns.length ∧
        (∀ b o, s.heap.get? b = some o → g.get? b = some o)) E) fs.init.plain F.entry_set_init (check_set_init_1 hT ?_)) fun r₂ s₂ hr₂ => ?_
    · obtain ⟨⟨ocls, odict, odata, oslots⟩, hol, hcl, nl, hdl⟩ := hl
      simp only at hcl hdl
      subst hcl; subst hdl
      have hl1 : (s.heap.push (nset w)).IsList l items := ⟨_, Heap.get?_push_of_some _ hol, rfl, nl, rfl⟩
      have hol' : (s.heap.push (nset w)).get? l = some { cls := .type "list", dict := odict, data := .seq items nl, slots := oslots } := Heap.get?_push_of_some _ hol
      have y1 := F.sub_list_set; have y2 := F.sub_list_frozenset
      have y3 : (Value.type "list" == Value.type "dict") = false := by decide
      unfold Builtin.«set.__init__» noKeywords Builtin.Frozenset.updateFrom
      generalize hPI : pyIter = PI
      wp_walk
      subst hPI
      refine wpAny_pyIter_list hl1 (wpAny_bind (wpAny_runValue ?_))
      have ls : l < s.heap.objs.size := Heap.lt_size hol
      have pz : (s.heap.push (nset w)).objs.size = s.heap.objs.size + 1 := Heap.size_push ..
      have hh3 : A.in1.in1.in1.handled = none := by simp [nh]
      refine set_update_ints ((Walks.list hh3 (s.heap.push (nset w)).objs.size l (by rw [pz]; exact Nat.ne_of_lt (Nat.lt_succ_of_lt ls)) items).toS) s.heap.objs.size
        (by rw [pz]; simp only [List.mem_cons, List.not_mem_nil, or_false, not_or]; exact ⟨Nat.ne_of_lt (Nat.lt_succ_self _), Nat.ne_of_gt ls⟩) ns sz fit (fun i v hv => ?hval) (items.size - 0) 0 _ (by omega) (Nat.zero_le _) ⟨⟨_, Heap.get?_push_size _ rfl, rfl, rfl⟩, hl1.push _⟩ ⟨0, Nat.le_refl 0, setR_new_at (Heap.get?_push_of_some _ hS)⟩ fun s' c' hm hc' hS' => ?_
      case hval =>
        have hi : i < ns.length := by rw [← sz]; exact (Array.getElem?_eq_some_iff.mp hv).1
        obtain ⟨t, e⟩ := it.int_at i v (by rw [Array.getElem?_toList]; exact hv)
        refine ⟨ns[i], t, List.getElem?_eq_getElem hi, ?_⟩
        rw [e, List.getD_eq_getElem?_getD, List.getElem?_eq_getElem hi]; rfl
      obtain ⟨g, g2, d', tk, os'⟩ := s'
      have eg : g2 = s.gens := hm.gens
      have ed : d' = s.drawn := hm.drawn
      have eo : os' = s.os := hm.os
      subst eg; subst ed; subst eo
      rw [sz] at hc'
      refine wpAny_pure (show wpAny _ _ (ret Value.none) _ _ _ from wpAny_pure ⟨rfl, g, tk, c', rfl, hS', hc', fun b o e => ?_⟩)
      have hb0 : b < s.heap.objs.size := Heap.lt_size e
      exact hm.heap b o (by rw [pz]; simp only [List.mem_cons, List.not_mem_nil, or_false, not_or]; exact ⟨Nat.ne_of_lt hb0, Nat.ne_of_lt (Nat.lt_succ_of_lt hb0)⟩) (Heap.get?_push_of_some _ (Heap.get?_push_of_some _ e))
    · match r₂, hr₂ with
      | .error e, hr₂ => exact hr₂
      | .ok (.ret r), hr₂ =>
        obtain ⟨e1, g, tk, c', e2, hS', hc', hk'⟩ := hr₂
        subst e1; subst e2
        repeat (any_goals (first | assumption | wp_step))
        exact k _ _ _ hS' hc' hk'
theorem sorted_of_set {a : Addr} {S : Int → Bool} {n : Nat} {Q : Value → Shared → Prop} (R : SetR w s.heap a S n) (nh : A.handled = none)
    (k : ∀ u p (out : Array Value) (c : Nat) (ns : List Int), (∀ b o, s.heap.get? b = some o → u.heap.get? b = some o) → u.gens = s.gens → u.os = s.os → s.heap.objs.size ≤ p →
      u.heap.get? p = some (seqObj "list" out c) → IntsAre out.toList ns → ns.Pairwise (· < ·) → (∀ k, k ∈ ns ↔ S k = true) → ns.length ≤ scanBound → Q (.ref p) u) :
    wpAny (model P w) A (call (.builtin "sorted") [.ref a]) Q E s := by
  obtain ⟨o, es, ep, t, ho, hex, hd, g, nd, hm, hb, hf, hn, hr, hl⟩ := R
  refine call_function_entry kind_sorted plain_sorted entry_sorted (args_sorted1 _) ?_
  unfold Builtin.«sorted»
  refine wpAny_bind (m := checkCount "sorted" 1 1 _) (wpAny_pure (wpAny_bind (collect_set (A := A.in1) nh ⟨o, ho, hex.1, hd⟩ hf hb hr hl fun u vs k1 hz g1 o1 pm => ?_)))
  have vl : vs.length = es.size := by rw [pm.length_eq, List.length_map, Array.length_toList]
  have hI : IntsAre vs (vs.map Builtin.Re.reRawOf) := ints_of vs fun v hv => by
    obtain ⟨e, he, q⟩ := List.mem_map.mp (pm.mem_iff.mp hv)
    obtain ⟨i, tk, h1, _⟩ := g e he
    exact ⟨i, tk, q.symm.trans h1⟩
  have pk : (vs.map Builtin.Re.reRawOf).Perm (es.toList.map keyOf) := by
    have q := pm.map Builtin.Re.reRawOf
    rwa [List.map_map] at q
  have lim : vs.length ≤ sizeLine := by rw [vl]; exact fits_of_scanBound hb
  have hoL : (u.heap.push (seqObj "list" vs.toArray 0)).get? u.heap.objs.size = some (seqObj "list" vs.toArray 0) := Heap.get?_push_size _ rfl
  refine wpAny_bind (wpAny_newList (wpAny_bind (wpAny_holding (wpAny_call_entry slot_list_sort ⟨_, hoL, rfl⟩ entry_list_sort
    (SrtO.list_sort_ord SrtO.swo_int hoL lim (fun h2 => SrtO.ints_sortable hI h2) fun out h1 h2 => ⟨_, rfl, ?_⟩) (args_list_sort _)))) lim)
  obtain ⟨b1, b2, b3⟩ := SrtO.ints_out hI h1 h2
  obtain ⟨c, hc⟩ := sortedHeap_at (vs := vs) (out := out.toArray) hoL
  have pn := b2.trans pk
  refine wpAny_pure ⟨_, rfl, k _ u.heap.objs.size out.toArray c (out.map SrtO.iv) (fun b v e => ?_) g1 o1 hz hc b1 (lt_of_le_nodup _ b3 (pn.nodup_iff.mpr nd)) (fun i => by rw [pn.mem_iff, ← hm i]) ?_⟩
  · have q := k1 b v e
    have lt := Heap.lt_size q
    show (sortedHeap (u.heap.push (seqObj "list" vs.toArray 0)) u.heap.objs.size vs out.toArray).get? b = some v
    rw [sortedHeap_old (Nat.ne_of_lt lt) (by rw [size_push']; exact Nat.lt_succ_of_lt lt)]
    exact Heap.get?_push_of_some _ q
  · rw [pn.length_eq, List.length_map, Array.length_toList]; omega
end
end Hf

namespace Hf
open PySem PySem.Spec PyProof.Rows L2

/-! ### set, sorted -/
def insU (a : Int) : List Int → List Int
  | [] => [a]
  | b :: l => if a < b then a :: b :: l else if a = b then b :: l else b :: insU a l
def sortU (ns : List Int) : List Int := ns.foldr insU []
theorem insU_mem {a x : Int} : ∀ {l : List Int}, x ∈ insU a l ↔ x = a ∨ x ∈ l
  | [] => by simp [insU]
  | b :: l => by
    unfold insU
    split
    · simp
    · split
      · rename_i h; subst h; simp
      · simp [insU_mem (l := l)]
        grind
theorem insU_lt {a : Int} : ∀ {l : List Int}, l.Pairwise (· < ·) → (insU a l).Pairwise (· < ·)
  | [], _ => by simp [insU]
  | b :: l, h => by
    obtain ⟨h1, h2⟩ := List.pairwise_cons.mp h
    unfold insU
    split
    · rename_i q
      exact List.pairwise_cons.mpr ⟨fun y hy => (List.mem_cons.mp hy).elim (fun e => by omega) (fun e => by have := h1 y e; omega), h⟩
    · split
      · exact h
      · exact List.pairwise_cons.mpr ⟨fun y hy => (insU_mem.mp hy).elim (fun e => by omega) (fun e => h1 y e), insU_lt h2⟩
theorem sortU_mem {x : Int} : ∀ {l : List Int}, x ∈ sortU l ↔ x ∈ l
  | [] => by simp [sortU]
  | b :: l => by
    show x ∈ insU b (sortU l) ↔ _
    rw [insU_mem, sortU_mem (l := l), List.mem_cons]
theorem sortU_lt : ∀ {l : List Int}, (sortU l).Pairwise (· < ·)
  | [] => by simp [sortU]
  | b :: l => insU_lt (sortU_lt (l := l))
theorem strict_ext : ∀ {a b : List Int}, a.Pairwise (· < ·) → b.Pairwise (· < ·) → (∀ x, x ∈ a ↔ x ∈ b) → a = b
  | [], [], _, _, _ => rfl
  | [], b :: _, _, _, h => absurd ((h b).mpr List.mem_cons_self) (by simp)
  | a :: _, [], _, _, h => absurd ((h a).mp List.mem_cons_self) (by simp)
  | a :: l, b :: m, h1, h2, h => by
    obtain ⟨p1, p2⟩ := List.pairwise_cons.mp h1
    obtain ⟨q1, q2⟩ := List.pairwise_cons.mp h2
    have e : a = b := by
      have x := (h a).mp List.mem_cons_self
      have y := (h b).mpr List.mem_cons_self
      rcases List.mem_cons.mp x with x | x
      · exact x
      · rcases List.mem_cons.mp y with y | y
        · exact y.symm
        · have := p1 b y
          have := q1 a x
          omega
    subst e
    rw [strict_ext p2 q2 fun x => ?_]
    have z := h x
    simp only [List.mem_cons] at z
    constructor
    · intro hx
      have := p1 x hx
      rcases z.mp (.inr hx) with y | y
      · omega
      · exact y
    · intro hx
      have := q1 x hx
      rcases z.mpr (.inr hx) with y | y
      · omega
      · exact y
theorem sortU_eq {l : List Int} (h : l.Pairwise (· < ·)) : sortU l = l := strict_ext sortU_lt h fun x => sortU_mem
/-- set(xs), a list of ints -/
def rSetI (K : PySem.W.Frag) (w : World) : List V → Hp → VK → Prop := fun vs H Q => ∃ (a : Addr) (ns : List Int), vs = [V.ref a] ∧ SqL K H a (ns.map V.int) ∧ ns.length + 1 < scanBound ∧ ∀ (p : Addr) (c : Nat), H p = none → Q (.ref p) (upd H p (SetO w p (fun j => decide (j ∈ ns)) c))
def rSortSet (w : World) : List V → Hp → VK → Prop := fun vs H Q => ∃ (a : Addr) (S : Int → Bool) (n : Nat), vs = [V.ref a] ∧ H a = some (SetO w a S n) ∧
  ∀ (ns : List Int) (p : Addr), ns.Pairwise (· < ·) → (∀ k : Int, k ∈ ns ↔ S k = true) → H p = none → Q (.ref p) (upd H p (.lst (ns.map V.int)))
section
variable {X : Cx}
theorem cr_setI (hc : X.calm = true) : CallR X (.type "set") (rSetI X.K X.w) := by
  intro pins s σ H xs us Q I r h
  obtain ⟨l, ns, rfl, hl, fit, q⟩ := h
  rw [Vals.ref1 r]
  obtain ⟨its, rv, pl, hz⟩ := I.list hl
  have hn : H s.heap.objs.size = none := I.hok.fresh (Nat.le_refl _)
  refine set_of_list (P := X.prog) (w := X.w) ns (I.ok.hd hc) pl.isList (by simpa using rv.ints) fit fun g tk c R _ kp => ?_
  exact ⟨.ref s.heap.objs.size, upd H s.heap.objs.size (SetO X.w s.heap.objs.size (fun j => decide (j ∈ ns)) c), I.laid (t' := tk) kp (Nat.le_refl _) (setO_new R), rfl, q _ c hn⟩
theorem cr_sortSet (hc : X.calm = true) : CallR X (.builtin "sorted") (rSortSet X.w) := by
  intro pins s σ H vs us Q I r h
  obtain ⟨a, S, n, rfl, ha, q⟩ := h
  rw [Vals.ref1 r]
  refine sorted_of_set (setO_get I ha) (I.ok.hd hc) fun u p out c ns kp g o hp hg hi hs hm hl => ?_
  have hlen : (ns.map V.int).length ≤ sizeLine := by
    rw [List.length_map, sizeLine_eq]
    have : scanBound = 4096 := rfl
    omega
  have hn : H p = none := I.hok.fresh hp
  have e : u = { s with heap := u.heap, gens := u.gens, drawn := u.drawn, toks := u.toks } := by
    cases u; cases s; cases o; rfl
  rw [e]
  exact ⟨.ref p, upd H p (.lst (ns.map V.int)), I.call (ch := []) (Un.laid kp hp hn) (I.hok.laid kp hp ⟨hlen, out.toList, c, vals_of_ints hi, hg⟩) (by rw [g]; exact I.bare) (fun _ z => nomatch z), rfl, q ns p hs hm hn⟩
end
section
variable {X : Cx} {Γ : List Slot} {α β : Type} {r : Rp α} {s : Rp β} {x : α} {y : β} {e f : Expr} {pos p p2 : Pos} {i j : Int} {as : List α}
theorem eo_sortSet {ns : List Int} {pos2 : Pos} (hl : ns.length + 1 < scanBound) (h : EvB X Γ e (oLst rInt ns)) (hm : X.mg "sorted" = none) (hm2 : X.mg "set" = none) (hc : X.calm = true := by rfl) (hg : Gl X "sorted" := by rfl) (hg2 : Gl X "set" := by rfl) (he : starEach (e :: []) X.env = (false, eval e X.env) :: starEach [] X.env := by rfl) (hpl : (backTo pos2 (starEach [] X.env)).any (·.1) = false := by rfl)
    (he2 : starEach ((.Call (.Name "set" p2) [e] [] pos2) :: []) X.env = (false, eval (.Call (.Name "set" p2) [e] [] pos2) X.env) :: starEach [] X.env := by rfl) (hpl2 : (backTo pos (starEach [] X.env)).any (·.1) = false := by rfl) :
    EvO X Γ (.Call (.Name "sorted" p) [.Call (.Name "set" p2) [e] [] pos2] [] pos) (oLst rInt (sortU ns)) := fun E G H σ hh Q q =>
  WE.of (pe_callB (cr_sortSet hc) hg hm (by decide +kernel) (pa_cons (pe_callTy (cr_setI hc) hg2 hm2 (by decide +kernel) (pa_cons WE.pe pa_nil he) (he := he) (hpl := hpl)) pa_nil he2) (he := he2) (hpl := hpl2)) (h E G H σ hh _ fun p1 o G1 H1 l1 hp ⟨vs, e1, ha⟩ => by
    subst e1
    rw [all2_int ha] at hp
    refine ⟨p1, ns, rfl, .inl (.inl hp), hl, fun p3 c n => ?_⟩
    refine ⟨p3, _, c, rfl, upd_same, fun ms p4 h1 h2 n4 => ?_⟩
    have l2 := l1.addO (o := SetO X.w p3 (fun j => decide (j ∈ ns)) c) n
    have e2 : ms = sortU ns := strict_ext h1 sortU_lt fun x => by rw [h2, sortU_mem]; simp
    exact q p4 _ G1 _ (Evl.fresh_back l2.h n4) (l2.addO n4) (Evl.fresh_back l2.gh n4) upd_same ⟨_, rfl, by rw [e2]; exact all2_ofInt _⟩)
/-! ### shifts, in, is None -/
theorem ev_shl (hc : CPow i j) (ha : Ev X Γ e rInt i) (hb : Ev X Γ f rInt j) : Ev X Γ (.BinOp e .LShift f pos) rInt (i * 2 ^ j.toNat) := ev_bin op_shl ha hb (gv_I hc fun _ => rfl)
theorem ev_shr (hc : 0 ≤ j) (ha : Ev X Γ e rInt i) (hb : Ev X Γ f rInt j) : Ev X Γ (.BinOp e .RShift f pos) rInt (i / 2 ^ j.toNat) := ev_bin op_shr ha hb (gv_I hc fun _ => rfl)
theorem ev_and1 (ha : Ev X Γ e rInt i) (hb : Ev X Γ f rInt 1) : Ev X Γ (.BinOp e .BitAnd f pos) rInt (i % 2) := ev_bin op_andM ha hb fun G H a b e h1 h2 Q q => ⟨i, 1, h1, h2, q _ G H (.refl e) rfl⟩
theorem inV_int {i : Int} : ∀ {ns : List Int}, inV (.int i) (ns.map V.int) = decide (i ∈ ns)
  | [] => rfl
  | n :: ns => by
    show (eqV (.int n) (.int i) || inV (.int i) (ns.map V.int)) = _
    rw [inV_int]
    by_cases h : n = i
    · subst h; simp [eqV]
    · have h' : ¬ i = n := fun z => h z.symm
      simp [eqV, h, h']
theorem flat_ints {ns : List Int} : (ns.map V.int).all flatV = true := by simp [List.all_map, flatV]
theorem gv_inI {ns : List Int} : Gives (rIn X.K false) rInt i (rLst rInt) ns rBool (decide (i ∈ ns)) := fun G H a b e h1 ⟨p, vs, e2, hp, ha⟩ Q q => by
  cases h1
  rw [all2_int ha] at hp
  exact ⟨p, _, e2, .inl (.inl (.inl (e _ _ hp))), rfl, flat_ints, by rw [inV_int]; exact q _ G H (.refl e) rfl⟩
theorem ev_inI {ns : List Int} (ha : Ev X Γ e rInt i) (hb : Ev X Γ f (rLst rInt) ns) (hm : behindInMarks .In f = false := by rfl) : Ev X Γ (.Compare e [.In] [f] pos) rBool (decide (i ∈ ns)) := ev_cmpR op_in_seq ha hb gv_inI hm
theorem et_inI {ns : List Int} (ha : Ev X Γ e rInt i) (hb : Ev X Γ f (rLst rInt) ns) (hm : behindInMarks .In f = false := by rfl) : EvT X Γ (.Compare e [.In] [f] pos) (decide (i ∈ ns)) := et_cmpR op_in_seq ha hb gv_inI hm
structure NN {α : Type} (r : Rp α) : Prop where
  nn : ∀ G v a, r.rel G v a → v ≠ .non
theorem nn_int : NN rInt := ⟨fun G v a h => by cases h; simp⟩
theorem nn_str : NN rStr := ⟨fun G v a h => by cases h; simp⟩
theorem nn_bool : NN rBool := ⟨fun G v a h => by cases h; simp⟩
theorem nn_lst : NN (rLst r) := ⟨fun G v a ⟨p, vs, e, _⟩ => by rw [e]; simp⟩
theorem nn_T2 {K : PySem.W.Frag} : NN (rT2 K r s) := ⟨fun G v a ⟨p, v1, v2, e, _⟩ => by rw [e]; simp⟩
theorem gv_isN {o : Option α} (n : NN r) : Gives (fun a b H Q => b = V.non ∧ Q (.bl (decide (a = V.non))) H) (rOpt r) o rNon () rBool o.isNone := fun G H a b e h1 h2 Q q => by
  refine ⟨h2, ?_⟩
  cases o with
  | none =>
    have z : a = .non := h1
    subst z
    exact q _ G H (.refl e) rfl
  | some v =>
    rw [decide_eq_false (n.nn G a v h1)]
    exact q _ G H (.refl e) rfl
theorem ev_isN {o : Option α} (n : NN r) (ha : Ev X Γ e (rOpt r) o) (hb : Ev X Γ f rNon ()) : Ev X Γ (.Compare e [.Is] [f] pos) rBool o.isNone := ev_cmpR op_isN ha hb (gv_isN n)
theorem et_isN {o : Option α} (n : NN r) (ha : Ev X Γ e (rOpt r) o) (hb : Ev X Γ f rNon ()) : EvT X Γ (.Compare e [.Is] [f] pos) o.isNone := et_cmpR op_isN ha hb (gv_isN n)
theorem ev_unopt {o : Option α} {d : α} (h : o.isNone = false) (ha : Ev X Γ e (rOpt r) o) : Ev X Γ e r (o.getD d) := fun E G H σ hh Q q => ha E G H σ hh Q fun v G1 H1 l1 r1 => by
  cases o with
  | none => simp at h
  | some a => exact q v G1 H1 l1 r1
/-! ### enumerate, range(a, b) -/
def enumL (as : List α) : List (Int × α) := as.zipIdx.map fun q => ((q.2 : Int), q.1)
theorem enumL_get {i : Nat} : (enumL as)[i]? = as[i]?.map fun a => ((i : Int), a) := by
  unfold enumL
  rw [List.getElem?_map, List.getElem?_zipIdx]
  cases as[i]? <;> simp
theorem enumL_length : (enumL as).length = as.length := by simp [enumL]
theorem ei_enum {elts : List Expr} {kk : Nat} {tpos : Pos} (h : Ev X Γ e (rLst r) as) (hm : X.mg "enumerate" = none) (hg : Gl X "enumerate" := by rfl) (hs : starEach [e] X.env = [(false, eval e X.env)] := by rfl) (hs2 : starEach (e :: []) X.env = (false, eval e X.env) :: starEach [] X.env := by rfl) :
    EvI X Γ (.Tuple elts kk tpos) (.Call (.Name "enumerate" p) [e] [] pos) (rT2 X.K rInt r) (enumL as) := ⟨_, pi_enum hg hm (pa_cons WE.pe pa_nil hs2) hs, fun E G H σ hh R q => h E G H σ hh _ fun v G1 H1 l1 ⟨p, vs, e1, hp, ha⟩ => by
  refine ⟨p, vs, by rw [e1], .inl (.inl (l1.gh _ _ hp)), q _ G1 H1 l1 fun i G2 H2 g1 g2 => ⟨fun a ea => ?_, fun le => ⟨vs, .inl (.inl (g2 _ _ (g1 _ _ hp))), by rw [ha.length]; rw [enumL_length] at le; exact le⟩⟩⟩
  rw [enumL_get] at ea
  cases hb : as[i]? with
  | none => rw [hb] at ea; cases ea
  | some b =>
    rw [hb] at ea
    cases ea
    obtain ⟨u, eu, ru⟩ := ha.get hb
    have hq : SqL X.K H2 p vs := .inl (.inl (g2 _ _ (g1 _ _ hp)))
    refine ⟨⟨vs, u, hq, eu⟩, fun z H' ⟨T, w, e2, n, e3, e4⟩ => ?_⟩
    have e5 := e4 vs hq
    rw [eu] at e5
    cases e5
    subst e3
    subst e2
    have n2 := Evl.fresh_back g2 n
    exact ⟨upd G2 T (.tup [.int i, u]), (Le.refl g2).add n, T, _, _, rfl, .inl (.inl upd_same), rfl, r.mono (g1.trans (Evl.Ex.new n2)) ru⟩⟩
theorem ei_range2 {tg : Expr} {a b : Int} (h : EvA X Γ [e, f] [⟨rInt, a⟩, ⟨rInt, b⟩]) (hn : -(2 ^ 62) ≤ a ∧ a < 2 ^ 62 ∧ -(2 ^ 62) ≤ b ∧ b < 2 ^ 62) (hm : X.mg "range" = none) (hg : Gl X "range" := by rfl) (hs : starEach [e, f] X.env = [(false, eval e X.env), (false, eval f X.env)] := by rfl) (hs2 : starEach [f] X.env = [(false, eval f X.env)] := by rfl) :
    EvI X Γ tg (.Call (.Name "range" p) [e, f] [] pos) rInt (rangeL a (b - a).toNat) := ⟨_, pi_range2 hg hm WA.pa hs hs2, fun E G H σ hh R q => h E G H σ hh _ fun vs G1 H1 l1 a1 => by
  match vs, a1 with
  | [v1, v2], ⟨h1, h2, _⟩ =>
    refine ⟨a, b, by rw [show v1 = _ from h1, show v2 = _ from h2], hn, q _ G1 H1 l1 fun i G2 H2 g1 g2 => ⟨fun z ea => ?_, fun le => ?_⟩⟩
    · have lt : i < (b - a).toNat := by
        have z := (List.getElem?_eq_some_iff.mp ea).1
        simpa [rangeL] using z
      refine ⟨lt, fun x H' y => ?_⟩
      obtain ⟨e1, e2⟩ := y
      subst e1
      refine ⟨G2, .refl g2, ?_⟩
      have : z = a + (i : Int) := by
        rw [rangeL, List.getElem?_map, List.getElem?_range lt] at ea
        exact (Option.some.inj ea).symm
      rw [e2, this]
      rfl
    · have z : (rangeL a (b - a).toNat).length = (b - a).toNat := by simp [rangeL]
      rw [z] at le
      exact le⟩
/-! ### max of a list -/
def maxL : List Int → Int
  | [] => 0
  | a :: l => l.foldl max a
theorem foldl_max_mem : ∀ (l : List Int) (a : Int), (l.foldl max a ∈ a :: l) ∧ ∀ y ∈ a :: l, y ≤ l.foldl max a
  | [], a => by simp
  | b :: l, a => by
    obtain ⟨h1, h2⟩ := foldl_max_mem l (max a b)
    refine ⟨?_, fun y hy => ?_⟩
    · show l.foldl max (max a b) ∈ _
      rcases List.mem_cons.mp h1 with e | e
      · rw [e]
        rcases Int.le_total a b with q | q
        · rw [Int.max_eq_right q]; simp
        · rw [Int.max_eq_left q]; simp
      · simp [e]
    · show y ≤ l.foldl max (max a b)
      have hm := h2 (max a b) List.mem_cons_self
      rcases List.mem_cons.mp hy with e | hy
      · omega
      · rcases List.mem_cons.mp hy with e | hy
        · omega
        · exact h2 y (List.mem_cons_of_mem _ hy)
theorem maxL_eq {ns : List Int} {m : Int} (h1 : m ∈ ns) (h2 : ∀ y ∈ ns, y ≤ m) : maxL ns = m := by
  cases ns with
  | nil => simp at h1
  | cons a l =>
    obtain ⟨k1, k2⟩ := foldl_max_mem l a
    have := h2 _ k1
    have := k2 m h1
    show l.foldl max a = m
    omega
theorem ev_maxL {ns : List Int} (hn : ns ≠ []) (h : EvB X Γ e (oLst rInt ns)) (hm : X.mg "max" = none) (hc : X.calm = true := by rfl) (hg : Gl X "max" := by rfl) (he : starEach (e :: []) X.env = (false, eval e X.env) :: starEach [] X.env := by rfl) (hpl : (backTo pos (starEach [] X.env)).any (·.1) = false := by rfl) : Ev X Γ (.Call (.Name "max" p) [e] [] pos) rInt (maxL ns) := fun E G H σ hh Q q =>
  WE.of (pe_callB (cr_max hc) hg hm (by decide +kernel) (pa_cons WE.pe pa_nil he) (he := he) (hpl := hpl)) (h E G H σ hh _ fun p o G1 H1 l1 hp ⟨vs, e1, ha⟩ => by
    subst e1
    rw [all2_int ha] at hp
    exact ⟨p, ns, rfl, .inl (.inl hp), List.length_pos_iff.mpr hn, fun m h1 h2 => q _ G1 H1 l1 (show V.int m = .int (maxL ns) by rw [maxL_eq h1 h2])⟩)
/-! ### lists of pairs of ints, == -/
def pdPairs (a : List (Int × Int)) : PyData := .list (a.map pdPair)
theorem dpAll_pairs {K : PySem.W.Frag} {G : Hp} : ∀ {vs : List V} {ns : List (Int × Int)}, All2 (rT2 K rInt rInt) G vs ns → DpAll K G vs (ns.map pdPair)
  | _, _, .nil => .nil
  | _, _, .cons h t => .cons (eqv_pair.dp _ _ h) (dpAll_pairs t)
theorem eqv_pairs {K : PySem.W.Frag} {ns : List (Int × Int)} : Eqv K (rLst (rT2 K rInt rInt)) ns (pdPairs ns) := ⟨fun G v ⟨p, vs, e, h, h2⟩ => by
  subst e
  exact .lst (.inl (.inl h)) (dpAll_pairs h2), by
  have z : ∀ l : List (Int × Int), PyData.canLayAll0 (l.map pdPair) = true := fun l => by
    induction l with
    | nil => rfl
    | cons a l ih => simp [PyData.canLayAll0, pdPair, PyData.canLay0, ih]
  have d : ∀ l : List (Int × Int), PyData.depthAll (l.map pdPair) ≤ 4 := fun l => by
    induction l with
    | nil => simp [PyData.depthAll]
    | cons a l ih => simp [PyData.depthAll, pdPair, PyData.depth]; omega
  unfold SeqAt.shaped pdPairs
  have := d ns
  simp only [PyData.canLay0, z ns, PyData.depth, Bool.true_and]
  exact decide_eq_true (by omega)⟩
theorem eqvAll_pairs : ∀ {a b : List (Int × Int)}, PyData.eqvAll (a.map pdPair) (b.map pdPair) = decide (a = b)
  | [], [] => rfl
  | [], _ :: _ => by simp [PyData.eqvAll]
  | _ :: _, [] => by simp [PyData.eqvAll]
  | a :: l, b :: m => by
    simp only [List.map_cons, PyData.eqvAll, pdPair_eqv, eqvAll_pairs (a := l) (b := m)]
    by_cases h1 : a = b <;> by_cases h2 : l = m <;> simp [h1, h2]
theorem pdPairs_eqv {a b : List (Int × Int)} : PyData.eqv (pdPairs a) (pdPairs b) = decide (a = b) := by
  unfold pdPairs
  simp only [PyData.eqv, eqvAll_pairs]
end
end Hf

namespace Hf
open PySem PySem.Spec PyProof.Rows L2

/-! ### objects of one's own handed to a call, changed behind it -/
def OwnAt (σ : L2.St) : List Nat → List Addr → Prop
  | [], [] => True
  | i :: is, p :: ps => σ[i]? = some (some (.ref p)) ∧ OwnAt σ is ps
  | _, _ => False
def Ows (G H : Hp) : List Addr → List Oc → Prop
  | [], [] => True
  | p :: ps, c :: cs => (G p = none ∧ ∃ o, H p = some o ∧ c.rel G o) ∧ Ows G H ps cs
  | _, _ => False
def SlotsAre (Γ : List Slot) : List Nat → List Oc → Prop
  | [], [] => True
  | i :: is, c :: cs => (∃ q, Γ[i]? = some (.ow c q)) ∧ SlotsAre Γ is cs
  | _, _ => False
def updO (Γ : List Slot) (i : Nat) (c : Oc) : List Slot := match Γ[i]? with
  | some (.ow _ q) => Γ.set i (.ow c q)
  | _ => Γ
def setOws : List Slot → List Nat → List Oc → List Slot
  | Γ, i :: is, c :: cs => setOws (updO Γ i c) is cs
  | Γ, _, _ => Γ
theorem updO_len {Γ : List Slot} {i : Nat} {c : Oc} : (updO Γ i c).length = Γ.length := by
  unfold updO
  split <;> simp
theorem setOws_len : ∀ {is : List Nat} {cs : List Oc} {Γ : List Slot}, (setOws Γ is cs).length = Γ.length
  | [], _, _ => by simp [setOws]
  | _ :: _, [], _ => by simp [setOws]
  | i :: is, c :: cs, Γ => by rw [setOws, setOws_len, updO_len]
theorem updO_get {Γ : List Slot} {i j : Nat} {c : Oc} {s : Slot} (h : (updO Γ i c)[j]? = some s) : (i ≠ j ∧ Γ[j]? = some s) ∨ (i = j ∧ ((∃ c0 q, Γ[j]? = some (.ow c0 q) ∧ s = .ow c q) ∨ (Γ[j]? = some s ∧ ∀ c0 q, s ≠ .ow c0 q))) := by
  unfold updO at h
  split at h
  · rename_i c0 q e
    rcases get_set h with ⟨rfl, rfl⟩ | ⟨n, h⟩
    · exact .inr ⟨rfl, .inl ⟨c0, q, e, rfl⟩⟩
    · exact .inl ⟨n, h⟩
  · rename_i e
    by_cases z : i = j
    · subst z
      exact .inr ⟨rfl, .inr ⟨h, fun c0 q w => e c0 q (by rw [h, w])⟩⟩
    · exact .inl ⟨z, h⟩
theorem updO_ne {Γ : List Slot} {i j : Nat} {c : Oc} (h : i ≠ j) : (updO Γ i c)[j]? = Γ[j]? := by
  unfold updO
  split
  · rw [List.getElem?_set_ne h]
  · rfl
theorem slotsAre_upd {i : Nat} {c : Oc} : ∀ {is : List Nat} {cs : List Oc} {Γ : List Slot}, i ∉ is → SlotsAre Γ is cs → SlotsAre (updO Γ i c) is cs
  | [], [], _, _, _ => trivial
  | j :: is, d :: cs, Γ, n, ⟨⟨q, e⟩, h⟩ => by
    simp only [List.mem_cons, not_or] at n
    exact ⟨⟨q, by rw [updO_ne n.1]; exact e⟩, slotsAre_upd n.2 h⟩
theorem setOws_get : ∀ {is : List Nat} {os cs : List Oc} {Γ : List Slot} {σ : L2.St} {ps : List Addr} {G H : Hp} {j : Nat} {s : Slot}, is.Nodup → SlotsAre Γ is os → OwnAt σ is ps → Ows G H ps cs → (setOws Γ is cs)[j]? = some s →
    (j ∉ is ∧ Γ[j]? = some s) ∨ ∃ c c' q p o, j ∈ is ∧ Γ[j]? = some (.ow c q) ∧ s = .ow c' q ∧ σ[j]? = some (some (.ref p)) ∧ p ∈ ps ∧ G p = none ∧ H p = some o ∧ c'.rel G o
  | [], _, cs, Γ, σ, ps, G, H, j, s, _, _, oa, ow, h => by
    cases ps with
    | cons p ps => exact oa.elim
    | nil =>
      cases cs with
      | cons c cs => exact ow.elim
      | nil => exact .inl ⟨by simp, by simpa [setOws] using h⟩
  | i :: is, os, cs, Γ, σ, ps, G, H, j, s, nd, sa, oa, ow, h => by
    cases os with
    | nil => exact sa.elim
    | cons o os =>
    cases ps with
    | nil => exact oa.elim
    | cons p ps =>
    cases cs with
    | nil => exact ow.elim
    | cons c cs =>
    obtain ⟨⟨q, e⟩, sa⟩ := sa
    obtain ⟨e2, oa⟩ := oa
    obtain ⟨⟨g, o', h1, h2⟩, ow⟩ := ow
    obtain ⟨n1, n2⟩ := List.nodup_cons.mp nd
    rw [setOws] at h
    rcases setOws_get n2 (slotsAre_upd n1 sa) oa ow h with ⟨k1, k2⟩ | ⟨a, a', q', p', o2, k1, k2, k3, k4, k5, k6⟩
    · rcases updO_get k2 with ⟨z, w⟩ | ⟨z, w⟩
      · exact .inl ⟨by simp only [List.mem_cons, not_or]; exact ⟨fun y => z y.symm, k1⟩, w⟩
      · subst z
        rcases w with ⟨c0, q0, w1, w2⟩ | ⟨w1, w2⟩
        · exact .inr ⟨c0, c, q0, p, o', by simp, w1, w2, e2, by simp, g, h1, h2⟩
        · rw [e] at w1
          cases w1
          exact absurd rfl (w2 _ _)
    · have ne : i ≠ j := fun z => n1 (z ▸ k1)
      rw [updO_ne ne] at k2
      exact .inr ⟨a, a', q', p', o2, List.mem_cons_of_mem _ k1, k2, k3, k4, List.mem_cons_of_mem _ k5, k6⟩
theorem ownAt_slot : ∀ {is : List Nat} {cs : List Oc} {Γ : List Slot} {σ : L2.St} {ps : List Addr} {p : Addr}, SlotsAre Γ is cs → OwnAt σ is ps → p ∈ ps → ∃ i c q, i ∈ is ∧ Γ[i]? = some (.ow c q) ∧ σ[i]? = some (some (.ref p))
  | i :: is, cs, Γ, σ, ps, p', sa, oa, m => by
    cases cs with
    | nil => exact sa.elim
    | cons c cs =>
    cases ps with
    | nil => exact oa.elim
    | cons p ps =>
    obtain ⟨⟨q, e⟩, sa⟩ := sa
    obtain ⟨e2, oa⟩ := oa
    rcases List.mem_cons.mp m with rfl | m
    · exact ⟨i, c, q, by simp, e, e2⟩
    · obtain ⟨i', c', q', k1, k2, k3⟩ := ownAt_slot sa oa m
      exact ⟨i', c', q', List.mem_cons_of_mem _ k1, k2, k3⟩
  | [], _, _, _, ps, _, _, oa, m => by
    cases ps with
    | cons p ps => exact oa.elim
    | nil => simp at m
theorem ownAt_mem : ∀ {is : List Nat} {σ : L2.St} {ps : List Addr} {p : Addr} {i : Nat}, OwnAt σ is ps → i ∈ is → σ[i]? = some (some (.ref p)) → p ∈ ps
  | i :: is, σ, ps, p', j, oa, m, e => by
    cases ps with
    | nil => exact oa.elim
    | cons p ps =>
    obtain ⟨e2, oa⟩ := oa
    rcases List.mem_cons.mp m with rfl | m
    · rw [e2] at e; cases e; simp
    · exact List.mem_cons_of_mem _ (ownAt_mem oa m e)
  | [], _, _, _, _, _, m, _ => by simp at m
/-- behind a call that changed what was handed in -/
theorem Holds.call {E : Ent} {G H G' H' : Hp} {σ : L2.St} {Γ : List Slot} {is : List Nat} {os cs : List Oc} {ps : List Addr} (h : Holds E G H σ Γ) (nd : is.Nodup) (sa : SlotsAre Γ is os) (oa : OwnAt σ is ps)
    (l : LeE G H (fun p => p ∈ ps) G' H') (ow : Ows G' H' ps cs) : Holds E G' H' σ (setOws Γ is cs) := by
  have out : ∀ p, p ∉ ps → ∀ o, H p = some o → H' p = some o := fun p n o e => by
    rcases l.h p o e with ⟨_, w⟩ | ⟨m, _⟩
    · exact w
    · exact absurd m n
  have gn : ∀ p, G p = none → (∃ o, H p = some o) → G' p = none := fun p g ⟨o, e⟩ => by
    cases q : G' p with
    | none => rfl
    | some u => rw [l.new p u q g] at e; cases e
  refine ⟨⟨h.le.g.trans l.g, fun a o e => ?_, l.gh, fun a o e1 e2 => ?_, h.le.m⟩, h.fl.trans l.g, by rw [setOws_len]; exact h.len, fun j s e => ?_, fun j k s t e1 e2 w1 w2 z => ?_⟩
  · rcases h.le.h a o e with ⟨n, w⟩ | ⟨m, u, w⟩
    · rcases l.h a o w with ⟨_, w2⟩ | ⟨m2, _⟩
      · exact .inl ⟨n, w2⟩
      · obtain ⟨i, c, q, _, k2, k3⟩ := ownAt_slot sa oa m2
        obtain ⟨p, o2, x1, x2, x3, x4, x5⟩ := h.ow k2
        rw [k3] at x1
        cases x1
        rcases x3.or with y | y
        · exact absurd y n
        · rw [y] at e; cases e
    · rcases l.h a u w with ⟨_, w2⟩ | ⟨_, w2⟩
      · exact .inr ⟨m, u, w2⟩
      · exact .inr ⟨m, w2⟩
  · cases q : G a with
    | some u => exact h.le.new a u q e2
    | none =>
      have z := l.new a o e1 q
      exact h.le.fresh z
  · rcases setOws_get nd sa oa ow e with ⟨n, k⟩ | ⟨c, c', q, p, o, k1, k2, k3, k4, k5, k6, k7, k8⟩
    · have w := h.ok j s k
      cases s with
      | no => trivial
      | sh r a =>
        obtain ⟨v, w1, w2⟩ := w
        exact ⟨v, w1, r.mono l.g w2⟩
      | ow c q =>
        obtain ⟨p, o, w1, w2, w3, w4, w5⟩ := w
        have np : p ∉ ps := fun m => by
          obtain ⟨i, c2, q2, y1, y2, y3⟩ := ownAt_slot sa oa m
          exact n (h.sep i j _ _ y2 k rfl rfl (by rw [y3, w1]) ▸ y1)
        exact ⟨p, o, w1, gn p w2 ⟨o, w4⟩, w3, out p np o w4, c.mono l.g w5⟩
    · subst k3
      obtain ⟨p1, o1, w1, w2, w3, w4, w5⟩ := h.ow k2
      rw [k4] at w1
      cases w1
      exact ⟨p, o, k4, k6, w3, k7, k8⟩
  · have back : ∀ (j : Nat) (s : Slot), (setOws Γ is cs)[j]? = some s → s.isOw = true → ∃ s', Γ[j]? = some s' ∧ s'.isOw = true := fun j s e w => by
      rcases setOws_get nd sa oa ow e with ⟨n, k⟩ | ⟨c, c', q, p, o, k1, k2, _⟩
      · exact ⟨s, k, w⟩
      · exact ⟨_, k2, rfl⟩
    obtain ⟨s', q1, q2⟩ := back j s e1 w1
    obtain ⟨t', q3, q4⟩ := back k t e2 w2
    exact h.sep j k s' t' q1 q3 q2 q4 z
end Hf

namespace Hf
open PySem PySem.Spec PyProof.Rows L2

/-! ### a def that changes what is handed in ahead -/
def NSp {ι α : Type} (Pre : ι → Prop) (ows : ι → List Oc) (args : ι → List Ty) (r : Rp α) (res : ι → α) (post : ι → List Oc) : Sp := fun vs H Q E =>
  ∃ (y : ι) (G : Hp) (ps : List Addr) (us : List V), Pre y ∧ Ex G H ∧ vs = ps.map V.ref ++ us ∧ ps.Nodup ∧ Ows G H ps (ows y) ∧ Args G us (args y) ∧
    ∀ v G' H', LeE G H (fun p => p ∈ ps) G' H' → Ows G' H' ps (post y) → r.rel G' v (res y) → Q v H'
theorem ows_len : ∀ {ps : List Addr} {cs : List Oc} {G H : Hp}, Ows G H ps cs → ps.length = cs.length
  | [], [], _, _, _ => rfl
  | _ :: ps, _ :: cs, _, _, h => by rw [List.length_cons, List.length_cons, ows_len h.2]
theorem ows_get : ∀ {ps : List Addr} {cs : List Oc} {G H : Hp} {i : Nat} {c : Oc}, Ows G H ps cs → cs[i]? = some c → ∃ p, ps[i]? = some p ∧ G p = none ∧ ∃ o, H p = some o ∧ c.rel G o
  | _ :: ps, _ :: cs, _, _, 0, _, h, e => by cases e; exact ⟨_, rfl, h.1.1, h.1.2⟩
  | _ :: ps, _ :: cs, _, _, i + 1, _, h, e => ows_get (i := i) h.2 e
  | [], [], _, _, i, _, _, e => by simp at e
/-- the slots of a def that is entered -/
def slotsN (cs : List Oc) (ps : List Addr) (ts : List Ty) (n : Nat) : List Slot := (cs.zip ps).map (fun z => Slot.ow z.1 (some z.2)) ++ slots0 ts n
theorem holds_startN {G H : Hp} {N : List Str} {ps : List Addr} {cs : List Oc} {us : List V} {ts : List Ty} (e : Ex G H) (nd : ps.Nodup) (ow : Ows G H ps cs) (a : Args G us ts) (hn : cs.length + ts.length ≤ N.length) :
    Holds { G := G, H := H, M := fun p => p ∈ ps } G H (L2.start N (ps.map V.ref ++ us)) (slotsN cs ps ts (N.length - (cs.length + ts.length))) := by
  have hl := args_length a
  have hp := ows_len ow
  have zl : (cs.zip ps).length = cs.length := by rw [List.length_zip]; omega
  have mem : ∀ p, p ∈ ps → G p = none ∧ ∃ o, H p = some o := fun p m => by
    obtain ⟨i, hi, rfl⟩ := List.getElem_of_mem m
    obtain ⟨p, k1, k2, o, k3, _⟩ := ows_get ow (List.getElem?_eq_getElem (show i < cs.length by omega))
    rw [List.getElem?_eq_getElem hi] at k1
    cases k1
    exact ⟨k2, o, k3⟩
  have le : LeE G H (fun p => p ∈ ps) G H := ⟨.refl _, fun x o q => by
    by_cases m : x ∈ ps
    · exact .inr ⟨m, o, q⟩
    · exact .inl ⟨m, q⟩, e, fun x o h1 h2 => (by rw [h1] at h2; cases h2), fun x m => mem x m⟩
  have owOnly : ∀ (i : Nat) (s : Slot), (slotsN cs ps ts (N.length - (cs.length + ts.length)))[i]? = some s → s.isOw = true → ∃ c p, cs[i]? = some c ∧ ps[i]? = some p ∧ s = .ow c (some p) := fun i s q w => by
    unfold slotsN at q
    by_cases lt : i < cs.length
    · rw [List.getElem?_append_left (by rw [List.length_map, zl]; exact lt), List.getElem?_map, show (cs.zip ps)[i]? = some (cs[i], ps[i]'(by omega)) from List.getElem?_zip_eq_some.mpr ⟨List.getElem?_eq_getElem lt, List.getElem?_eq_getElem (by omega)⟩] at q
      cases q
      exact ⟨_, _, List.getElem?_eq_getElem lt, List.getElem?_eq_getElem (by omega), rfl⟩
    · rw [List.getElem?_append_right (by rw [List.length_map, zl]; omega)] at q
      have z := List.mem_of_getElem? q
      unfold slots0 at z
      rcases List.mem_append.mp z with z | z
      · obtain ⟨t, _, e⟩ := List.mem_map.mp z
        rw [← e] at w
        cases w
      · rw [List.mem_replicate] at z
        rw [z.2] at w
        cases w
  have st : ∀ (i : Nat) (v : V), (ps.map V.ref ++ us)[i]? = some v → (L2.start N (ps.map V.ref ++ us))[i]? = some (some v) := fun i v q => by
    unfold L2.start
    have lt := (List.getElem?_eq_some_iff.mp q).1
    rw [List.getElem?_append_left (by rw [List.length_map]; exact lt), List.getElem?_map, q]
    rfl
  have atP : ∀ (i : Nat) (p : Addr), ps[i]? = some p → (ps.map V.ref ++ us)[i]? = some (.ref p) := fun i p q => by
    have lt := (List.getElem?_eq_some_iff.mp q).1
    rw [List.getElem?_append_left (by rw [List.length_map]; exact lt), List.getElem?_map, q]
    rfl
  refine ⟨le, (fun a o q => by cases q), ?_, fun i s q => ?_, fun i j s t q1 q2 w1 w2 z => ?_⟩
  · unfold L2.start slotsN slots0
    simp only [List.length_append, List.length_map, List.length_replicate, zl]
    omega
  · cases hs : s with
    | no => trivial
    | ow c pq =>
      obtain ⟨c', p, k1, k2, k3⟩ := owOnly i s q (by rw [hs]; rfl)
      rw [hs] at k3
      cases k3
      obtain ⟨p', m1, m2, o, m3, m4⟩ := ows_get ow k1
      rw [k2] at m1
      cases m1
      exact ⟨p, o, st i _ (atP i p k2), m2, ⟨rfl, List.mem_of_getElem? k2⟩, m3, m4⟩
    | sh r a' =>
      subst hs
      unfold slotsN at q
      by_cases lt : i < cs.length
      · rw [List.getElem?_append_left (by rw [List.length_map, zl]; exact lt), List.getElem?_map] at q
        cases w : (cs.zip ps)[i]? with
        | none => rw [w] at q; cases q
        | some t => rw [w] at q; cases q
      · rw [List.getElem?_append_right (by rw [List.length_map, zl]; omega), List.length_map, zl] at q
        unfold slots0 at q
        by_cases lt2 : i - cs.length < ts.length
        · rw [List.getElem?_append_left (by simpa using lt2), List.getElem?_map] at q
          cases w : ts[i - cs.length]? with
          | none => rw [w] at q; cases q
          | some t =>
            rw [w] at q
            cases q
            obtain ⟨v, h1, h2⟩ := args_get a w
            refine ⟨v, st i v ?_, h2⟩
            rw [List.getElem?_append_right (by rw [List.length_map]; omega), List.length_map, hp]
            exact h1
        · rw [List.getElem?_append_right (by simpa using lt2)] at q
          have z := List.mem_of_getElem? q
          rw [List.mem_replicate] at z
          cases z.2
  · obtain ⟨c1, p1, a1, a2, _⟩ := owOnly i s q1 w1
    obtain ⟨c2, p2, b1, b2, _⟩ := owOnly j t q2 w2
    rw [st i _ (atP i p1 a2), st j _ (atP j p2 b2)] at z
    cases z
    obtain ⟨hi, e1⟩ := List.getElem?_eq_some_iff.mp a2
    obtain ⟨hj, e2⟩ := List.getElem?_eq_some_iff.mp b2
    rcases Nat.lt_trichotomy i j with k | k | k
    · exact absurd (e1.trans e2.symm) (List.pairwise_iff_getElem.mp nd i j hi hj k)
    · exact k
    · exact absurd (e2.trans e1.symm) (List.pairwise_iff_getElem.mp nd j i hj hi k)
/-- what is handed back, and how what was handed in stands then -/
def RetN (E : Ent) (D : Ends) (ps : List Addr) (post : List Oc) {α : Type} (r : Rp α) (a : α) : Prop := ∀ v G H, LeE E.G E.H E.M G H → Ows G H ps post → r.rel G v a → D.rt v H
/-- the first slots still hold what was handed in -/
def Still (Γ : List Slot) : Nat → List Addr → List Oc → Prop
  | _, [], [] => True
  | i, p :: ps, c :: cs => Γ[i]? = some (.ow c (some p)) ∧ Still Γ (i + 1) ps cs
  | _, _, _ => False
theorem Still.ows {E : Ent} {G H : Hp} {σ : L2.St} {Γ : List Slot} (h : Holds E G H σ Γ) : ∀ {ps : List Addr} {cs : List Oc} {i : Nat}, Still Γ i ps cs → Ows G H ps cs
  | [], [], _, _ => trivial
  | p :: ps, c :: cs, i, ⟨e, s⟩ => by
    obtain ⟨p', o, h1, h2, h3, h4, h5⟩ := h.ow e
    have z : p' = p := h3.1
    subst z
    exact ⟨⟨h2, o, h4, h5⟩, Still.ows h s⟩
section
variable {P : Program} {w : World} {K : PySem.W.Frag} {mg : Str → Option Value} {base : Heap} {x qual : Str} {params : Arguments} {body : List Stmt} {scope : Scope} {dvs : List V} {kws : List (Str × V)} {f : Addr} {fd : FuncData}
theorem fn_mut {N ps : List Str} {k : Nat} {ι α : Type} {Pre : ι → Prop} {ows : ι → List Oc} {args : ι → List Ty} {r : Rp α} {res : ι → α} {post : ι → List Oc} (F : FunD K x qual params body scope dvs kws f fd) (S : FnScope N ps scope) (hl : ∀ y, (ows y).length + (args y).length = ps.length)
    (hb : ∀ (y : ι), Pre y → ∀ (cdv : Value) (A : Around) (outer : List Env) (s : Shared) (H : Hp) (E0 : XK) (G : Hp) (D : Ends) (qs : List Addr), qs.length = (ows y).length → Room k (A.deeper (envOfC qual scope s.heap.objs.size f cdv)) →
      RetN { G := G, H := H, M := fun p => p ∈ qs } D qs (post y) r (res y) → (∀ σ G' H', LeE G H (fun p => p ∈ qs) G' H' → Ows G' H' qs (post y) → r.rel G' .non (res y) → D.nx σ H') →
      Bk (cxOf (CXL P w) P w K mg base N qual scope f cdv A outer s H E0) { G := G, H := H, M := fun p => p ∈ qs } (slotsN (ows y) qs (args y) (N.length - ps.length)) body D) :
    FnOk P w K mg base (CXL P w) (k + 1) f fd ps (NSp Pre ows args r res post) := by
  refine F.ok S (fun vs H Q E ⟨y, G, qs, us, _, _, e, _, ow, a, _⟩ => by rw [e, List.length_append, List.length_map, ows_len ow, args_length a, hl]) fun cdv A outer s H vs Q E hr ⟨y, G, qs, us, hp, e, ev, nd, ow, a, hq⟩ => ⟨_, WB.pss, ?_⟩
  have hN : (ows y).length + (args y).length ≤ N.length := by
    rw [hl]
    have z := congrArg List.length S.pre
    rw [List.length_take] at z
    omega
  have h := holds_startN (N := N) e nd ow a hN
  rw [hl, ← ev] at h
  exact hb y hp cdv A outer s H E G _ qs (ows_len ow) hr (fun v G' H' l o rv => hq v G' H' l o rv) (fun σ G' H' l o rv => hq _ G' H' l o rv) G H _ h
end
end Hf

namespace Hf
open PySem PySem.Spec PyProof.Rows L2

/-! ### expressions that change what is one's own: Γ ahead, Γ' behind -/
section
variable (X : Cx)
def EvM (Γ Γ' : List Slot) (e : Expr) {α : Type} (r : Rp α) (a : α) : Prop := ∀ (E : Ent) (G H : Hp) (σ : L2.St), Holds E G H σ Γ → ∀ Q : VK, (∀ v G' H', Ex G G' → Holds E G' H' σ Γ' → r.rel G' v a → Q v H') → WE X e σ H Q
def EvMA (Γ Γ' : List Slot) (es : List Expr) (ts : List Ty) : Prop := ∀ (E : Ent) (G H : Hp) (σ : L2.St), Holds E G H σ Γ → ∀ Q : List V → Hp → Prop, (∀ vs G' H', Ex G G' → Holds E G' H' σ Γ' → Args G' vs ts → Q vs H') → WA X es σ H Q
/-- names of one's own objects ahead, what is only read behind -/
def EvOA (Γ : List Slot) (es : List Expr) (own : List Nat) (ts : List Ty) : Prop := ∀ (E : Ent) (G H : Hp) (σ : L2.St), Holds E G H σ Γ → ∀ Q : List V → Hp → Prop,
  (∀ (ps : List Addr) us G' H', Le G H G' H' → OwnAt σ own ps → Args G' us ts → Q (ps.map V.ref ++ us) H') → WA X es σ H Q
end
theorem ownAt_nodup {E : Ent} {G H : Hp} {σ : L2.St} {Γ : List Slot} (h : Holds E G H σ Γ) : ∀ {is : List Nat} {cs : List Oc} {ps : List Addr}, is.Nodup → SlotsAre Γ is cs → OwnAt σ is ps → ps.Nodup
  | [], _, [], _, _, _ => List.nodup_nil
  | [], _, _ :: _, _, _, oa => oa.elim
  | _ :: _, _, [], _, _, oa => oa.elim
  | _ :: _, [], _ :: _, _, sa, _ => sa.elim
  | i :: is, c :: cs, p :: ps, nd, ⟨⟨q, e⟩, sa⟩, ⟨e2, oa⟩ => by
    obtain ⟨n1, n2⟩ := List.nodup_cons.mp nd
    refine List.nodup_cons.mpr ⟨fun m => ?_, ownAt_nodup h n2 sa oa⟩
    obtain ⟨j, c', q', k1, k2, k3⟩ := ownAt_slot sa oa m
    exact n1 (h.sep i j _ _ e k2 rfl rfl (by rw [e2, k3]) ▸ k1)
theorem ows_of {E : Ent} {G H : Hp} {σ : L2.St} {Γ : List Slot} (h : Holds E G H σ Γ) : ∀ {is : List Nat} {cs : List Oc} {ps : List Addr}, SlotsAre Γ is cs → OwnAt σ is ps → Ows G H ps cs
  | [], [], [], _, _ => trivial
  | [], _ :: _, _, sa, _ => sa.elim
  | [], [], _ :: _, _, oa => oa.elim
  | _ :: _, _, [], _, oa => oa.elim
  | _ :: _, [], _ :: _, sa, _ => sa.elim
  | i :: is, c :: cs, p :: ps, ⟨⟨q, e⟩, sa⟩, ⟨e2, oa⟩ => by
    obtain ⟨p', o, h1, h2, h3, h4, h5⟩ := h.ow e
    rw [e2] at h1
    cases h1
    exact ⟨⟨h2, o, h4, h5⟩, ows_of h sa oa⟩
section
variable {X : Cx} {E : Ent} {Γ Γ' Γ1 Γ2 : List Slot} {D : Ends} {e f g : Expr} {es : List Expr} {rest : List Stmt} {pos p apos cpos : Pos} {α β γ ι : Type} {r : Rp α} {x : α} {s : Rp β} {y : β} {t : Rp γ} {z : γ} {as bs : List α} {own : List Nat} {ts : List Ty}
theorem em_of (h : Ev X Γ e r x) : EvM X Γ Γ e r x := fun E G H σ hh Q q => h E G H σ hh Q fun v G1 H1 l1 r1 => q v G1 H1 l1.g (hh.step l1) r1
theorem ema_nil : EvMA X Γ Γ [] [] := fun E G H σ hh Q q => WA.of pa_nil (q [] G H (Evl.Ex.refl _) hh trivial)
theorem ema_cons {t : Ty} (ha : EvM X Γ Γ1 e t.r t.a) (hr : EvMA X Γ1 Γ2 es ts) (hs : starEach (e :: es) X.env = (false, eval e X.env) :: starEach es X.env := by rfl) : EvMA X Γ Γ2 (e :: es) (t :: ts) := fun E G H σ hh Q q =>
  WA.of (pa_cons WE.pe WA.pa hs) (ha E G H σ hh _ fun v G1 H1 g1 h1 r1 => hr E G1 H1 σ h1 _ fun vs G2 H2 g2 h2 r2 => q _ G2 H2 (g1.trans g2) h2 ⟨t.r.mono g2 r1, r2⟩)
theorem em_tup2 {n : Nat} (h : EvMA X Γ Γ' es [⟨r, x⟩, ⟨s, y⟩]) : EvM X Γ Γ' (.Tuple es n pos) (rT2 X.K r s) (x, y) := fun E G H σ hh Q q =>
  WE.of (pe_tup WA.pa) (h E G H σ hh _ fun vs G1 H1 g1 h1 a1 => by
    match vs, a1 with
    | [v1, v2], ⟨k1, k2, _⟩ =>
      refine ⟨by show 2 ≤ sizeLine; decide, fun p n => ?_⟩
      have l2 := (Le.refl h1.le.gh).add (o := .tup [v1, v2]) n
      exact q _ (upd G1 p (.tup [v1, v2])) _ (g1.trans l2.g) (h1.step l2) ⟨p, v1, v2, rfl, .inl (.inl upd_same), r.mono l2.g k1, s.mono l2.g k2⟩)
theorem em_tup3 {n : Nat} (h : EvMA X Γ Γ' es [⟨r, x⟩, ⟨s, y⟩, ⟨t, z⟩]) : EvM X Γ Γ' (.Tuple es n pos) (rT3 X.K r s t) (x, y, z) := fun E G H σ hh Q q =>
  WE.of (pe_tup WA.pa) (h E G H σ hh _ fun vs G1 H1 g1 h1 a1 => by
    match vs, a1 with
    | [v1, v2, v3], ⟨k1, k2, k3, _⟩ =>
      refine ⟨by show 3 ≤ sizeLine; decide, fun p n => ?_⟩
      have l2 := (Le.refl h1.le.gh).add (o := .tup [v1, v2, v3]) n
      exact q _ (upd G1 p (.tup [v1, v2, v3])) _ (g1.trans l2.g) (h1.step l2) ⟨p, v1, v2, v3, rfl, .inl (.inl upd_same), r.mono l2.g k1, s.mono l2.g k2, t.mono l2.g k3⟩)
/-- xs.pop(0) -/
theorem em_pop0 (i : Nat) {a : Str} {pq : Option Addr} {k : Nat} {cp : Pos} (hg : Γ[i]? = some (.ow (oLst r (x :: as)) pq))
    (hpe : PE X (.Call (.Attribute (.Name a p) "pop" apos) [.Constant (.int 0) k cp] [] cpos) (tBM X.K "list" rPopAt (tVar i) (tCons (WE X (.Constant (.int 0) k cp)) tNil)) := by exact pe_bm PySem.F.plainAttrs_list PySem.F.slot_list_pop PySem.F.type_list_pop mt_popAt (pv _) (pa_cons WE.pe pa_nil)) :
    EvM X Γ (Γ.set i (.ow (oLst r as) pq)) (.Call (.Attribute (.Name a p) "pop" apos) [.Constant (.int 0) k cp] [] cpos) r x := fun E G H σ hh Q q =>
  WE.of hpe (by
    obtain ⟨l, o, h1, h2, h3, h4, vs, h5, h6⟩ := hh.ow hg
    subst h5
    cases h6 with
    | @cons v _ vs _ r1 r2 =>
    refine ⟨_, h1, .inl ⟨rfl, _, .inl (.inl h4)⟩, WE.of pe_int ?_⟩
    refine ⟨l, _, 0, 0, v, rfl, rfl, h4, by decide, by decide, by simp [seqIndex?], rfl, ?_⟩
    exact q v G _ (Evl.Ex.refl _) (hh.mut hg h1 ⟨_, rfl, r2⟩) r1)
theorem eoa_nil (h : EvA X Γ es ts) : EvOA X Γ es [] ts := fun E G H σ hh Q q => h E G H σ hh _ fun vs G1 H1 l1 a1 => q [] vs G1 H1 l1 trivial a1
theorem eoa_cons (i : Nat) {a : Str} {c : Oc} {pq : Option Addr} (hr : EvOA X Γ es own ts) (hg : Γ[i]? = some (.ow c pq) := by rfl) (hN : X.N[i]? = some a := by rfl) (hv : Vis X.env.scope a := by first | exact Or.inl rfl | exact Or.inr (Or.inl rfl) | exact Or.inr (Or.inr rfl)) (hd : (a == ("__debug__" : Str)) = false := by decide)
    (hcd : (a == ("__classdict__" : Str)) = false := by decide) (hs : starEach ((.Name a p) :: es) X.env = (false, eval (.Name a p) X.env) :: starEach es X.env := by rfl) : EvOA X Γ ((.Name a p) :: es) (i :: own) ts := fun E G H σ hh Q q =>
  WA.of (pa_cons (pe_var hN hv hd hcd) WA.pa hs) (by
    obtain ⟨l, o, h1, h2, h3, h4, h5⟩ := hh.ow hg
    exact ⟨_, h1, hr E G H σ hh _ fun ps us G1 H1 l1 o1 a1 => q (l :: ps) us G1 H1 l1 ⟨h1, o1⟩ a1⟩)
/-- f(xs, .., e, ..): xs, .. are changed -/
theorem em_call {k j : Nat} {fn : Str} {Pre : ι → Prop} {ows : ι → List Oc} {args : ι → List Ty} {res : ι → α} {post : ι → List Oc} {z : α} (h : Has X.prog X.w X.K X.mg X.base fn k (NSp Pre ows args r res post)) (hr : Room j X.A) (hk : k ≤ j) (y : ι) (hp : Pre y)
    (ha : EvOA X Γ (e :: es) own (args y)) (nd : own.Nodup) (sa : SlotsAre Γ own (ows y)) (hz : res y = z) (hΓ : setOws Γ own (post y) = Γ') (hg : Gl X fn := by rfl) (hdb : (fn == ("__debug__" : Str)) = false := by decide)
    (he : starEach (e :: es) X.env = (false, eval e X.env) :: starEach es X.env := by rfl) (hpl : (backTo pos (starEach es X.env)).any (·.1) = false := by rfl) : EvM X Γ Γ' (.Call (.Name fn p) (e :: es) [] pos) r z := fun E G H σ hh Q q =>
  we_call h hr hk (ha E G H σ hh _ fun ps us G1 H1 l1 o1 a1 => by
    have h1 := hh.step l1
    refine ⟨y, G1, ps, us, hp, l1.gh, rfl, ownAt_nodup h1 nd sa o1, ows_of h1 sa o1, a1, fun v G2 H2 l2 w2 r2 => ?_⟩
    exact q v G2 H2 (l1.g.trans l2.g) (hΓ ▸ h1.call nd sa o1 l2 w2) (hz ▸ r2)) hg hdb he hpl
/-- x = e -/
theorem bk_setM (i : Nat) {a : Str} {p : Pos} (nd : X.N.Nodup) (he : EvM X Γ Γ' e r x) (k : Bk X E (Γ'.set i (.sh r x)) rest D) (hi : X.N[i]? = some a := by rfl) (hx : Loc X.env.scope a := by first | exact Or.inl rfl | exact Or.inr rfl)
    (hs : swapsWith e (some (.Name a p)) pos.line X.env = pure false := by rfl) (hf : X.fn a = true ∨ X.env.scope.names.lookup a = some .local := by first | exact .inl rfl | exact .inr rfl) : Bk X E Γ (.Assign [.Name a p] e pos :: rest) D :=
  bk_of (ps_set nd hi hx WE.pe hs hf) fun G H σ hh => he E G H σ hh _ fun v G1 H1 g1 h1 r1 => k G1 H1 _ (h1.set_sh r1)
theorem bk_exprM (he : EvM X Γ Γ' e r x) (k : Bk X E Γ' rest D) (hs : swapsWith e none pos.line X.env = pure false := by rfl) : Bk X E Γ (.Expr e pos :: rest) D :=
  bk_of (ps_expr WE.pe hs) fun G H σ hh => he E G H σ hh _ fun v G1 H1 g1 h1 r1 => k G1 H1 _ h1
/-- x, y, z = a, b, c -/
theorem bk_par3M (i j l : Nat) {a b c : Str} {e1 e2 e3 : Expr} {px py pz pt : Pos} {kt k2 : Nat} {pt2 : Pos} (nd : X.N.Nodup) (he : EvMA X Γ Γ' [e1, e2, e3] [⟨r, x⟩, ⟨s, y⟩, ⟨t, z⟩]) (k : Bk X E (((Γ'.set i (.sh r x)).set j (.sh s y)).set l (.sh t z)) rest D) (hc : X.calm = true := by rfl) (hi : X.N[i]? = some a := by rfl) (hj : X.N[j]? = some b := by rfl) (hl : X.N[l]? = some c := by rfl)
    (hij : i ≠ j := by decide) (hil : i ≠ l := by decide) (hjl : j ≠ l := by decide) (hx : X.env.scope.names.lookup a = some .local := by rfl) (hy : X.env.scope.names.lookup b = some .local := by rfl) (hz : X.env.scope.names.lookup c = some .local := by rfl)
    (hw : swappedStores [.Tuple [.Name a px, .Name b py, .Name c pz] kt pt] (.Tuple [e1, e2, e3] k2 pt2) X.env = pure (some [a, b, c]) := by rfl)
    (hs : swapsWithSole [.Tuple [.Name a px, .Name b py, .Name c pz] kt pt] (.Tuple [e1, e2, e3] k2 pt2) pos.line X.env = pure false := by rfl) : Bk X E Γ (.Assign [.Tuple [.Name a px, .Name b py, .Name c pz] kt pt] (.Tuple [e1, e2, e3] k2 pt2) pos :: rest) D :=
  bk_of (ps_par3 hc nd hi hj hl hij hil hjl hx hy hz WA.pa hw hs) fun G H σ hh => he E G H σ hh _ fun vs G1 H1 g1 h1 a1 => by
    match vs, a1 with
    | [v1, v2, v3], ⟨k1, k2, k3, _⟩ => exact ⟨v1, v2, v3, rfl, k G1 H1 _ (((h1.set_sh k1).set_sh k2).set_sh k3)⟩
/-- xs.append(e), e changes others -/
theorem bk_appendM (i : Nat) {a : Str} {pq : Option Addr} (hg : Γ[i]? = some (.ow (oLst r as) pq)) (he : EvM X Γ Γ' e r x) (hg' : Γ'[i]? = some (.ow (oLst r bs) pq)) (hl : bs.length < sizeLine) (k : Bk X E (Γ'.set i (.ow (oLst r (bs ++ [x])) pq)) rest D)
    (hpe : PE X (.Call (.Attribute (.Name a p) "append" apos) [e] [] cpos) (tBM X.K "list" rAppend (tVar i) (tCons (WE X e) tNil)) := by exact pe_bm PySem.F.plainAttrs_list PySem.F.slot_list_append PySem.F.type_list_append mt_append (pv _) (pa_cons WE.pe pa_nil))
    (hs : swapsWith (.Call (.Attribute (.Name a p) "append" apos) [e] [] cpos) none pos.line X.env = pure false := by rfl) : Bk X E Γ (.Expr (.Call (.Attribute (.Name a p) "append" apos) [e] [] cpos) pos :: rest) D :=
  bk_of (ps_expr hpe hs) fun G H σ hh => by
    obtain ⟨q, o, h1, h2, h3, h4, vs, h5, h6⟩ := hh.ow hg
    subst h5
    refine ⟨_, h1, .inl ⟨rfl, vs, .inl (.inl h4)⟩, he E G H σ hh _ fun v G1 H1 g1 hh1 r1 => ?_⟩
    obtain ⟨q', o', w1, w2, w3, w4, ws, w5, w6⟩ := hh1.ow hg'
    rw [h1] at w1
    cases w1
    subst w5
    refine ⟨q, ws, v, rfl, rfl, w4, by rw [w6.length]; exact hl, ?_⟩
    exact k G1 _ σ (hh1.mut hg' h1 ⟨_, rfl, w6.append (.one r1)⟩)
theorem bk_retM {ps : List Addr} {post : List Oc} (he : EvM X Γ Γ' e r x) (k : RetN E D ps post r x) (hs : Still Γ' 0 ps post) : Bk X E Γ (.Return (some e) pos :: rest) D :=
  bk_of (ps_ret WE.pe) fun G H σ hh => he E G H σ hh _ fun v G1 H1 g1 h1 r1 => k v G1 H1 h1.le (Still.ows h1 hs) r1
end
end Hf

namespace Hf
open PySem PySem.Spec PyProof.Rows L2

/-! ### works: plain data, the law's tuples, the program's objects -/
inductive Pl where
  | leaf (name : Str) (steps : Option Int)
  | lot (row : Bool) (name : Str) (parts : List (Int × Pl))
instance : Inhabited Pl := ⟨.leaf Str.empty none⟩
namespace Pl
def name : Pl → Str
  | leaf n _ => n
  | lot _ n _ => n
def parts : Pl → List (Int × Pl)
  | leaf _ _ => []
  | lot _ _ ps => ps
def steps : Pl → Option Int
  | leaf _ s => s
  | lot _ _ _ => none
def isLeaf : Pl → Bool
  | leaf _ _ => true
  | lot _ _ _ => false
def kind : Pl → Str
  | leaf _ _ => "leaf"
  | lot true _ _ => "row"
  | lot false _ _ => "bundle"
end Pl
def oV : Option Int → V
  | none => .non
  | some i => .int i
/-- the classes of works -/
structure WC where
  L : Addr
  R : Addr
  B : Addr
def WC.of (c : WC) : Pl → Addr
  | .leaf _ _ => c.L
  | .lot true _ _ => c.R
  | .lot false _ _ => c.B
def wkF (n : Str) (h : Addr) (m : V) : List (Str × V) := [("called", .str n), ("held", .ref h), ("many", m)]
mutual
inductive WkAt (K : PySem.W.Frag) (c : WC) (G : Hp) : V → Pl → Prop
  | leaf {a dx h : Addr} {n : Str} {s : Option Int} : G a = some (.ins c.L dx (wkF n h (oV s))) → G h = some (.lst []) → WkAt K c G (.ref a) (.leaf n s)
  | lot {a dx h : Addr} {row : Bool} {n : Str} {vs : List V} {ps : List (Int × Pl)} : G a = some (.ins (c.of (.lot row n ps)) dx (wkF n h .non)) → G h = some (.lst vs) → PtAt K c G vs ps → WkAt K c G (.ref a) (.lot row n ps)
inductive PtAt (K : PySem.W.Frag) (c : WC) (G : Hp) : List V → List (Int × Pl) → Prop
  | nil : PtAt K c G [] []
  | cons {p : Addr} {i : Int} {v : V} {w : Pl} {vs : List V} {ps : List (Int × Pl)} : SqT K G p [.int i, v] → WkAt K c G v w → PtAt K c G vs ps → PtAt K c G (.ref p :: vs) ((i, w) :: ps)
end
mutual
inductive PlAt (K : PySem.W.Frag) (G : Hp) : V → Pl → Prop
  | leaf {a : Addr} {n : Str} {s : Option Int} : SqT K G a [.str "leaf", .str n, oV s] → PlAt K G (.ref a) (.leaf n s)
  | lot {a h : Addr} {row : Bool} {n : Str} {vs : List V} {ps : List (Int × Pl)} : SqT K G a [.str (Pl.lot row n ps).kind, .str n, .ref h] → G h = some (.lst vs) → PpAt K G vs ps → PlAt K G (.ref a) (.lot row n ps)
inductive PpAt (K : PySem.W.Frag) (G : Hp) : List V → List (Int × Pl) → Prop
  | nil : PpAt K G [] []
  | cons {p : Addr} {i : Int} {v : V} {w : Pl} {vs : List V} {ps : List (Int × Pl)} : SqT K G p [.int i, v] → PlAt K G v w → PpAt K G vs ps → PpAt K G (.ref p :: vs) ((i, w) :: ps)
end
section
variable {K : PySem.W.Frag} {c : WC} {G G' : Hp}
mutual
theorem WkAt.mono (e : Ex G G') : ∀ (w : Pl) (v : V), WkAt K c G v w → WkAt K c G' v w
  | .leaf n s, _, h => by
    cases h with
    | leaf h1 h2 => exact .leaf (e _ _ h1) (e _ _ h2)
  | .lot r n ps, _, h => by
    cases h with
    | lot h1 h2 h3 => exact .lot (e _ _ h1) (e _ _ h2) (PtAt.mono e ps _ h3)
theorem PtAt.mono (e : Ex G G') : ∀ (ps : List (Int × Pl)) (vs : List V), PtAt K c G vs ps → PtAt K c G' vs ps
  | [], _, h => by cases h; exact .nil
  | (i, w) :: ps, _, h => by
    cases h with
    | cons h1 h2 h3 => exact .cons (Evl.ex_t e h1) (WkAt.mono e w _ h2) (PtAt.mono e ps _ h3)
end
mutual
theorem PlAt.mono (e : Ex G G') : ∀ (w : Pl) (v : V), PlAt K G v w → PlAt K G' v w
  | .leaf n s, _, h => by
    cases h with
    | leaf h1 => exact .leaf (Evl.ex_t e h1)
  | .lot r n ps, _, h => by
    cases h with
    | lot h1 h2 h3 => exact .lot (Evl.ex_t e h1) (e _ _ h2) (PpAt.mono e ps _ h3)
theorem PpAt.mono (e : Ex G G') : ∀ (ps : List (Int × Pl)) (vs : List V), PpAt K G vs ps → PpAt K G' vs ps
  | [], _, h => by cases h; exact .nil
  | (i, w) :: ps, _, h => by
    cases h with
    | cons h1 h2 h3 => exact .cons (Evl.ex_t e h1) (PlAt.mono e w _ h2) (PpAt.mono e ps _ h3)
end
end
def rWk (K : PySem.W.Frag) (c : WC) : Rp Pl := ⟨WkAt K c, fun {G G' v a} e h => WkAt.mono e a v h⟩
def rPl (K : PySem.W.Frag) : Rp Pl := ⟨PlAt K, fun {G G' v a} e h => PlAt.mono e a v h⟩
theorem ptAt_all {K : PySem.W.Frag} {c : WC} {G : Hp} : ∀ {ps : List (Int × Pl)} {vs : List V}, PtAt K c G vs ps ↔ All2 (rT2 K rInt (rWk K c)) G vs ps
  | [], vs => ⟨fun h => by cases h; exact .nil, fun h => by cases h; exact .nil⟩
  | (i, w) :: ps, vs => ⟨fun h => by
    cases h with
    | cons h1 h2 h3 => exact .cons ⟨_, _, _, rfl, h1, rfl, h2⟩ (ptAt_all.mp h3), fun h => by
    cases h with
    | cons h1 h3 =>
      obtain ⟨p, x, y, e, k1, k2, k3⟩ := h1
      have k2' : x = .int i := k2
      subst e k2'
      exact .cons k1 k3 (ptAt_all.mpr h3)⟩
theorem ppAt_all {K : PySem.W.Frag} {G : Hp} : ∀ {ps : List (Int × Pl)} {vs : List V}, PpAt K G vs ps ↔ All2 (rT2 K rInt (rPl K)) G vs ps
  | [], vs => ⟨fun h => by cases h; exact .nil, fun h => by cases h; exact .nil⟩
  | (i, w) :: ps, vs => ⟨fun h => by
    cases h with
    | cons h1 h2 h3 => exact .cons ⟨_, _, _, rfl, h1, rfl, h2⟩ (ppAt_all.mp h3), fun h => by
    cases h with
    | cons h1 h3 =>
      obtain ⟨p, x, y, e, k1, k2, k3⟩ := h1
      have k2' : x = .int i := k2
      subst e k2'
      exact .cons k1 k3 (ppAt_all.mpr h3)⟩
/-- what the classes are -/
structure WcOk (K : PySem.W.Frag) (c : WC) : Prop where
  cls : ∀ w, Cls K (c.of w)
  called : ∀ w, NoAttr K (c.of w) "called"
  held : ∀ w, NoAttr K (c.of w) "held"
  many : ∀ w, NoAttr K (c.of w) "many"
theorem WkAt.obj {K : PySem.W.Frag} {c : WC} {G : Hp} {v : V} {w : Pl} (h : WkAt K c G v w) : ∃ a dx hd vs, v = .ref a ∧ G a = some (.ins (c.of w) dx (wkF w.name hd (oV w.steps))) ∧ G hd = some (.lst vs) ∧ PtAt K c G vs w.parts := by
  cases h with
  | leaf h1 h2 => exact ⟨_, _, _, _, rfl, h1, h2, .nil⟩
  | lot h1 h2 h3 => exact ⟨_, _, _, _, rfl, h1, h2, h3⟩
section
variable {X : Cx} {Γ : List Slot} {c : WC} {e : Expr} {pos : Pos} {w : Pl}
theorem ev_called (ok : WcOk X.K c) (h : Ev X Γ e (rWk X.K c) w) (hb : attributeBase e "called" X.env (eval e X.env) = eval e X.env := by rfl) : Ev X Γ (.Attribute e "called" pos) rStr w.name := fun E G H σ hh Q q =>
  WE.of (pe_fld WE.pe hb) (h E G H σ hh _ fun v G1 H1 l1 r1 => by
    obtain ⟨a, dx, hd, vs, e1, h1, h2, h3⟩ := r1.obj
    exact ⟨a, _, dx, _, _, e1, l1.gh _ _ h1, ok.cls w, ok.called w, rfl, q _ G1 H1 l1 rfl⟩)
theorem ev_held (ok : WcOk X.K c) (h : Ev X Γ e (rWk X.K c) w) (hb : attributeBase e "held" X.env (eval e X.env) = eval e X.env := by rfl) : Ev X Γ (.Attribute e "held" pos) (rLst (rT2 X.K rInt (rWk X.K c))) w.parts := fun E G H σ hh Q q =>
  WE.of (pe_fld WE.pe hb) (h E G H σ hh _ fun v G1 H1 l1 r1 => by
    obtain ⟨a, dx, hd, vs, e1, h1, h2, h3⟩ := r1.obj
    exact ⟨a, _, dx, _, _, e1, l1.gh _ _ h1, ok.cls w, ok.held w, rfl, q _ G1 H1 l1 ⟨hd, vs, rfl, h2, ptAt_all.mp h3⟩⟩)
theorem ev_many (ok : WcOk X.K c) (h : Ev X Γ e (rWk X.K c) w) (hb : attributeBase e "many" X.env (eval e X.env) = eval e X.env := by rfl) : Ev X Γ (.Attribute e "many" pos) (rOpt rInt) w.steps := fun E G H σ hh Q q =>
  WE.of (pe_fld WE.pe hb) (h E G H σ hh _ fun v G1 H1 l1 r1 => by
    obtain ⟨a, dx, hd, vs, e1, h1, h2, h3⟩ := r1.obj
    refine ⟨a, _, dx, _, _, e1, l1.gh _ _ h1, ok.cls w, ok.many w, rfl, q _ G1 H1 l1 ?_⟩
    cases w.steps with
    | none => rfl
    | some i => rfl)
end
end Hf

namespace Hf
open PySem PySem.Spec PyProof.Rows L2

/-! ### methods -/
/-- the method m of the class at C, as callers see it -/
structure HasM (P : Program) (w : World) (K : PySem.W.Frag) (mg : Str → Option Value) (base : Heap) (C : Addr) (m : Str) (k : Nat) (sp : Sp) : Prop where
  ex : ∃ (f : Addr) (fd : FuncData) (ps : List Str) (spF : Sp) (dvs : List V) (ds : List Value), Cls K C ∧ Meth K C m f ∧ Binds K fd ps ds ∧ Vals dvs ds ∧ FnOk P w K mg base (CXL P w) k f fd ps spF ∧ ∀ vs H Q, sp vs H Q E0 → spF (vs ++ dvs) H Q E0
theorem HasM.mk0 {P : Program} {w : World} {K : PySem.W.Frag} {mg : Str → Option Value} {base : Heap} {C : Addr} {m : Str} {k : Nat} {sp : Sp} {f : Addr} {fd : FuncData} {ps : List Str} (c : Cls K C) (hm : Meth K C m f) (hb : Binds K fd ps []) (F : FnOk P w K mg base (CXL P w) k f fd ps sp) : HasM P w K mg base C m k sp :=
  ⟨f, fd, ps, sp, [], [], c, hm, hb, .nil, F, fun vs H Q h => by rw [List.append_nil]; exact h⟩
theorem HasM.sub {P : Program} {w : World} {K : PySem.W.Frag} {mg : Str → Option Value} {base : Heap} {C : Addr} {m : Str} {k j : Nat} {sp sp' : Sp} (h : HasM P w K mg base C m k sp) (hk : k ≤ j) (hs : ∀ vs H Q, sp' vs H Q E0 → sp vs H Q E0) : HasM P w K mg base C m j sp' := by
  obtain ⟨f, fd, ps, spF, dvs, ds, c, hm, hb, hd, F, hi⟩ := h.ex
  exact ⟨f, fd, ps, spF, dvs, ds, c, hm, hb, hd, F.mono hk, fun vs H Q z => hi vs H Q (hs vs H Q z)⟩
/-- a method of works: for each class the spec holds of the data of this class -/
def HasV (P : Program) (w : World) (K : PySem.W.Frag) (mg : Str → Option Value) (base : Heap) (c : WC) (m : Str) (k : Nat) {ι α : Type} (self : ι → Pl) (Pre : ι → Prop) (args : ι → List Ty) (r : Rp α) (res : ι → α) : Prop :=
  ∀ y, Pre y → HasM P w K mg base (c.of (self y)) m k (PSp (fun z => z = y) (fun z => ⟨rWk K c, self z⟩ :: args z) r res)
section
variable {X : Cx} {Γ : List Slot} {e o : Expr} {es : List Expr} {pos p apos : Pos} {α ι : Type} {r : Rp α} {k j : Nat} {m : Str} {C : Addr} {c : WC} {pl : Sem Bool}
theorem we_meth {sp : Sp} {σ : L2.St} {H : Hp} {Q : VK} (h : HasM X.prog X.w X.K X.mg X.base C m k sp) (hr : Room j X.A) (hk : k ≤ j)
    (ho : WE X o σ H fun x H1 => ∃ a dx fs, x = .ref a ∧ H1 a = some (.ins C dx fs) ∧ fs.lookup m = none ∧ WA X (e :: es) σ H1 fun vs H2 => sp (x :: vs) H2 Q E0)
    (hst : starEach (e :: es) X.env = (false, eval e X.env) :: starEach es X.env := by rfl) (hpl : (backTo pos (starEach es X.env)).any (·.1) = false := by rfl)
    (ht : eval (.Call (.Attribute o m apos) (e :: es) [] pos) X.env = (do
      let ov ← eval o X.env
      standAt apos.atName
      let (f, first) ← holding [ov] (getMethod ov m pl)
      callWith pos f first (backTo pos (starEach (e :: es) X.env)) (backToKw pos (keywordEach [] X.env))) := by rfl) : WE X (.Call (.Attribute o m apos) (e :: es) [] pos) σ H Q := by
  obtain ⟨f0, fd, ps, spF, dvs, ds, c, hm, hb, hd, F, hi⟩ := h.ex
  refine WE.of (pe_meth WE.pe c hm F (hr.mono hk) hb hd passL WA.pa hst hpl ht) ?_
  exact ⟨fun pins s I => thn (ho.run pins s I) fun u s1 ⟨x, H1, I1, r1, a, dx, fs, e1, e2, l, q⟩ => ⟨x, H1, I1, r1, a, dx, fs, e1, e2, l, ⟨fun pos pins s I => thn (q.run pos pins s I) fun us s1 ⟨vs, H1, I1, r1, q⟩ => ⟨vs, H1, I1, r1, hi (x :: vs) H1 Q q⟩⟩⟩⟩
theorem we_meth0 {sp : Sp} {σ : L2.St} {H : Hp} {Q : VK} (h : HasM X.prog X.w X.K X.mg X.base C m k sp) (hr : Room j X.A) (hk : k ≤ j)
    (ho : WE X o σ H fun x H1 => ∃ a dx fs, x = .ref a ∧ H1 a = some (.ins C dx fs) ∧ fs.lookup m = none ∧ sp [x] H1 Q E0)
    (ht : eval (.Call (.Attribute o m apos) [] [] pos) X.env = (do
      let ov ← eval o X.env
      standAt apos.atName
      let (f, first) ← holding [ov] (getMethod ov m pl)
      callWith pos f first (backTo pos (starEach [] X.env)) (backToKw pos (keywordEach [] X.env))) := by rfl) : WE X (.Call (.Attribute o m apos) [] [] pos) σ H Q := by
  obtain ⟨f0, fd, ps, spF, dvs, ds, c, hm, hb, hd, F, hi⟩ := h.ex
  refine WE.of (pe_meth0 WE.pe c hm F (hr.mono hk) hb hd passL ht) ?_
  exact ⟨fun pins s I => thn (ho.run pins s I) fun u s1 ⟨x, H1, I1, r1, a, dx, fs, e1, e2, l, q⟩ => ⟨x, H1, I1, r1, a, dx, fs, e1, e2, l, hi [x] H1 Q q⟩⟩
end
end Hf

namespace Hf
open PySem PySem.Spec PyProof.Rows L2
section
variable {X : Cx} {Γ : List Slot} {e o : Expr} {es : List Expr} {pos p apos : Pos} {α ι : Type} {r : Rp α} {k j : Nat} {m : Str} {C : Addr} {c : WC} {pl : Sem Bool} {self : ι → Pl} {Pre : ι → Prop} {args : ι → List Ty} {res : ι → α} {z : α}
/-- w.m(e, ..) of a work -/
theorem ev_vm (h : HasV X.prog X.w X.K X.mg X.base c m k self Pre args r res) (hr : Room j X.A) (hk : k ≤ j) (y : ι) (hp : Pre y) (ho : Ev X Γ o (rWk X.K c) (self y)) (ha : EvA X Γ (e :: es) (args y)) (hz : res y = z := by rfl)
    (hf : ∀ n hd v, (wkF n hd v).lookup m = none := by intro _ _ _; rfl)
    (hst : starEach (e :: es) X.env = (false, eval e X.env) :: starEach es X.env := by rfl) (hpl : (backTo pos (starEach es X.env)).any (·.1) = false := by rfl)
    (ht : eval (.Call (.Attribute o m apos) (e :: es) [] pos) X.env = (do
      let ov ← eval o X.env
      standAt apos.atName
      let (f, first) ← holding [ov] (getMethod ov m pl)
      callWith pos f first (backTo pos (starEach (e :: es) X.env)) (backToKw pos (keywordEach [] X.env))) := by rfl) : Ev X Γ (.Call (.Attribute o m apos) (e :: es) [] pos) r z := fun E G H σ hh Q q =>
  we_meth (h y hp) hr hk (ho E G H σ hh _ fun v G1 H1 l1 r1 => by
    obtain ⟨a, dx, hd, vs, e1, h1, h2, h3⟩ := WkAt.obj r1
    subst e1
    refine ⟨a, dx, _, rfl, l1.gh _ _ h1, hf _ _ _, ha E G1 H1 σ (hh.step l1) _ fun us G2 H2 l2 a2 => ?_⟩
    exact ⟨y, G2, rfl, l2.gh, ⟨(rWk X.K c).mono l2.g r1, a2⟩, fun u G3 H3 l3 r3 => q u G3 H3 ((l1.trans l2).trans l3) (hz ▸ r3)⟩) hst hpl ht
theorem ev_vm0 (h : HasV X.prog X.w X.K X.mg X.base c m k self Pre args r res) (hr : Room j X.A) (hk : k ≤ j) (y : ι) (hp : Pre y) (ho : Ev X Γ o (rWk X.K c) (self y)) (ha : args y = []) (hz : res y = z := by rfl)
    (hf : ∀ n hd v, (wkF n hd v).lookup m = none := by intro _ _ _; rfl)
    (ht : eval (.Call (.Attribute o m apos) [] [] pos) X.env = (do
      let ov ← eval o X.env
      standAt apos.atName
      let (f, first) ← holding [ov] (getMethod ov m pl)
      callWith pos f first (backTo pos (starEach [] X.env)) (backToKw pos (keywordEach [] X.env))) := by rfl) : Ev X Γ (.Call (.Attribute o m apos) [] [] pos) r z := fun E G H σ hh Q q =>
  we_meth0 (h y hp) hr hk (ho E G H σ hh _ fun v G1 H1 l1 r1 => by
    obtain ⟨a, dx, hd, vs, e1, h1, h2, h3⟩ := WkAt.obj r1
    subst e1
    refine ⟨a, dx, _, rfl, l1.gh _ _ h1, hf _ _ _, y, G1, rfl, l1.gh, ⟨r1, by rw [ha]; trivial⟩, fun u G3 H3 l3 r3 => q u G3 H3 (l1.trans l3) (hz ▸ r3)⟩) ht
end
/-! ### an instance that is being made -/
def oIns (C : Addr) (ns : List Str) (ts : List Ty) : Oc := ⟨fun G o => ∃ dx vs, o = .ins C dx (ns.zip vs) ∧ Args G vs ts ∧ ns.length = ts.length, fun e ⟨dx, vs, h1, h2, h3⟩ => ⟨dx, vs, h1, Args.mono e h2, h3⟩⟩
theorem putF_new {f : Str} {v : V} : ∀ {ns : List Str} {vs : List V}, f ∉ ns → ns.length = vs.length → putF f v (ns.zip vs) = (ns ++ [f]).zip (vs ++ [v])
  | [], [], _, _ => rfl
  | n :: ns, u :: vs, h, l => by
    simp only [List.mem_cons, not_or] at h
    show (if n = f then (n, v) :: ns.zip vs else (n, u) :: putF f v (ns.zip vs)) = (n, u) :: (ns ++ [f]).zip (vs ++ [v])
    rw [if_neg (fun z => h.1 z.symm), putF_new h.2 (by simpa using l)]
section
variable {X : Cx} {E : Ent} {Γ : List Slot} {D : Ends} {e o : Expr} {rest : List Stmt} {pos p p2 : Pos} {α : Type} {r : Rp α} {x : α}
/-- self.f = e, a field more -/
theorem bk_fld (i : Nat) {a f : Str} {C : Addr} {ns : List Str} {ts : List Ty} {pq : Option Addr} (cl : Cls X.K C) (na : NoAttr X.K C f) (hg : Γ[i]? = some (.ow (oIns C ns ts) pq)) (he : Ev X Γ e r x) (hn : f ∉ ns) (hl : ns.length < 1000) (k : Bk X E (Γ.set i (.ow (oIns C (ns ++ [f]) (ts ++ [⟨r, x⟩])) pq)) rest D)
    (hN : X.N[i]? = some a := by rfl) (hv : Vis X.env.scope a := by first | exact Or.inl rfl | exact Or.inr (Or.inl rfl) | exact Or.inr (Or.inr rfl)) (hd : (a == ("__debug__" : Str)) = false := by decide) (hcd : (a == ("__classdict__" : Str)) = false := by decide)
    (hs : swapsWith e (some (.Attribute (.Name a p) f p2)) pos.line X.env = pure false := by rfl) : Bk X E Γ (.Assign [.Attribute (.Name a p) f p2] e pos :: rest) D :=
  bk_of (ps_fld (pe_var hN hv hd hcd) WE.pe hs) fun G H σ hh => he E G H σ hh _ fun v G1 H1 l1 r1 => by
    have h1 := hh.step l1
    obtain ⟨q, ob, w1, w2, w3, w4, dx, vs, w5, w6, w7⟩ := h1.ow hg
    subst w5
    refine ⟨_, w1, q, C, dx, _, rfl, w4, cl, na, by rw [List.length_zip]; omega, ?_⟩
    have lv : ns.length = vs.length := by rw [args_length w6]; exact w7
    refine k G1 _ σ (h1.mut hg w1 ⟨dx, vs ++ [v], by rw [putF_new hn lv], args_app (t := ⟨r, x⟩) r1 w6, by simp [w7]⟩)
end
end Hf

namespace Hf
open PySem PySem.Spec PyProof.Rows L2 ClX
/-- the def f reached through its class: C.m(x, ..) -/
structure Unb (K : PySem.W.Frag) (C : Addr) (m : Str) (f : Addr) : Prop where
  rd : ∃ mc, CRead K C mc ∧ PySem.W.findCls K (.ref C) mc m = some (.val (.ref f))
  kp : PySem.W.keepIn K (.ref f) = true
def tUnb (C : Addr) (sp : Sp) (dvs : List V) (E : XK) (ta : TE) (t : TA) : TE := fun σ H Q => ta σ H fun x H1 => x = .ref C ∧ t σ H1 fun vs H2 => sp (vs ++ dvs) H2 Q E
section
variable {X : Cx} {CX : CXT} {k : Nat} {f C : Addr} {fd : FuncData} {ps : List Str} {sp : Sp} {dvs : List V} {ds : List Value} {E : XK} {m : Str} {pos apos : Pos} {e o : Expr} {es : List Expr} {ta : TE} {t : TA} {pl : Sem Bool}
theorem pe_unb (he : PE X o ta) (u : Unb X.K C m f) (F : FnOk X.prog X.w X.K X.mg X.base CX k f fd ps sp) (hr : Room k X.A) (hb : Binds X.K fd ps ds) (hd : Vals dvs ds) (hx : Passes CX X E) (ha : PA X (e :: es) t)
    (hst : starEach (e :: es) X.env = (false, eval e X.env) :: starEach es X.env := by rfl) (hpl : (backTo pos (starEach es X.env)).any (·.1) = false := by rfl)
    (ht : eval (.Call (.Attribute o m apos) (e :: es) [] pos) X.env = (do
      let ov ← eval o X.env
      standAt apos.atName
      let (f, first) ← holding [ov] (getMethod ov m pl)
      callWith pos f first (backTo pos (starEach (e :: es) X.env)) (backToKw pos (keywordEach [] X.env))) := by rfl) :
    PE X (.Call (.Attribute o m apos) (e :: es) [] pos) (tUnb C sp dvs E ta t) := by
  obtain ⟨mc, r, at_⟩ := u.rd
  refine ⟨fun pins s σ H Q I h => PySem.W.methodCall_KW (pl := pl) (thn (he.run pins s σ H _ I h) fun v s1 ⟨x, H1, I1, rx, ex, q⟩ => ?_) ht⟩
  subst ex
  have ev : v = Value.ref C := rx
  subst ev
  refine PySem.W.method_cls I1.kIn r.ga (PySem.W.cls_value I1.kIn r.rd at_ (handed_of (v := .ref f) rfl) ?_)
  have I2 := I1.tok (s1.toks + 1)
  exact PySem.W.callWith_K (first := []) (h₀ := X.base) I2.ok.mod.kin u.kp (thn (ha.run pos pins _ σ H1 _ I2 q) fun us s2 ⟨vs, H2, I3, r3, q2⟩ => ⟨I3.kIn, run_fn F hr hb hd hx I3 r3 q2⟩) hst hpl
end
end Hf

/-! len(set(list of texts)) -/
namespace Hf
open PySem PySem.Spec PyProof.Rows L2 PySem.W PySem.Calls
def dups (l : List Str) : List Str := l.foldl (fun a x => if decide (x ∈ a) = true then a else a ++ [x]) []
theorem dups_snoc (l : List Str) (x : Str) : dups (l ++ [x]) = if decide (x ∈ dups l) = true then dups l else dups l ++ [x] := by
  unfold dups
  rw [List.foldl_append]
  rfl
theorem dups_mem {x : Str} {l : List Str} : x ∈ dups l ↔ x ∈ l := by
  have h : ∀ n, ∀ l : List Str, l.length = n → (x ∈ dups l ↔ x ∈ l) := fun n => by
    induction n with
    | zero => intro l hl; rw [List.length_eq_zero_iff.mp hl]; rfl
    | succ n ih =>
      intro l hl
      obtain ⟨m, z, rfl⟩ : ∃ m z, l = m ++ [z] := ⟨l.dropLast, l.getLast (by intro q; rw [q] at hl; simp at hl), (List.dropLast_concat_getLast _).symm⟩
      have hm : m.length = n := by simp at hl; omega
      have k := ih m hm
      rw [dups_snoc]
      split
      · rename_i q
        have q' : z ∈ dups m := of_decide_eq_true q
        rw [k]
        simp only [List.mem_append, List.mem_singleton]
        constructor
        · exact .inl
        · rintro (y | y)
          · exact y
          · rw [← k, y]; exact q'
      · simp only [List.mem_append, List.mem_singleton, k]
  exact h _ l rfl
section
variable {P : Program} {w : World} {A : Around}
theorem upd_txt {I : Addr} {fp wr : List Addr} {G : Array GenState → Array GenState → Prop} {n : Nat} {Pv : Nat → Value → Prop} {St : Nat → Shared → Prop} {R : Result → Shared → Prop}
    (W : WalksS P w A.in1 I fp wr G n Pv St) (S : Addr) (hf : S ∉ fp) (ks : List Str) (hn : n = ks.length) (hb : ks.length + 1 < scanBound) (hv : ∀ i v, Pv i v → ∃ k t, ks[i]? = some k ∧ v = .str k t) :
    ∀ (d i : Nat) (s : Shared), n - i = d → i ≤ n → St i s → s.heap.SetOf (strKind P w) S (fun j => decide (j ∈ dups (ks.take i))) (dups (ks.take i)).length →
      (∀ u, Moved (S :: wr) G s u → u.heap.SetOf (strKind P w) S (fun j => decide (j ∈ dups ks)) (dups ks).length → R (.ok (.ret .none)) u) →
      codeAny (model P w) A (.builtin "set.update.loop" ⟨[.ref S, .ref I], []⟩) R s := by
  have nw : S ∉ wr := fun h => hf (W.sub _ h)
  have more : ∀ b ∈ wr, b ∈ S :: wr := fun b h => .tail _ h
  have at' : ∀ {g g' : Heap} {f : Str → Bool} {c : Nat}, (∀ o, g.get? S = some o → g'.get? S = some o) → g.SetOf (strKind P w) S f c → g'.SetOf (strKind P w) S f c := fun k ⟨o, es, ep, t, ho, z⟩ => ⟨o, es, ep, t, k o ho, z⟩
  intro d
  induction d with
  | zero =>
    intro i s hd hi st hS hR
    have e : i = n := by omega
    subst e
    refine codeAny_builtin PyProof.Rows.F.entry_set_update_loop ?_
    rw [Around.under_plainId PyProof.Rows.F.plain_set_update_loop _]
    refine (show wpAny _ A.in1 (pyNext (.ref I) >>= _) _ _ s from wpAny_bind (W.done s _ _ st fun u hm => ?_))
    rw [List.take_of_length_le (by omega)] at hS
    exact (show wpAny _ A.in1 (ret Value.none) _ _ u from wpAny_pure (hR u (hm.mono more) (at' (fun o => hm.heap S o nw) hS)))
  | succ d ih =>
    intro i s hd hi st hS hR
    have lt : i < n := by omega
    refine codeAny_builtin PyProof.Rows.F.entry_set_update_loop ?_
    rw [Around.under_plainId PyProof.Rows.F.plain_set_update_loop _]
    refine (show wpAny _ A.in1 (pyNext (.ref I) >>= _) _ _ s from wpAny_bind (W.item i s _ _ lt st fun v u hp st' hm => ?_))
    obtain ⟨z, t, hz, rfl⟩ := hv i v hp
    have hS' := at' (fun o => hm.heap S o nw) hS
    refine (show wpAny _ A.in1 (holding [Value.str z t] (setAdd S (.str z t)) >>= _) _ _ u from wpAny_bind (wpAny_holding ?_))
    unfold setAdd
    have dl : (dups (ks.take i)).length ≤ i := by
      have h : ∀ m, ∀ l : List Str, l.length = m → (dups l).length ≤ m := fun m => by
        induction m with
        | zero => intro l hl; rw [List.length_eq_zero_iff.mp hl]; exact Nat.le_refl _
        | succ m ih2 =>
          intro l hl
          obtain ⟨m', z', rfl⟩ : ∃ m z, l = m ++ [z] := ⟨l.dropLast, l.getLast (by intro q; rw [q] at hl; simp at hl), (List.dropLast_concat_getLast _).symm⟩
          have := ih2 m' (by simp at hl; omega)
          rw [dups_snoc]
          split
          · omega
          · rw [List.length_append, List.length_singleton]; omega
      have := h _ (ks.take i) rfl
      rw [List.length_take] at this
      omega
    refine wpAny_holding (wpAny_bind ((strKind P w).pyHash (k := z) (strKind_is _ _ z t) ?_))
    refine wpAny_setAddHashed_of (knd := strKind P w) (s := { u with toks := u.toks + 1 }) (strKind_is _ _ z t) rfl hS' (by omega) fun g' hsb hS2 => ?_
    have tk : ks.take (i + 1) = ks.take i ++ [z] := by
      rw [List.take_add_one, hz]; rfl
    have hS3 : g'.SetOf (strKind P w) S (fun j => decide (j ∈ dups (ks.take (i + 1)))) (dups (ks.take (i + 1))).length := by
      refine SetOf_congr hS2 (fun j => ?_) ?_
      · rw [tk, dups_snoc]
        split
        · rename_i q
          by_cases y : j = z
          · subst y; simp [q]
          · simp [y]
        · simp
      · rw [tk, dups_snoc]
        split <;> simp
    refine wpAny_pure ⟨plainId_quiet PyProof.Rows.F.plain_set_update_loop _, ih (i + 1) _ (by omega) lt (W.frame _ u _ _ st' (Nat.le_succ _) fun b hb o e => ?_) hS3 fun u2 m2 hS4 => ?_⟩
    · rw [hsb.2 b (fun h => hf (h ▸ hb))]; exact e
    · refine hR u2 (Moved.trans W.gtrans ((hm.mono more).then_heap (Nat.le_succ _) fun b o hb e => ?_) m2) hS4
      rw [hsb.2 b (fun h => hb (h ▸ .head _))]; exact e
end
end Hf

namespace Hf
open PySem PySem.Spec PyProof.Rows L2 PySem.W PySem.Calls
theorem strs_at : ∀ {vs : List Value} {ns : List Str}, StrsAre vs ns → ∀ (i : Nat) (v : Value), vs[i]? = some v → ∃ k t, ns[i]? = some k ∧ v = .str k t
  | _, _, .cons k t h, 0, v, e => by cases e; exact ⟨k, t, rfl, rfl⟩
  | _, _, .cons k t h, i + 1, v, e => strs_at h i v e
  | _, _, .nil, i, v, e => by simp at e
theorem strs_len : ∀ {vs : List Value} {ns : List Str}, StrsAre vs ns → vs.length = ns.length
  | _, _, .nil => rfl
  | _, _, .cons k t h => by rw [List.length_cons, List.length_cons, strs_len h]
theorem setTxt_new {P : Program} {w : World} {g : Heap} {a : Addr} (h : g.get? a = some (nset w)) : g.SetOf (strKind P w) a (fun j => decide (j ∈ dups (([] : List Str)))) (dups ([] : List Str)).length :=
  ⟨_, #[], 0, _, h, ⟨rfl, rfl, rfl⟩, rfl, fun e he => by simp at he, fun k => by simp [dups], by decide, rfl, rfl⟩
section
variable {P : Program} {w : World} {A : Around} {E : Value → Shared → Prop} {s : Shared}
set_option maxHeartbeats 3200000 in
theorem set_of_txts {l : Addr} {items : Array Value} (ns : List Str) {Q : Value → Shared → Prop} (nh : A.handled = none) (hl : s.heap.IsList l items) (it : StrsAre items.toList ns) (fit : ns.length + 1 < scanBound)
    (k : ∀ (g : Heap) (tk : Nat), g.SetOf (strKind P w) s.heap.objs.size (fun j => decide (j ∈ dups ns)) (dups ns).length → (∀ b o, s.heap.get? b = some o → g.get? b = some o) → Q (.ref s.heap.objs.size) { s with heap := g, toks := tk }) :
    wpAny (model P w) A (call (.type "set") [.ref l]) Q E s := by
  have sz : items.size = ns.length := by have q := strs_len it; rw [Array.length_toList] at q; exact q
  have fs := F.called_set
  obtain ⟨mc, mt, hmro⟩ := fs.mro
  have x1 := fs.made; have x2 := fs.sub; have x3 := fs.notType; have x4 := fs.canCreate
  refine wpAny_call (codeAny_of_tree (wpAny_pure (show _ ∧ _ from ⟨Code.quiet_builtin _ (by decide +kernel), codeAny_builtin F.entry_type_call ?_⟩)))
  rw [Around.under_plain (weight_type_call_type "set" [.ref l] []) rfl]
  have x5 := F.typeCall_set_1 (.ref l)
  repeat (any_goals (first | assumption | wp_step))
  refine codeAny_mono (code_set_led1 (.ref l) (E := E) (Q₁ := fun ob u => ob = .ref s.heap.objs.size ∧ u = { s with heap := s.heap.push (nset w) }) ⟨rfl, rfl⟩) fun r u hr => ?_
  match r, hr with
  | .error e, hr => exact hr
  | .ok (.ret ob), hr =>
    obtain ⟨e1, e2⟩ := hr
    subst e1; subst e2
    have hS : (s.heap.push (nset w)).get? s.heap.objs.size = some (nset w) := Heap.get?_push_size _ rfl
    have hT : Shared.TypeIs { s with heap := s.heap.push (nset w) } (.ref s.heap.objs.size) "set" := ⟨_, hS, rfl⟩
    have x6 := fs.init.lookup; have x7 := fs.init.bind (.ref s.heap.objs.size)
    repeat (any_goals (first | assumption | wp_step))
    refine codeAny_mono (codeAny_call_builtin (R := wants (fun r s₂ => r = .none ∧ ∃ g tk, s₂ = { s with heap := g, toks := tk } ∧ g.SetOf (strKind P w) s.heap.objs.size (fun j => decide (j ∈ dups ns)) (dups ns).length ∧
        (∀ b o, s.heap.get? b = some o → g.get? b = some o)) E) fs.init.plain F.entry_set_init (check_set_init_1 hT ?_)) fun r₂ s₂ hr₂ => ?_
    · obtain ⟨⟨ocls, odict, odata, oslots⟩, hol, hcl, nl, hdl⟩ := hl
      simp only at hcl hdl
      subst hcl; subst hdl
      have hl1 : (s.heap.push (nset w)).IsList l items := ⟨_, Heap.get?_push_of_some _ hol, rfl, nl, rfl⟩
      have hol' : (s.heap.push (nset w)).get? l = some { cls := .type "list", dict := odict, data := .seq items nl, slots := oslots } := Heap.get?_push_of_some _ hol
      have y1 := F.sub_list_set; have y2 := F.sub_list_frozenset
      have y3 : (Value.type "list" == Value.type "dict") = false := by decide
      unfold Builtin.«set.__init__» noKeywords Builtin.Frozenset.updateFrom
      generalize hPI : pyIter = PI
      wp_walk
      subst hPI
      refine wpAny_pyIter_list hl1 (wpAny_bind (wpAny_runValue ?_))
      have ls : l < s.heap.objs.size := Heap.lt_size hol
      have pz : (s.heap.push (nset w)).objs.size = s.heap.objs.size + 1 := Heap.size_push ..
      have hh3 : A.in1.in1.in1.handled = none := by simp [nh]
      refine upd_txt ((Walks.list hh3 (s.heap.push (nset w)).objs.size l (by rw [pz]; exact Nat.ne_of_lt (Nat.lt_succ_of_lt ls)) items).toS) s.heap.objs.size
        (by rw [pz]; simp only [List.mem_cons, List.not_mem_nil, or_false, not_or]; exact ⟨Nat.ne_of_lt (Nat.lt_succ_self _), Nat.ne_of_gt ls⟩) ns sz fit (fun i v hv => ?hval) (items.size - 0) 0 _ (by omega) (Nat.zero_le _) ⟨⟨_, Heap.get?_push_size _ rfl, rfl, rfl⟩, hl1.push _⟩ (setTxt_new (Heap.get?_push_of_some _ hS)) fun s' hm hS' => ?_
      case hval =>
        have hi : i < ns.length := by rw [← sz]; exact (Array.getElem?_eq_some_iff.mp hv).1
        exact strs_at it i v (by rw [Array.getElem?_toList]; exact hv)
      obtain ⟨g, g2, d', tk, os'⟩ := s'
      have eg : g2 = s.gens := hm.gens
      have ed : d' = s.drawn := hm.drawn
      have eo : os' = s.os := hm.os
      subst eg; subst ed; subst eo
      refine wpAny_pure (show wpAny _ _ (ret Value.none) _ _ _ from wpAny_pure ⟨rfl, g, tk, rfl, hS', fun b o e => ?_⟩)
      have hb0 : b < s.heap.objs.size := Heap.lt_size e
      exact hm.heap b o (by rw [pz]; simp only [List.mem_cons, List.not_mem_nil, or_false, not_or]; exact ⟨Nat.ne_of_lt hb0, Nat.ne_of_lt (Nat.lt_succ_of_lt hb0)⟩) (Heap.get?_push_of_some _ (Heap.get?_push_of_some _ e))
    · match r₂, hr₂ with
      | .error e, hr₂ => exact hr₂
      | .ok (.ret r), hr₂ =>
        obtain ⟨e1, g, tk, e2, hS', hk'⟩ := hr₂
        subst e1; subst e2
        repeat (any_goals (first | assumption | wp_step))
        exact k _ _ hS' hk'
end
end Hf

namespace Hf
open PySem PySem.Spec PyProof.Rows L2
def tLenTxt (K : PySem.W.Frag) (ta : TE) : TE := fun σ H Q => ta σ H fun x H1 => ∃ (l : Addr) (xs : List Str), x = .ref l ∧ SqL K H1 l (xs.map V.str) ∧ xs.length + 1 < scanBound ∧ Q (.int ((dups xs).length : Nat)) H1
theorem strsAre_vals : ∀ {ys : List Str} {us : List Value}, Vals (ys.map V.str) us → StrsAre us ys
  | [], _, .nil => .nil
  | y :: ys, _, .cons r t => by
    obtain ⟨k, rfl⟩ := r
    exact .cons y k (strsAre_vals t)
section
variable {X : Cx} {Γ : List Slot} {a e : Expr} {ta : TE} {p p2 q pos : Pos} {xs : List Str}
theorem pe_lenTxt (hg : Gl X "len") (hm : X.mg "len" = none) (hg2 : Gl X "set") (hm2 : X.mg "set" = none) (ha : PE X a ta) (hc : X.calm = true := by rfl)
    (na : starEach [a] X.env = (false, eval a X.env) :: starEach [] X.env := by rfl) : PE X (.Call (.Name "len" p) [.Call (.Name "set" p2) [a] [] q] [] pos) (tLenTxt X.K ta) := by
  constructor
  intro pins s σ H Q I h
  refine Call_ (ld_blt I hg hm boot_len (PyProof.Rows.callWith_builtin1 (PyProof.Rows.args_cons (Call_ (ld_blt I hg2 hm2 boot_set ?_)) rfl) rfl rfl))
  refine PyProof.Rows.callWith_type1 (PyProof.Rows.args_cons (thn (ha.run pins s σ H _ I h) fun v s1 ⟨x, H1, I1, r1, l, xs, ex, hq, fit, q1⟩ => PyProof.Rows.args_nil ?_) na) na rfl
  subst ex
  cases r1
  obtain ⟨its, r, pl, hz⟩ := I1.list hq
  refine set_of_txts (P := X.prog) (w := X.w) xs (I1.ok.hd hc) pl.isList (by simpa using strsAre_vals r) fit fun g tk hS hk => ?_
  refine PyProof.Rows.args_nil ?_
  obtain ⟨o, es, ep, t, ho, hex, hd, _, _, hb, hf, hn⟩ := hS
  have sb : scanBound = 4096 := rfl
  have I2 : Inv X pins σ H1 { s1 with heap := g, toks := tk } := I1.kept hk
  exact call_len_set ho hex hd hf (by omega) ⟨.int ((dups xs).length : Nat), H1, I2.tok _, ⟨_, by rw [hn]⟩, q1⟩
theorem ev_lenTxt (hl : xs.length + 1 < scanBound) (h : EvB X Γ e (oLst rStr xs)) (hm : X.mg "len" = none) (hm2 : X.mg "set" = none) (hg : Gl X "len" := by rfl) (hg2 : Gl X "set" := by rfl) (hc : X.calm = true := by rfl)
    (na : starEach [e] X.env = (false, eval e X.env) :: starEach [] X.env := by rfl) : Ev X Γ (.Call (.Name "len" p) [.Call (.Name "set" p2) [e] [] q] [] pos) rInt ((dups xs).length : Int) := fun E G H σ hh Q k =>
  WE.of (pe_lenTxt hg hm hg2 hm2 WE.pe hc na) (h E G H σ hh _ fun p1 o G1 H1 l1 hp ⟨vs, e1, ha⟩ => by
    subst e1
    rw [all2_str ha] at hp
    exact ⟨p1, xs, rfl, .inl (.inl hp), hl, k _ G1 H1 l1 rfl⟩)
end
theorem dups_nodup {l : List Str} (h : l.Nodup) : dups l = l := by
  have k : ∀ n, ∀ l : List Str, l.length = n → l.Nodup → dups l = l := fun n => by
    induction n with
    | zero => intro l hl _; rw [List.length_eq_zero_iff.mp hl]; rfl
    | succ n ih =>
      intro l hl nd
      obtain ⟨m, z, rfl⟩ : ∃ m z, l = m ++ [z] := ⟨l.dropLast, l.getLast (by intro q; rw [q] at hl; simp at hl), (List.dropLast_concat_getLast _).symm⟩
      have hm : m.length = n := by simp at hl; omega
      obtain ⟨n1, _, n3⟩ := List.nodup_append.mp nd
      rw [dups_snoc, ih m hm n1, if_neg]
      simp only [decide_eq_true_eq]
      exact fun y => n3 z y z (by simp) rfl
  exact k _ l rfl h
end Hf

namespace Hf
open PySem PySem.Spec PyProof.Rows L2

/-! ### parameters in any order: one's own objects and what is read -/
inductive Par : Type 1 where
  | ow (c : Oc)
  | ty (t : Ty)
def Fits (G H : Hp) : List V → List Par → List Addr → Prop
  | [], [], [] => True
  | v :: vs, .ty t :: ps, as => t.r.rel G v t.a ∧ Fits G H vs ps as
  | v :: vs, .ow c :: ps, a :: as => (v = .ref a ∧ G a = none ∧ ∃ o, H a = some o ∧ c.rel G o) ∧ Fits G H vs ps as
  | _, _, _ => False
theorem Fits.step {G H G' H' : Hp} (l : Le G H G' H') : ∀ {vs : List V} {ps : List Par} {as : List Addr}, Fits G H vs ps as → Fits G' H' vs ps as
  | [], [], [], _ => trivial
  | [], [], _ :: _, h => h.elim
  | [], _ :: _, _, h => h.elim
  | _ :: _, [], _, h => h.elim
  | v :: vs, .ty t :: ps, as, h => ⟨t.r.mono l.g h.1, Fits.step l h.2⟩
  | v :: vs, .ow c :: ps, [], h => h.elim
  | v :: vs, .ow c :: ps, a :: as, ⟨⟨h1, h2, o, h3, h4⟩, h5⟩ => ⟨⟨h1, l.keepO h3 h2, o, l.h _ _ h3, c.mono l.g h4⟩, Fits.step l h5⟩
theorem Fits.length {G H : Hp} : ∀ {vs : List V} {ps : List Par} {as : List Addr}, Fits G H vs ps as → vs.length = ps.length
  | [], [], [], _ => rfl
  | [], [], _ :: _, h => h.elim
  | [], _ :: _, _, h => h.elim
  | _ :: _, [], _, h => h.elim
  | v :: vs, .ty t :: ps, as, h => congrArg (· + 1) (Fits.length h.2)
  | v :: vs, .ow c :: ps, [], h => h.elim
  | v :: vs, .ow c :: ps, a :: as, h => congrArg (· + 1) (Fits.length h.2)
theorem Fits.mem {G H : Hp} : ∀ {vs : List V} {ps : List Par} {as : List Addr}, Fits G H vs ps as → ∀ a ∈ as, G a = none ∧ ∃ o, H a = some o
  | [], [], [], _, a, m => by simp at m
  | [], [], _ :: _, h, _, _ => h.elim
  | [], _ :: _, _, h, _, _ => h.elim
  | _ :: _, [], _, h, _, _ => h.elim
  | v :: vs, .ty t :: ps, as, h, a, m => Fits.mem h.2 a m
  | v :: vs, .ow c :: ps, [], h, _, _ => h.elim
  | v :: vs, .ow c :: ps, b :: as, ⟨⟨_, h2, o, h3, _⟩, h5⟩, a, m => by
    rcases List.mem_cons.mp m with rfl | m
    · exact ⟨h2, o, h3⟩
    · exact Fits.mem h5 a m
/-- a def that changes what is handed in -/
def MSp {ι α : Type} (Pre : ι → Prop) (pars : ι → List Par) (r : Rp α) (res : ι → α) (post : ι → List Oc) : Sp := fun vs H Q E =>
  ∃ (y : ι) (G : Hp) (as : List Addr), Pre y ∧ Ex G H ∧ as.Nodup ∧ Fits G H vs (pars y) as ∧
    ∀ v G' H', LeE G H (fun p => p ∈ as) G' H' → Ows G' H' as (post y) → r.rel G' v (res y) → Q v H'
def slotsP : List Par → List Addr → List Slot
  | .ty t :: ps, as => .sh t.r t.a :: slotsP ps as
  | .ow c :: ps, a :: as => .ow c (some a) :: slotsP ps as
  | _, _ => []
theorem slotsP_len {G H : Hp} : ∀ {vs : List V} {ps : List Par} {as : List Addr}, Fits G H vs ps as → (slotsP ps as).length = ps.length
  | [], [], [], _ => rfl
  | [], [], _ :: _, h => h.elim
  | [], _ :: _, _, h => h.elim
  | _ :: _, [], _, h => h.elim
  | v :: vs, .ty t :: ps, as, h => congrArg (· + 1) (slotsP_len h.2)
  | v :: vs, .ow c :: ps, [], h => h.elim
  | v :: vs, .ow c :: ps, a :: as, h => congrArg (· + 1) (slotsP_len h.2)
theorem slotsP_get {G H : Hp} : ∀ {vs : List V} {ps : List Par} {as : List Addr} {i : Nat} {s : Slot}, Fits G H vs ps as → (slotsP ps as)[i]? = some s →
    (∃ (α : Type) (r : Rp α) (a : α) (v : V), s = .sh r a ∧ vs[i]? = some v ∧ r.rel G v a) ∨ ∃ c a o, s = .ow c (some a) ∧ vs[i]? = some (.ref a) ∧ a ∈ as ∧ G a = none ∧ H a = some o ∧ c.rel G o
  | [], [], [], i, s, _, e => by simp [slotsP] at e
  | [], [], _ :: _, _, _, h, _ => h.elim
  | [], _ :: _, _, _, _, h, _ => h.elim
  | _ :: _, [], _, _, _, h, _ => h.elim
  | v :: vs, .ty t :: ps, as, 0, s, h, e => by
    simp only [slotsP, List.getElem?_cons_zero, Option.some.injEq] at e
    exact .inl ⟨_, t.r, t.a, v, e.symm, rfl, h.1⟩
  | v :: vs, .ty t :: ps, as, i + 1, s, h, e => by
    simp only [slotsP, List.getElem?_cons_succ] at e
    simpa using slotsP_get h.2 e
  | v :: vs, .ow c :: ps, [], _, _, h, _ => h.elim
  | v :: vs, .ow c :: ps, a :: as, 0, s, h, e => by
    simp only [slotsP, List.getElem?_cons_zero, Option.some.injEq] at e
    obtain ⟨⟨h1, h2, o, h3, h4⟩, _⟩ := h
    exact .inr ⟨c, a, o, e.symm, by simp [h1], by simp, h2, h3, h4⟩
  | v :: vs, .ow c :: ps, a :: as, i + 1, s, h, e => by
    simp only [slotsP, List.getElem?_cons_succ] at e
    rcases slotsP_get h.2 e with ⟨α, r, b, w, k1, k2, k3⟩ | ⟨c', b, o, k1, k2, k3, k4⟩
    · exact .inl ⟨α, r, b, w, k1, by simpa using k2, k3⟩
    · exact .inr ⟨c', b, o, k1, by simpa using k2, List.mem_cons_of_mem _ k3, k4⟩
/-- two places that hold the same own object are one -/
theorem slotsP_sep {G H : Hp} : ∀ {vs : List V} {ps : List Par} {as : List Addr} {i j : Nat} {c d : Oc} {a : Addr}, as.Nodup → Fits G H vs ps as → (slotsP ps as)[i]? = some (.ow c (some a)) → (slotsP ps as)[j]? = some (.ow d (some a)) → i = j
  | [], [], [], i, j, _, _, _, _, _, e, _ => by simp [slotsP] at e
  | [], [], _ :: _, _, _, _, _, _, _, h, _, _ => h.elim
  | [], _ :: _, _, _, _, _, _, _, _, h, _, _ => h.elim
  | _ :: _, [], _, _, _, _, _, _, _, h, _, _ => h.elim
  | v :: vs, .ty t :: ps, as, 0, _, _, _, _, _, _, e, _ => by simp [slotsP] at e
  | v :: vs, .ty t :: ps, as, _, 0, _, _, _, _, _, _, e => by simp [slotsP] at e
  | v :: vs, .ty t :: ps, as, i + 1, j + 1, c, d, a, nd, h, e1, e2 => by
    simp only [slotsP, List.getElem?_cons_succ] at e1 e2
    rw [slotsP_sep nd h.2 e1 e2]
  | v :: vs, .ow c :: ps, [], _, _, _, _, _, _, h, _, _ => h.elim
  | v :: vs, .ow c :: ps, b :: as, 0, 0, _, _, _, _, _, _, _ => rfl
  | v :: vs, .ow c :: ps, b :: as, 0, j + 1, c', d', a, nd, h, e1, e2 => by
    simp only [slotsP, List.getElem?_cons_succ, List.getElem?_cons_zero, Option.some.injEq] at e1 e2
    cases e1
    rcases slotsP_get h.2 e2 with ⟨α, r, x, w, k1, _⟩ | ⟨c', x, o, k1, k2, k3, _⟩
    · cases k1
    · cases k1
      exact absurd k3 (List.nodup_cons.mp nd).1
  | v :: vs, .ow c :: ps, b :: as, i + 1, 0, c', d', a, nd, h, e1, e2 => by
    simp only [slotsP, List.getElem?_cons_succ, List.getElem?_cons_zero, Option.some.injEq] at e1 e2
    cases e2
    rcases slotsP_get h.2 e1 with ⟨α, r, x, w, k1, _⟩ | ⟨c', x, o, k1, k2, k3, _⟩
    · cases k1
    · cases k1
      exact absurd k3 (List.nodup_cons.mp nd).1
  | v :: vs, .ow c :: ps, b :: as, i + 1, j + 1, c', d', a, nd, h, e1, e2 => by
    simp only [slotsP, List.getElem?_cons_succ] at e1 e2
    rw [slotsP_sep (List.nodup_cons.mp nd).2 h.2 e1 e2]
theorem le_mem {G H : Hp} {as : List Addr} (e : Ex G H) (mem : ∀ a ∈ as, G a = none ∧ ∃ o, H a = some o) : LeE G H (fun p => p ∈ as) G H := ⟨.refl _, fun x o q => by
    by_cases m : x ∈ as
    · exact .inr ⟨m, o, q⟩
    · exact .inl ⟨m, q⟩, e, fun x o h1 h2 => (by rw [h1] at h2; cases h2), fun x m => mem x m⟩
theorem holds_startP {G H : Hp} {N : List Str} {vs : List V} {ps : List Par} {as : List Addr} (e : Ex G H) (nd : as.Nodup) (f : Fits G H vs ps as) (hn : ps.length ≤ N.length) :
    Holds { G := G, H := H, M := fun p => p ∈ as } G H (L2.start N vs) (slotsP ps as ++ List.replicate (N.length - ps.length) .no) := by
  have hl := f.length
  have hs := slotsP_len f
  have st : ∀ (i : Nat) (v : V), vs[i]? = some v → (L2.start N vs)[i]? = some (some v) := fun i v q => by
    unfold L2.start
    have lt := (List.getElem?_eq_some_iff.mp q).1
    rw [List.getElem?_append_left (by rw [List.length_map]; exact lt), List.getElem?_map, q]
    rfl
  have get : ∀ (i : Nat) (s : Slot), (slotsP ps as ++ List.replicate (N.length - ps.length) .no)[i]? = some s → (slotsP ps as)[i]? = some s ∨ s = .no := fun i s q => by
    by_cases lt : i < (slotsP ps as).length
    · rw [List.getElem?_append_left lt] at q
      exact .inl q
    · rw [List.getElem?_append_right (by omega)] at q
      have z := List.mem_of_getElem? q
      rw [List.mem_replicate] at z
      exact .inr z.2
  refine ⟨le_mem e f.mem, (fun a o q => by cases q), ?_, fun i s q => ?_, fun i j s t q1 q2 w1 w2 z => ?_⟩
  · unfold L2.start
    simp only [List.length_append, List.length_map, List.length_replicate, hs]
    omega
  · rcases get i s q with q | q
    · rcases slotsP_get f q with ⟨α, r, b, v, k1, k2, k3⟩ | ⟨c, a, o, k1, k2, k3, k4, k5, k6⟩
      · subst k1
        exact ⟨v, st i v k2, k3⟩
      · subst k1
        exact ⟨a, o, st i _ k2, k4, ⟨rfl, k3⟩, k5, k6⟩
    · subst q
      trivial
  · rcases get i s q1 with q1 | q1
    · rcases get j t q2 with q2 | q2
      · rcases slotsP_get f q1 with ⟨α, r, b, v, k1, k2, k3⟩ | ⟨c, a, o, k1, k2, k3, k4, k5, k6⟩
        · subst k1; cases w1
        · rcases slotsP_get f q2 with ⟨α, r, b, v, m1, m2, m3⟩ | ⟨c', a', o', m1, m2, m3, m4, m5, m6⟩
          · subst m1; cases w2
          · subst k1 m1
            rw [st i _ k2, st j _ m2] at z
            cases z
            exact slotsP_sep nd f q1 q2
      · subst q2; cases w2
    · subst q1; cases w1
/-- the slots of is still hold what was handed in -/
def StillI (Γ : List Slot) : List Nat → List Addr → List Oc → Prop
  | [], [], [] => True
  | i :: is, p :: ps, c :: cs => Γ[i]? = some (.ow c (some p)) ∧ StillI Γ is ps cs
  | _, _, _ => False
theorem StillI.ows {E : Ent} {G H : Hp} {σ : L2.St} {Γ : List Slot} (h : Holds E G H σ Γ) : ∀ {is : List Nat} {ps : List Addr} {cs : List Oc}, StillI Γ is ps cs → Ows G H ps cs
  | [], [], [], _ => trivial
  | [], [], _ :: _, s => s.elim
  | [], _ :: _, _, s => s.elim
  | _ :: _, [], _, s => s.elim
  | _ :: _, _ :: _, [], s => s.elim
  | i :: is, p :: ps, c :: cs, ⟨e, s⟩ => by
    obtain ⟨p', o, h1, h2, h3, h4, h5⟩ := h.ow e
    have z : p' = p := h3.1
    subst z
    exact ⟨⟨h2, o, h4, h5⟩, StillI.ows h s⟩
theorem Ows.stepH {G H H' : Hp} (e : Ex H H') : ∀ {ps : List Addr} {cs : List Oc}, Ows G H ps cs → Ows G H' ps cs
  | [], [], _ => trivial
  | _ :: _, _ :: _, ⟨⟨h1, o, h2, h3⟩, t⟩ => ⟨⟨h1, o, e _ _ h2, h3⟩, Ows.stepH e t⟩
theorem LeE.stepH {G0 H0 : Hp} {M : Addr → Prop} {G H H' : Hp} (a : LeE G0 H0 M G H) (e : Ex H H') : LeE G0 H0 M G H' :=
  ⟨a.g, fun x o q => by
    rcases a.h x o q with ⟨n, h⟩ | ⟨n, u, h⟩
    · exact .inl ⟨n, e _ _ h⟩
    · exact .inr ⟨n, u, e _ _ h⟩, a.gh.trans e, a.new, a.m⟩
section
variable {P : Program} {w : World} {K : PySem.W.Frag} {mg : Str → Option Value} {base : Heap} {x qual : Str} {params : Arguments} {body : List Stmt} {scope : Scope} {dvs : List V} {kws : List (Str × V)} {f : Addr} {fd : FuncData}
def nOwn : List Par → Nat
  | [] => 0
  | .ow _ :: ps => nOwn ps + 1
  | .ty _ :: ps => nOwn ps
theorem Fits.nOwn {G H : Hp} : ∀ {vs : List V} {ps : List Par} {as : List Addr}, Fits G H vs ps as → as.length = nOwn ps
  | [], [], [], _ => rfl
  | [], [], _ :: _, h => h.elim
  | [], _ :: _, _, h => h.elim
  | _ :: _, [], _, h => h.elim
  | v :: vs, .ty t :: ps, as, h => Fits.nOwn (ps := ps) h.2
  | v :: vs, .ow c :: ps, [], h => h.elim
  | v :: vs, .ow c :: ps, a :: as, h => congrArg (· + 1) (Fits.nOwn h.2)
theorem fn_par {N ps : List Str} {k : Nat} {ι α : Type} {Pre : ι → Prop} {pars : ι → List Par} {r : Rp α} {res : ι → α} {post : ι → List Oc} (F : FunD K x qual params body scope dvs kws f fd) (S : FnScope N ps scope) (hl : ∀ y, (pars y).length = ps.length)
    (hb : ∀ (y : ι), Pre y → ∀ (cdv : Value) (A : Around) (outer : List Env) (s : Shared) (H : Hp) (E0 : XK) (G : Hp) (D : Ends) (qs : List Addr), qs.length = nOwn (pars y) → Room k (A.deeper (envOfC qual scope s.heap.objs.size f cdv)) →
      RetN { G := G, H := H, M := fun p => p ∈ qs } D qs (post y) r (res y) → (∀ σ G' H', LeE G H (fun p => p ∈ qs) G' H' → Ows G' H' qs (post y) → r.rel G' .non (res y) → D.nx σ H') →
      Bk (cxOf (CXL P w) P w K mg base N qual scope f cdv A outer s H E0) { G := G, H := H, M := fun p => p ∈ qs } (slotsP (pars y) qs ++ List.replicate (N.length - ps.length) .no) body D) :
    FnOk P w K mg base (CXL P w) (k + 1) f fd ps (MSp Pre pars r res post) := by
  refine F.ok S (fun vs H Q E ⟨y, G, as, _, _, _, fi, _⟩ => by rw [fi.length, hl]) fun cdv A outer s H vs Q E hr ⟨y, G, as, hp, e, nd, fi, hq⟩ => ⟨_, WB.pss, ?_⟩
  have hN : (pars y).length ≤ N.length := by
    rw [hl]
    have z := congrArg List.length S.pre
    rw [List.length_take] at z
    omega
  have h := holds_startP (N := N) e nd fi hN
  rw [hl] at h
  exact hb y hp cdv A outer s H E G _ as fi.nOwn hr (fun v G' H' l o rv => hq v G' H' l o rv) (fun σ G' H' l o rv => hq _ G' H' l o rv) G H _ h
end

/-! ### arguments -/
inductive Src where
  | sl (i : Nat)
  | tmp
/-- where the own arguments come from: a slot, or new since H0 -/
def SrcOk (H0 : Hp) (σ : L2.St) (Γ : List Slot) : List Src → List Addr → Prop
  | [], [] => True
  | .sl i :: ss, a :: as => (σ[i]? = some (some (.ref a)) ∧ ∃ c q, Γ[i]? = some (.ow c q)) ∧ SrcOk H0 σ Γ ss as
  | .tmp :: ss, a :: as => H0 a = none ∧ SrcOk H0 σ Γ ss as
  | _, _ => False
def setSrc : List Slot → List Src → List Oc → List Slot
  | Γ, .sl i :: ss, c :: cs => setSrc (updO Γ i c) ss cs
  | Γ, .tmp :: ss, _ :: cs => setSrc Γ ss cs
  | Γ, _, _ => Γ
def slOf : List Src → List Nat
  | [] => []
  | .sl i :: ss => i :: slOf ss
  | .tmp :: ss => slOf ss
def adOf : List Src → List Addr → List Addr
  | .sl _ :: ss, a :: as => a :: adOf ss as
  | .tmp :: ss, _ :: as => adOf ss as
  | _, _ => []
def ocOf : List Src → List Oc → List Oc
  | .sl _ :: ss, a :: as => a :: ocOf ss as
  | .tmp :: ss, _ :: as => ocOf ss as
  | _, _ => []
def EvP (X : Cx) (Γ : List Slot) (es : List Expr) (ps : List Par) (ss : List Src) : Prop := ∀ (E : Ent) (G H : Hp) (σ : L2.St), Holds E G H σ Γ → ∀ Q : List V → Hp → Prop,
  (∀ vs as G' H', Le G H G' H' → as.Nodup → Fits G' H' vs ps as → SrcOk H σ Γ ss as → Q vs H') → WA X es σ H Q
theorem SrcOk.back {H0 H1 : Hp} {σ : L2.St} {Γ : List Slot} (e : Ex H0 H1) : ∀ {ss : List Src} {as : List Addr}, SrcOk H1 σ Γ ss as → SrcOk H0 σ Γ ss as
  | [], [], _ => trivial
  | [], _ :: _, h => h.elim
  | .sl _ :: _, [], h => h.elim
  | .tmp :: _, [], h => h.elim
  | .sl i :: ss, a :: as, h => ⟨h.1, SrcOk.back e h.2⟩
  | .tmp :: ss, a :: as, h => ⟨Evl.fresh_back e h.1, SrcOk.back e h.2⟩
theorem SrcOk.mem {E : Ent} {G H : Hp} {σ : L2.St} {Γ : List Slot} (hh : Holds E G H σ Γ) : ∀ {ss : List Src} {as : List Addr} {a : Addr}, SrcOk H σ Γ ss as → a ∈ as → H a = none ∨ ∃ i ∈ slOf ss, σ[i]? = some (some (.ref a)) ∧ (∃ c q, Γ[i]? = some (.ow c q)) ∧ ∃ o, H a = some o
  | [], [], _, _, m => by simp at m
  | [], _ :: _, _, h, _ => h.elim
  | .sl _ :: _, [], _, h, _ => h.elim
  | .tmp :: _, [], _, h, _ => h.elim
  | .sl i :: ss, b :: as, a, ⟨⟨h1, c, q, h2⟩, h3⟩, m => by
    rcases List.mem_cons.mp m with rfl | m
    · obtain ⟨p, o, w1, w2, w3, w4, w5⟩ := hh.ow h2
      rw [h1] at w1
      cases w1
      exact .inr ⟨i, by simp [slOf], h1, ⟨c, q, h2⟩, o, w4⟩
    · rcases SrcOk.mem hh h3 m with k | ⟨j, k1, k2⟩
      · exact .inl k
      · exact .inr ⟨j, by simp [slOf, k1], k2⟩
  | .tmp :: ss, b :: as, a, ⟨h1, h3⟩, m => by
    rcases List.mem_cons.mp m with rfl | m
    · exact .inl h1
    · rcases SrcOk.mem hh h3 m with k | ⟨j, k1, k2⟩
      · exact .inl k
      · exact .inr ⟨j, by simp [slOf, k1], k2⟩
theorem SrcOk.own {H0 : Hp} {σ : L2.St} {Γ : List Slot} : ∀ {ss : List Src} {as : List Addr}, SrcOk H0 σ Γ ss as → OwnAt σ (slOf ss) (adOf ss as)
  | [], [], _ => trivial
  | [], _ :: _, h => h.elim
  | .sl _ :: _, [], h => h.elim
  | .tmp :: _, [], h => h.elim
  | .sl i :: ss, b :: as, h => ⟨h.1.1, SrcOk.own h.2⟩
  | .tmp :: ss, b :: as, h => SrcOk.own (ss := ss) h.2
theorem SrcOk.slots {H0 : Hp} {σ : L2.St} {Γ : List Slot} : ∀ {ss : List Src} {as : List Addr}, SrcOk H0 σ Γ ss as → ∃ cs, SlotsAre Γ (slOf ss) cs
  | [], [], _ => ⟨[], trivial⟩
  | [], _ :: _, h => h.elim
  | .sl _ :: _, [], h => h.elim
  | .tmp :: _, [], h => h.elim
  | .sl i :: ss, b :: as, ⟨⟨_, c, q, h2⟩, h3⟩ => by
    obtain ⟨cs, h⟩ := SrcOk.slots h3
    exact ⟨c :: cs, ⟨q, h2⟩, h⟩
  | .tmp :: ss, b :: as, h => SrcOk.slots (ss := ss) h.2
theorem srcOws {H0 G H : Hp} {σ : L2.St} {Γ : List Slot} : ∀ {ss : List Src} {as : List Addr} {cs : List Oc}, SrcOk H0 σ Γ ss as → Ows G H as cs → Ows G H (adOf ss as) (ocOf ss cs)
  | [], [], [], _, _ => trivial
  | [], [], _ :: _, _, h => h.elim
  | [], _ :: _, _, h, _ => h.elim
  | .sl _ :: _, [], _, h, _ => h.elim
  | .tmp :: _, [], _, h, _ => h.elim
  | .sl i :: ss, b :: as, [], _, h => h.elim
  | .tmp :: ss, b :: as, [], _, h => h.elim
  | .sl i :: ss, b :: as, c :: cs, h, o => ⟨o.1, srcOws h.2 o.2⟩
  | .tmp :: ss, b :: as, c :: cs, h, o => srcOws (ss := ss) h.2 o.2
theorem setSrc_eq : ∀ {ss : List Src} {cs : List Oc} {Γ : List Slot}, setSrc Γ ss cs = setOws Γ (slOf ss) (ocOf ss cs)
  | [], _, _ => by simp [setSrc, slOf, setOws]
  | .sl i :: ss, [], Γ => by simp [setSrc, slOf, ocOf, setOws]
  | .tmp :: ss, [], Γ => by
    have : ∀ (ss : List Src) (Γ : List Slot), setOws Γ (slOf ss) [] = Γ := fun ss Γ => by cases h : slOf ss <;> simp [setOws]
    simp [setSrc, slOf, ocOf, this]
  | .sl i :: ss, c :: cs, Γ => by
    simp only [setSrc, slOf, ocOf, setOws]
    exact setSrc_eq
  | .tmp :: ss, c :: cs, Γ => by
    simp only [setSrc, slOf, ocOf]
    exact setSrc_eq
end Hf

namespace Hf
open PySem PySem.Spec PyProof.Rows L2
theorem Holds.callS {E : Ent} {G0 H0 G H G' H' : Hp} {σ : L2.St} {Γ : List Slot} {ss : List Src} {cs : List Oc} {as : List Addr} (h0 : Holds E G0 H0 σ Γ) (h : Holds E G H σ Γ) (nd : (slOf ss).Nodup) (sa : SrcOk H0 σ Γ ss as)
    (l : LeE G H (fun p => p ∈ as) G' H') (ow : Ows G' H' as cs) : Holds E G' H' σ (setSrc Γ ss cs) := by
  rw [setSrc_eq]
  obtain ⟨os, so⟩ := sa.slots
  have oa := sa.own
  have ow' := srcOws sa ow
  have memo : ∀ p ∈ as, ∀ (j : Nat) (c : Oc) (q : Option Addr), Γ[j]? = some (.ow c q) → σ[j]? = some (some (.ref p)) → j ∈ slOf ss := fun p m j c q e1 e2 => by
    rcases sa.mem h0 m with z | ⟨i, k1, k2, ⟨c2, q2, k3⟩, _⟩
    · obtain ⟨p', o, w1, w2, w3, w4, w5⟩ := h0.ow e1
      rw [e2] at w1
      cases w1
      rw [z] at w4
      cases w4
    · exact h.sep i j _ _ k3 e1 rfl rfl (by rw [k2, e2]) ▸ k1
  have out : ∀ p, p ∉ as → ∀ o, H p = some o → H' p = some o := fun p n o e => by
    rcases l.h p o e with ⟨_, w⟩ | ⟨m, _⟩
    · exact w
    · exact absurd m n
  have gn : ∀ p, G p = none → (∃ o, H p = some o) → G' p = none := fun p g ⟨o, e⟩ => by
    cases q : G' p with
    | none => rfl
    | some u => rw [l.new p u q g] at e; cases e
  refine ⟨⟨h.le.g.trans l.g, fun a o e => ?_, l.gh, fun a o e1 e2 => ?_, h.le.m⟩, h.fl.trans l.g, by rw [setOws_len]; exact h.len, fun j s e => ?_, fun j k s t e1 e2 w1 w2 z => ?_⟩
  · rcases h.le.h a o e with ⟨n, w⟩ | ⟨m, u, w⟩
    · rcases l.h a o w with ⟨_, w2⟩ | ⟨m2, _⟩
      · exact .inl ⟨n, w2⟩
      · rcases sa.mem h0 m2 with z | ⟨i, k1, k2, ⟨c, q, k3⟩, _⟩
        · rw [h0.le.fresh z] at e; cases e
        · obtain ⟨p, o2, x1, x2, x3, x4, x5⟩ := h.ow k3
          rw [k2] at x1
          cases x1
          rcases x3.or with y | y
          · exact absurd y n
          · rw [y] at e; cases e
    · rcases l.h a u w with ⟨_, w2⟩ | ⟨_, w2⟩
      · exact .inr ⟨m, u, w2⟩
      · exact .inr ⟨m, w2⟩
  · cases q : G a with
    | some u => exact h.le.new a u q e2
    | none =>
      have z := l.new a o e1 q
      exact h.le.fresh z
  · rcases setOws_get nd so oa ow' e with ⟨n, k⟩ | ⟨c, c', q, p, o, k1, k2, k3, k4, k5, k6, k7, k8⟩
    · have w := h.ok j s k
      cases s with
      | no => trivial
      | sh r a =>
        obtain ⟨v, w1, w2⟩ := w
        exact ⟨v, w1, r.mono l.g w2⟩
      | ow c q =>
        obtain ⟨p, o, w1, w2, w3, w4, w5⟩ := w
        have np : p ∉ as := fun m => n (memo p m j c q k w1)
        exact ⟨p, o, w1, gn p w2 ⟨o, w4⟩, w3, out p np o w4, c.mono l.g w5⟩
    · subst k3
      obtain ⟨p1, o1, w1, w2, w3, w4, w5⟩ := h.ow k2
      rw [k4] at w1
      cases w1
      exact ⟨p, o, k4, k6, w3, k7, k8⟩
  · have back : ∀ (j : Nat) (s : Slot), (setOws Γ (slOf ss) (ocOf ss cs))[j]? = some s → s.isOw = true → ∃ s', Γ[j]? = some s' ∧ s'.isOw = true := fun j s e w => by
      rcases setOws_get nd so oa ow' e with ⟨n, k⟩ | ⟨c, c', q, p, o, k1, k2, _⟩
      · exact ⟨s, k, w⟩
      · exact ⟨_, k2, rfl⟩
    obtain ⟨s', q1, q2⟩ := back j s e1 w1
    obtain ⟨t', q3, q4⟩ := back k t e2 w2
    exact h.sep j k s' t' q1 q3 q2 q4 z
section
variable {X : Cx} {E : Ent} {Γ Γ' Γ1 Γ2 : List Slot} {D : Ends} {e f g o : Expr} {es : List Expr} {rest : List Stmt} {pos p p2 apos cpos : Pos} {α β γ ι : Type} {r : Rp α} {x : α} {s : Rp β} {y : β} {ps : List Par} {ss : List Src} {k j : Nat}
theorem ep_nil : EvP X Γ [] [] [] := fun E G H σ hh Q q => WA.of pa_nil (q [] [] G H (.refl hh.le.gh) List.nodup_nil trivial trivial)
theorem ep_ty {t : Ty} (ha : Ev X Γ e t.r t.a) (hr : EvP X Γ es ps ss) (hs : starEach (e :: es) X.env = (false, eval e X.env) :: starEach es X.env := by rfl) : EvP X Γ (e :: es) (.ty t :: ps) ss := fun E G H σ hh Q q =>
  WA.of (pa_cons WE.pe WA.pa hs) (ha E G H σ hh _ fun v G1 H1 l1 r1 => hr E G1 H1 σ (hh.step l1) _ fun vs as G2 H2 l2 nd f2 s2 => q (v :: vs) as G2 H2 (l1.trans l2) nd ⟨t.r.mono l2.g r1, f2⟩ (s2.back l1.h))
/-- a new object -/
theorem ep_tmp {c : Oc} (ha : EvO X Γ e c) (hr : EvP X Γ es ps ss) (hs : starEach (e :: es) X.env = (false, eval e X.env) :: starEach es X.env := by rfl) : EvP X Γ (e :: es) (.ow c :: ps) (.tmp :: ss) := fun E G H σ hh Q q =>
  WA.of (pa_cons WE.pe WA.pa hs) (ha E G H σ hh _ fun a ob G1 H1 n l1 g1 h1 c1 => hr E G1 H1 σ (hh.step l1) _ fun vs as G2 H2 l2 nd f2 s2 => by
    have na : a ∉ as := fun m => by
      rcases s2.mem (hh.step l1) m with z | ⟨i, k1, k2, ⟨c2, q2, k3⟩, _⟩
      · rw [z] at h1; cases h1
      · obtain ⟨p, o, w1, w2, w3, w4, w5⟩ := hh.ow k3
        rw [k2] at w1
        cases w1
        rw [n] at w4
        cases w4
    exact q (.ref a :: vs) (a :: as) G2 H2 (l1.trans l2) (List.nodup_cons.mpr ⟨na, nd⟩) ⟨⟨rfl, l2.keepO h1 g1, ob, l2.h _ _ h1, c.mono l2.g c1⟩, f2⟩ ⟨n, s2.back l1.h⟩)
/-- an object of one's own by its name -/
theorem ep_own (i : Nat) {a : Str} {c : Oc} {pq : Option Addr} (hr : EvP X Γ es ps ss) (ni : i ∉ slOf ss := by decide) (hg : Γ[i]? = some (.ow c pq) := by rfl) (hN : X.N[i]? = some a := by rfl) (hv : Vis X.env.scope a := by first | exact Or.inl rfl | exact Or.inr (Or.inl rfl) | exact Or.inr (Or.inr rfl)) (hd : (a == ("__debug__" : Str)) = false := by decide)
    (hcd : (a == ("__classdict__" : Str)) = false := by decide) (hs : starEach ((.Name a p) :: es) X.env = (false, eval (.Name a p) X.env) :: starEach es X.env := by rfl) : EvP X Γ ((.Name a p) :: es) (.ow c :: ps) (.sl i :: ss) := fun E G H σ hh Q q =>
  WA.of (pa_cons (pe_var hN hv hd hcd) WA.pa hs) (by
    obtain ⟨l, ob, h1, h2, h3, h4, h5⟩ := hh.ow hg
    refine ⟨_, h1, hr E G H σ hh _ fun vs as G1 H1 l1 nd f1 s1 => ?_⟩
    have na : l ∉ as := fun m => by
      rcases s1.mem hh m with z | ⟨j, k1, k2, ⟨c2, q2, k3⟩, _⟩
      · rw [z] at h4; cases h4
      · exact ni (hh.sep i j _ _ hg k3 rfl rfl (by rw [h1, k2]) ▸ k1)
    exact q (.ref l :: vs) (l :: as) G1 H1 l1 (List.nodup_cons.mpr ⟨na, nd⟩) ⟨⟨rfl, l1.keepO h4 h2, ob, l1.h _ _ h4, c.mono l1.g h5⟩, f1⟩ ⟨⟨h1, c, pq, hg⟩, s1⟩)
/-- f(e, ..) -/
theorem em_callP {fn : Str} {Pre : ι → Prop} {pars : ι → List Par} {res : ι → α} {post : ι → List Oc} {z : α} (h : Has X.prog X.w X.K X.mg X.base fn k (MSp Pre pars r res post)) (hr : Room j X.A) (hk : k ≤ j) (y : ι) (hp : Pre y)
    (ha : EvP X Γ (e :: es) (pars y) ss) (nd : (slOf ss).Nodup := by decide) (hz : res y = z := by rfl) (hΓ : setSrc Γ ss (post y) = Γ' := by rfl) (hg : Gl X fn := by rfl) (hdb : (fn == ("__debug__" : Str)) = false := by decide)
    (he : starEach (e :: es) X.env = (false, eval e X.env) :: starEach es X.env := by rfl) (hpl : (backTo pos (starEach es X.env)).any (·.1) = false := by rfl) : EvM X Γ Γ' (.Call (.Name fn p) (e :: es) [] pos) r z := fun E G H σ hh Q q =>
  we_call h hr hk (ha E G H σ hh _ fun vs as G1 H1 l1 n1 f1 s1 => by
    have h1 := hh.step l1
    refine ⟨y, G1, as, hp, l1.gh, n1, f1, fun v G2 H2 l2 w2 r2 => ?_⟩
    exact q v G2 H2 (l1.g.trans l2.g) (hΓ ▸ hh.callS h1 nd s1 l2 w2) (hz ▸ r2)) hg hdb he hpl
end
/-! ### an object that is frozen is worth x -/
def Frz (c : Oc) {α : Type} (r : Rp α) (x : α) : Prop := ∀ (G : Hp) (a : Addr) (o : HO), G a = none → c.rel G o → r.rel (upd G a o) (.ref a) x
theorem frz_lst {α : Type} {r : Rp α} {as : List α} : Frz (oLst r as) (rLst r) as := fun G a o n ⟨vs, e, h⟩ => by
  subst e
  exact ⟨a, vs, rfl, upd_same, h.mono (Evl.Ex.new n)⟩
/-! ### a new instance -/
/-- C(e, ..): the __init__ at f, its level -/
structure HasI (P : Program) (w : World) (K : PySem.W.Frag) (mg : Str → Option Value) (base : Heap) (x : Str) (C : Addr) (k : Nat) (sp : Sp) : Prop where
  ex : ∃ (f : Addr) (fd : FuncData) (ps : List Str) (spF : Sp) (dvs : List V) (ds : List Value), mg x = some (.ref C) ∧ Mk K C f ∧ Binds K fd ps ds ∧ Vals dvs ds ∧ FnOk P w K mg base (CXL P w) k f fd ps spF ∧ ∀ vs H Q, sp vs H Q E0 → spF (vs ++ dvs) H Q E0
section
variable {X : Cx} {E : Ent} {Γ Γ' Γ1 Γ2 : List Slot} {D : Ends} {e f g o : Expr} {es : List Expr} {rest : List Stmt} {pos p p2 apos cpos : Pos} {α β γ ι : Type} {r : Rp α} {x : α} {s : Rp β} {y : β} {ps : List Par} {ss : List Src} {k j : Nat}
theorem em_make {fn : Str} {C : Addr} {Pre : ι → Prop} {pars : ι → List Par} {post : ι → List Oc} {c : ι → Oc} {z : α} (h : HasI X.prog X.w X.K X.mg X.base fn C k (MSp Pre (fun y => .ow (oIns C [] []) :: pars y) rNon (fun _ => ()) (fun y => c y :: post y))) (hr : Room j X.A) (hk : k + 1 ≤ j) (y : ι) (hp : Pre y)
    (ha : EvP X Γ (e :: es) (pars y) ss) (fz : Frz (c y) r z) (nd : (slOf ss).Nodup := by decide) (hΓ : setSrc Γ ss (post y) = Γ' := by rfl) (hg : Gl X fn := by rfl) (hdb : (fn == ("__debug__" : Str)) = false := by decide)
    (he : starEach (e :: es) X.env = (false, eval e X.env) :: starEach es X.env := by rfl) (hpl : (backTo pos (starEach es X.env)).any (·.1) = false := by rfl) : EvM X Γ Γ' (.Call (.Name fn p) (e :: es) [] pos) r z := fun E G H σ hh Q q => by
  obtain ⟨f0, fd, ps0, spF, dvs, ds, hm, mk, hb, hd, F, hi⟩ := h.ex
  refine WE.of (pe_make mk F (hr.mono hk) hg hm hb hd passL WA.pa hdb he hpl) ?_
  refine ha E G H σ hh _ fun vs as G1 H1 l1 n1 f1 s1 a dx na nx ne => hi (.ref a :: vs) _ _ ?_
  have hh1 := hh.step l1
  have g1a : G1 a = none := Evl.fresh_back l1.gh na
  have l2 : Le G1 H1 G1 (upd (upd H1 dx (.own a)) a (.ins C dx [])) := by
    have z1 : Le G1 H1 G1 (upd H1 dx (.own a)) := (Le.refl l1.gh).addO nx
    exact z1.addO (by rw [upd_ne (fun w => ne w.symm)]; exact na)
  have mas : ∀ b ∈ as, ∃ o, H1 b = some o := fun b m => (f1.mem b m).2
  have naa : a ∉ as := fun m => by obtain ⟨o, w⟩ := mas a m; rw [na] at w; cases w
  refine ⟨y, G1, a :: as, hp, l2.gh, List.nodup_cons.mpr ⟨naa, n1⟩, ⟨⟨rfl, g1a, _, upd_same, dx, [], rfl, trivial, rfl⟩, f1.step l2⟩, fun v G3 H3 l3 w3 r3 => ⟨r3, ?_⟩⟩
  obtain ⟨⟨ga, oa, ha3, ca⟩, w3'⟩ := w3
  have hh2 := hh1.step l2
  -- the call changes a and as; a is new
  have hh3 : Holds E G3 H3 σ (setSrc Γ ss (post y)) := by
    have s2 : SrcOk H σ Γ (.tmp :: ss) (a :: as) := ⟨Evl.fresh_back l1.h na, s1⟩
    exact hh.callS (ss := .tmp :: ss) (cs := c y :: post y) hh2 (by simpa [slOf] using nd) s2 l3 ⟨⟨ga, oa, ha3, ca⟩, w3'⟩
  have fr : ∀ (i : Nat) (c0 : Oc) (q0 : Option Addr), Γ[i]? = some (.ow c0 q0) → σ[i]? ≠ some (some (V.ref a)) := fun i c0 q0 e1 e2 => by
    obtain ⟨p', o', w1, _, _, w4, _⟩ := hh1.ow e1
    rw [e2] at w1
    cases w1
    rw [na] at w4
    cases w4
  have gx : Ex G1 (upd G3 a oa) := l3.g.trans (Evl.Ex.new ga)
  -- it is frozen
  refine q _ (upd G3 a oa) H3 (l1.g.trans gx) ?_ (fz G3 a oa ga ca)
  subst hΓ
  have lf : LeE E.G E.H E.M (upd G3 a oa) H3 := ⟨hh3.le.g.trans (Evl.Ex.new ga), hh3.le.h, fun b u z => by
    by_cases w : b = a
    · subst w; rw [upd_same] at z; cases z; exact ha3
    · rw [upd_ne w] at z; exact hh3.le.gh b u z, fun b u z1 z2 => by
    by_cases w : b = a
    · subst w; exact hh1.le.fresh na
    · rw [upd_ne w] at z1; exact hh3.le.new b u z1 z2, hh3.le.m⟩
  refine ⟨lf, hh3.fl.trans (Evl.Ex.new ga), hh3.len, fun i sl e => ?_, hh3.sep⟩
  have w := hh3.ok i sl e
  cases sl with
  | no => trivial
  | sh r' a' =>
    obtain ⟨v', w1, w2⟩ := w
    exact ⟨v', w1, r'.mono (Evl.Ex.new ga) w2⟩
  | ow c' q' =>
    obtain ⟨p', o', w1, w2, w3, w4, w5⟩ := w
    have np : p' ≠ a := fun z => by
      subst z
      obtain ⟨os, so⟩ := s1.slots
      have z2 := setSrc_eq (ss := ss) (cs := post y) (Γ := Γ)
      rw [z2] at e
      rcases setOws_get nd so s1.own (srcOws s1 w3') e with ⟨_, k⟩ | ⟨c2, c3, q2, p2, o2, _, k2, _⟩
      · exact fr i _ _ k w1
      · exact fr i _ _ k2 w1
    exact ⟨p', o', w1, by rw [upd_ne np]; exact w2, w3, w4, c'.mono (Evl.Ex.new ga) w5⟩
end
end Hf

namespace Hf
open PySem PySem.Spec PyProof.Rows L2

/-! ### fields of an instance that is being made -/
theorem args_set {G : Hp} {v : V} {t : Ty} (h : t.r.rel G v t.a) : ∀ {vs : List V} {ts : List Ty} (i : Nat), Args G vs ts → Args G (vs.set i v) (ts.set i t)
  | [], [], _, _ => trivial
  | [], _ :: _, _, k => k.elim
  | _ :: _, [], _, k => k.elim
  | _ :: _, _ :: _, 0, k => ⟨h, k.2⟩
  | _ :: _, _ :: _, i + 1, k => ⟨k.1, args_set h i k.2⟩
theorem putF_old {f : Str} {v : V} : ∀ {ns : List Str} {vs : List V} {i : Nat}, ns.Nodup → ns[i]? = some f → ns.length = vs.length → putF f v (ns.zip vs) = ns.zip (vs.set i v)
  | [], [], i, _, h, _ => by simp at h
  | n :: ns, u :: vs, 0, nd, h, l => by
    simp only [List.getElem?_cons_zero, Option.some.injEq] at h
    subst h
    show (if n = n then (n, v) :: ns.zip vs else (n, u) :: putF n v (ns.zip vs)) = _
    rw [if_pos rfl]
    rfl
  | n :: ns, u :: vs, i + 1, nd, h, l => by
    simp only [List.getElem?_cons_succ] at h
    have ne : n ≠ f := fun z => (List.nodup_cons.mp nd).1 (z ▸ List.mem_of_getElem? h)
    show (if n = f then (n, v) :: ns.zip vs else (n, u) :: putF f v (ns.zip vs)) = (n, u) :: ns.zip (vs.set i v)
    rw [if_neg ne, putF_old (List.nodup_cons.mp nd).2 h (by simpa using l)]
section
variable {X : Cx} {E : Ent} {Γ Γ' Γ1 Γ2 : List Slot} {D : Ends} {e f g o : Expr} {es : List Expr} {rest : List Stmt} {pos p p2 apos cpos : Pos} {α β γ ι : Type} {r : Rp α} {x : α} {s : Rp β} {y : β} {ps : List Par} {ss : List Src} {k j : Nat}
/-- self.f = e, a field that is there -/
theorem bk_fldO (i n : Nat) {a f : Str} {C : Addr} {ns : List Str} {ts : List Ty} {pq : Option Addr} (cl : Cls X.K C) (na : NoAttr X.K C f) (hg : Γ[i]? = some (.ow (oIns C ns ts) pq)) (he : Ev X Γ e r x) (hn : ns[n]? = some f) (nd : ns.Nodup) (hl : ns.length < 1000) (k : Bk X E (Γ.set i (.ow (oIns C ns (ts.set n ⟨r, x⟩)) pq)) rest D)
    (hN : X.N[i]? = some a := by rfl) (hv : Vis X.env.scope a := by first | exact Or.inl rfl | exact Or.inr (Or.inl rfl) | exact Or.inr (Or.inr rfl)) (hd : (a == ("__debug__" : Str)) = false := by decide) (hcd : (a == ("__classdict__" : Str)) = false := by decide)
    (hs : swapsWith e (some (.Attribute (.Name a p) f p2)) pos.line X.env = pure false := by rfl) : Bk X E Γ (.Assign [.Attribute (.Name a p) f p2] e pos :: rest) D :=
  bk_of (ps_fld (pe_var hN hv hd hcd) WE.pe hs) fun G H σ hh => he E G H σ hh _ fun v G1 H1 l1 r1 => by
    have h1 := hh.step l1
    obtain ⟨q, ob, w1, w2, w3, w4, dx, vs, w5, w6, w7⟩ := h1.ow hg
    subst w5
    refine ⟨_, w1, q, C, dx, _, rfl, w4, cl, na, by rw [List.length_zip]; omega, ?_⟩
    have lv : ns.length = vs.length := by rw [args_length w6]; exact w7
    refine k G1 _ σ (h1.mut hg w1 ⟨dx, vs.set n v, by rw [putF_old nd hn lv], args_set (t := ⟨r, x⟩) r1 n w6, by simp [w7]⟩)
/-- self.f of an instance that is being made -/
theorem ev_fldO (i n : Nat) {a f : Str} {C : Addr} {ns : List Str} {ts : List Ty} {pq : Option Addr} {t : Ty} (cl : Cls X.K C) (na : NoAttr X.K C f) (hg : Γ[i]? = some (.ow (oIns C ns ts) pq)) (hn : ns[n]? = some f) (nd : ns.Nodup) (ht : ts[n]? = some t)
    (hN : X.N[i]? = some a := by rfl) (hv : Vis X.env.scope a := by first | exact Or.inl rfl | exact Or.inr (Or.inl rfl) | exact Or.inr (Or.inr rfl)) (hd : (a == ("__debug__" : Str)) = false := by decide) (hcd : (a == ("__classdict__" : Str)) = false := by decide)
    (hb : attributeBase (.Name a p) f X.env (eval (.Name a p) X.env) = eval (.Name a p) X.env := by rfl) : Ev X Γ (.Attribute (.Name a p) f pos) t.r t.a := fun E G H σ hh Q q =>
  WE.of (pe_fld (pe_var hN hv hd hcd) hb) (by
    obtain ⟨l, ob, w1, w2, w3, w4, dx, vs, w5, w6, w7⟩ := hh.ow hg
    subst w5
    obtain ⟨v, v1, v2⟩ := args_get w6 ht
    refine ⟨_, w1, l, C, dx, _, v, rfl, w4, cl, na, ?_, q v G H (.refl hh.le.gh) v2⟩
    have lk : ∀ {ns : List Str} {vs : List V} {n : Nat}, ns.Nodup → ns[n]? = some f → vs[n]? = some v → (ns.zip vs).lookup f = some v := fun {ns} => by
      induction ns with
      | nil => intro vs n _ h; simp at h
      | cons a ns ih =>
        intro vs n nd h1 h2
        cases vs with
        | nil => simp at h2
        | cons u vs =>
          cases n with
          | zero =>
            simp only [List.getElem?_cons_zero, Option.some.injEq] at h1 h2
            subst h1 h2
            simp [List.lookup]
          | succ n =>
            simp only [List.getElem?_cons_succ] at h1 h2
            have ne : (f == a) = false := by
              rw [beq_eq_false_iff_ne]
              exact fun z => (List.nodup_cons.mp nd).1 (z ▸ List.mem_of_getElem? h1)
            simp only [List.zip_cons_cons, List.lookup, ne]
            exact ih (List.nodup_cons.mp nd).2 h1 h2
    exact lk nd hn v1)
/-- from here on an object of one's own is only looked at, to the end of the def -/
theorem bk_look (i : Nat) {c : Oc} {q : Addr} (hg : Γ[i]? = some (.ow c (some q))) (fz : Frz c r x) (l : Γ1.length = Γ.length) (w : ∀ (j : Nat) (s : Slot), Γ1[j]? = some s → s = .no ∨ (j = i ∧ s = .sh r x) ∨ (s.isOw = false ∧ Γ[j]? = some s))
    (hD : ∀ G H σ, Holds E G H σ Γ → ∀ σ' H', Ex H H' → D.nx σ' H') (k : ∀ E1 : Ent, (∀ σ' G' H', LeE E1.G E1.H E1.M G' H' → D.nx σ' H') → Bk X E1 Γ1 rest D) : Bk X E Γ rest D := fun G H σ hh => by
  obtain ⟨p, ob, h1, h2, h3, h4, h5⟩ := hh.ow hg
  have gx : Ex G (upd G p ob) := Evl.Ex.new h2
  have gh : Ex (upd G p ob) H := fun a u z => by
    by_cases e : a = p
    · subst e; rw [upd_same] at z; cases z; exact h4
    · rw [upd_ne e] at z; exact hh.le.gh a u z
  refine k { G := upd G p ob, H := H } (fun σ' G' H' le => hD G H σ hh σ' H' (le.le fun _ z => z).h) (upd G p ob) H σ ⟨LeE.start gh, (fun a u z => by cases z), by rw [l]; exact hh.len, fun j s e => ?_, fun j1 j2 s t e1 e2 o1 o2 z => ?_⟩
  · rcases w j s e with rfl | ⟨rfl, rfl⟩ | ⟨o1, e'⟩
    · trivial
    · exact ⟨_, h1, fz G p ob h2 h5⟩
    · have z := hh.ok j s e'
      cases s with
      | no => trivial
      | sh r' a' =>
        obtain ⟨v, z1, z2⟩ := z
        exact ⟨v, z1, r'.mono gx z2⟩
      | ow c' q' => cases o1
  · rcases w j1 s e1 with rfl | ⟨rfl, rfl⟩ | ⟨n1, _⟩
    · cases o1
    · cases o1
    · rw [n1] at o1; cases o1
/-- xs.extend(e) -/
theorem bk_extend (i : Nat) {a : Str} {pq : Option Addr} {as bs : List α} (hg : Γ[i]? = some (.ow (oLst r as) pq)) (he : EvB X Γ e (oLst r bs)) (hl : as.length + bs.length ≤ sizeLine) (k : Bk X E (Γ.set i (.ow (oLst r (as ++ bs)) pq)) rest D)
    (hpe : PE X (.Call (.Attribute (.Name a p) "extend" apos) [e] [] cpos) (tBM X.K "list" rExtend (tVar i) (tCons (WE X e) tNil)) := by exact pe_bm PySem.F.plainAttrs_list PySem.F.slot_list_extend PySem.F.type_list_extend mt_extend (pv _) (pa_cons WE.pe pa_nil))
    (hs : swapsWith (.Call (.Attribute (.Name a p) "extend" apos) [e] [] cpos) none pos.line X.env = pure false := by rfl) : Bk X E Γ (.Expr (.Call (.Attribute (.Name a p) "extend" apos) [e] [] cpos) pos :: rest) D :=
  bk_of (ps_expr hpe hs) fun G H σ hh => by
    obtain ⟨q, o, h1, h2, h3, h4, vs, h5, h6⟩ := hh.ow hg
    subst h5
    refine ⟨_, h1, .inl ⟨rfl, vs, .inl (.inl h4)⟩, he E G H σ hh _ fun b ob G1 H1 l1 hb ⟨ws, e2, h7⟩ => ?_⟩
    subst e2
    have hh1 := hh.step l1
    refine ⟨q, b, vs, ws, rfl, rfl, l1.h _ _ h4, hb, by rw [h6.length, h7.length]; exact hl, ?_⟩
    exact k G1 _ σ (hh1.mut hg h1 ⟨_, rfl, (h6.mono l1.g).append h7⟩)
/-- xs.clear(), xs.reverse() -/
theorem bk_clear (i : Nat) {a : Str} {pq : Option Addr} {as : List α} (hg : Γ[i]? = some (.ow (oLst r as) pq)) (k : Bk X E (Γ.set i (.ow (oLst r []) pq)) rest D)
    (hpe : PE X (.Call (.Attribute (.Name a p) "clear" apos) [] [] cpos) (tBM X.K "list" rClear (tVar i) tNil) := by exact pe_bm0 PySem.F.plainAttrs_list PySem.F.slot_list_clear PySem.F.type_list_clear mt_clear (pv _))
    (hs : swapsWith (.Call (.Attribute (.Name a p) "clear" apos) [] [] cpos) none pos.line X.env = pure false := by rfl) : Bk X E Γ (.Expr (.Call (.Attribute (.Name a p) "clear" apos) [] [] cpos) pos :: rest) D :=
  bk_of (ps_expr hpe hs) fun G H σ hh => by
    obtain ⟨q, o, h1, h2, h3, h4, vs, h5, h6⟩ := hh.ow hg
    subst h5
    exact ⟨_, h1, .inl ⟨rfl, vs, .inl (.inl h4)⟩, q, vs, rfl, rfl, h4, k G _ σ (hh.mut hg h1 ⟨_, rfl, .nil⟩)⟩
theorem bk_reverse (i : Nat) {a : Str} {pq : Option Addr} {as : List α} (hg : Γ[i]? = some (.ow (oLst r as) pq)) (k : Bk X E (Γ.set i (.ow (oLst r as.reverse) pq)) rest D)
    (hpe : PE X (.Call (.Attribute (.Name a p) "reverse" apos) [] [] cpos) (tBM X.K "list" rReverse (tVar i) tNil) := by exact pe_bm0 PySem.F.plainAttrs_list PySem.F.slot_list_reverse PySem.F.type_list_reverse mt_reverse (pv _))
    (hs : swapsWith (.Call (.Attribute (.Name a p) "reverse" apos) [] [] cpos) none pos.line X.env = pure false := by rfl) : Bk X E Γ (.Expr (.Call (.Attribute (.Name a p) "reverse" apos) [] [] cpos) pos :: rest) D :=
  bk_of (ps_expr hpe hs) fun G H σ hh => by
    obtain ⟨q, o, h1, h2, h3, h4, vs, h5, h6⟩ := hh.ow hg
    subst h5
    exact ⟨_, h1, .inl ⟨rfl, vs, .inl (.inl h4)⟩, q, vs, rfl, rfl, h4, k G _ σ (hh.mut hg h1 ⟨_, rfl, h6.reverse⟩)⟩
/-- e.clear() of a new list -/
theorem bk_clearT {as : List α} (he : EvO X Γ e (oLst r as)) (k : Bk X E Γ rest D)
    (hpe : PE X (.Call (.Attribute e "clear" apos) [] [] cpos) (tBM X.K "list" rClear (WE X e) tNil) := by exact pe_bm0 PySem.F.plainAttrs_list PySem.F.slot_list_clear PySem.F.type_list_clear mt_clear WE.pe)
    (hs : swapsWith (.Call (.Attribute e "clear" apos) [] [] cpos) none pos.line X.env = pure false := by rfl) : Bk X E Γ (.Expr (.Call (.Attribute e "clear" apos) [] [] cpos) pos :: rest) D :=
  bk_of (ps_expr hpe hs) fun G H σ hh => he E G H σ hh _ fun q o G1 H1 n l1 g1 h1 ⟨vs, e1, h6⟩ => by
    subst e1
    refine ⟨.inl ⟨rfl, vs, .inl (.inl h1)⟩, q, vs, rfl, rfl, h1, ?_⟩
    have hh1 := hh.step l1
    -- the list is new: nothing of ours stands there
    refine k G1 _ σ ⟨⟨hh1.le.g, fun a u z => ?_, fun a u z => ?_, hh1.le.new, hh1.le.m⟩, hh1.fl, hh1.len, fun i s z => ?_, hh1.sep⟩
    · have ne : a ≠ q := fun w => by subst w; rw [hh.le.fresh n] at z; cases z
      rw [upd_ne ne]
      exact hh1.le.h a u z
    · have ne : a ≠ q := fun w => by subst w; rw [g1] at z; cases z
      rw [upd_ne ne]
      exact hh1.le.gh a u z
    · have w := hh1.ok i s z
      cases s with
      | no => trivial
      | sh r a => exact w
      | ow c q2 =>
        obtain ⟨p2, o2, w1, w2, w3, w4, w5⟩ := w
        obtain ⟨p3, o3, y1, y2, y3, y4, y5⟩ := hh.ow z
        rw [w1] at y1
        cases y1
        have ne : p2 ≠ q := fun w => by subst w; rw [n] at y4; cases y4
        exact ⟨p2, o2, w1, w2, w3, by rw [upd_ne ne]; exact w4, w5⟩
/-- xs[i] = e -/
theorem bk_setAt (i : Nat) {a : Str} {pq : Option Addr} {as : List α} {n : Int} (hg : Γ[i]? = some (.ow (oLst r as) pq)) (he : Ev X Γ e r x) (hi : Ev X Γ f rInt n) (hb : 0 ≤ n ∧ n < (as.length : Int)) (k : Bk X E (Γ.set i (.ow (oLst r (as.set n.toNat x)) pq)) rest D)
    (hpg : PG X (.Subscript (.Name a p) f p2) (gSub (tVar i) (WE X f) rSetL) := by exact pg_sub (pv _) WE.pe set_list)
    (hs : swapsWithSole [.Subscript (.Name a p) f p2] e pos.line X.env = pure false := by rfl) (hw : swappedStores [.Subscript (.Name a p) f p2] e X.env = pure none := by rfl) (h1 : (assignEach [.Subscript (.Name a p) f p2] X.env).map (·.2) = [assign (.Subscript (.Name a p) f p2) X.env] := by rfl) : Bk X E Γ (.Assign [.Subscript (.Name a p) f p2] e pos :: rest) D :=
  bk_of (ps_asg WE.pe hpg hs hw h1) fun G H σ hh => he E G H σ hh _ fun v G1 H1 l1 r1 => by
    have hh1 := hh.step l1
    obtain ⟨q, o, h1, h2, h3, h4, vs, h5, h6⟩ := hh1.ow hg
    subst h5
    refine ⟨_, h1, hi E G1 H1 σ hh1 _ fun w G2 H2 l2 r2 => ?_⟩
    refine ⟨q, vs, n, n.toNat, rfl, r2, l2.h _ _ h4, ?_, ?_⟩
    · unfold ixN
      rw [if_pos hb.1, if_pos (by rw [h6.length]; exact hb.2)]
    · exact k G2 _ σ ((hh1.step l2).mut hg h1 ⟨_, rfl, (h6.mono l2.g).set (r.mono l2.g r1) _⟩)
end
end Hf

namespace Hf
open PySem PySem.Spec PyProof.Rows L2 ClX

/-! ### a text walked; a sign in a text -/
def signs (u : Str) : List Str := u.cps.toList.map fun c => (⟨#[c]⟩ : Str)
section
variable {X : Cx} {E : Ent} {Γ Γ' Γ1 Γ2 : List Slot} {D : Ends} {e f g o : Expr} {es : List Expr} {rest : List Stmt} {pos p p2 apos cpos : Pos} {α β γ ι : Type} {r : Rp α} {x : α} {s : Rp β} {y : β} {ps : List Par} {ss : List Src} {k j : Nat} {u v : Str} {i : Int} {as : List α}
theorem ei_str {tg : Expr} (h : Ev X Γ e rStr u) : EvI X Γ tg e rStr (signs u) := ⟨_, pi_str WE.pe, fun E G H σ hh R q => h E G H σ hh _ fun v G1 H1 l1 r1 => ⟨u, r1, q _ G1 H1 l1 fun i G2 H2 g1 g2 => ⟨fun a ea => by
    unfold signs at ea
    rw [List.getElem?_map] at ea
    cases hc : u.cps.toList[i]? with
    | none => rw [hc] at ea; cases ea
    | some c =>
      rw [hc] at ea
      cases ea
      have hc' : u.cps[i]? = some c := by rw [← Array.getElem?_toList]; exact hc
      have lt : i < u.cps.size := (Array.getElem?_eq_some_iff.mp hc').1
      refine ⟨lt, fun x H' ⟨e1, c', e2, e3⟩ => ?_⟩
      subst e1
      rw [hc'] at e2
      cases e2
      exact ⟨G2, .refl g2, e3⟩, fun le => by
    have z : (signs u).length = u.cps.size := by simp [signs]
    rw [z] at le
    exact le⟩⟩⟩
/-- s in t, s one sign -/
def inS (u v : Str) : Bool := match u.cps.toList with
  | [c] => decide (c ∈ v.cps.toList)
  | _ => false
theorem gv_inS (h1 : u.cps.size = 1) : Gives (fun x y H Q => ∃ (c : Nat) (z : Str), x = .str ⟨#[c]⟩ ∧ y = .str z ∧ Q (.bl (decide (c ∈ z.cps.toList))) H) rStr u rStr v rBool (inS u v) := fun G H a b e ha hb Q q => by
  obtain ⟨⟨l⟩⟩ := u
  match l, h1 with
  | [c], _ => exact ⟨c, v, ha, hb, q _ G H (.refl e) rfl⟩
theorem ev_inS (h1 : u.cps.size = 1) (ha : Ev X Γ e rStr u) (hb : Ev X Γ f rStr v) (hm : behindInMarks .In f = false := by rfl) : Ev X Γ (.Compare e [.In] [f] pos) rBool (inS u v) := ev_cmpR op_in_sign ha hb (gv_inS h1) hm
theorem signs_one {z : Str} (h : z ∈ signs u) : z.cps.size = 1 := by
  obtain ⟨c, _, rfl⟩ := List.mem_map.mp h
  rfl
/-! ### is not None -/
theorem gv_notN {o : Option α} (n : NN r) : Gives (fun x y H Q => y = V.non ∧ Q (.bl (!decide (x = V.non))) H) (rOpt r) o rNon () rBool (!o.isNone) := fun G H a b e h1 h2 Q q => by
  refine ⟨h2, ?_⟩
  cases o with
  | none =>
    have z : a = .non := h1
    subst z
    exact q _ G H (.refl e) rfl
  | some v =>
    rw [decide_eq_false (n.nn G a v h1)]
    exact q _ G H (.refl e) rfl
theorem ev_notN {o : Option α} (n : NN r) (ha : Ev X Γ e (rOpt r) o) (hb : Ev X Γ f rNon ()) : Ev X Γ (.Compare e [.IsNot] [f] pos) rBool (!o.isNone) := ev_cmpR op_notN ha hb (gv_notN n)
theorem et_notN {o : Option α} (n : NN r) (ha : Ev X Γ e (rOpt r) o) (hb : Ev X Γ f rNon ()) : EvT X Γ (.Compare e [.IsNot] [f] pos) (!o.isNone) := et_cmpR op_notN ha hb (gv_notN n)
/-! ### xs * n -/
def repL (as : List α) (n : Int) : List α := (List.replicate n.toNat as).flatten
theorem All2.rep {G : Hp} {vs : List V} (h : All2 r G vs as) : ∀ n : Nat, All2 r G (List.replicate n vs).flatten (List.replicate n as).flatten
  | 0 => .nil
  | n + 1 => by
    rw [List.replicate_succ, List.replicate_succ, List.flatten_cons, List.flatten_cons]
    exact h.append (All2.rep h n)
theorem eo_rep (h : EvB X Γ e (oLst r as)) (h2 : Ev X Γ f rInt i) (hl : -(2 ^ 63) ≤ i ∧ i < 2 ^ 63 ∧ as.length * i.toNat ≤ sizeLine) : EvO X Γ (.BinOp e .Mult f pos) (oLst r (repL as i)) := fun E G H σ hh Q q =>
  WE.of (pe_op op_rep WE.pe WE.pe) (h E G H σ hh _ fun p o G1 H1 l1 hp ⟨vs, e1, ha⟩ => h2 E G1 H1 σ (hh.step l1) _ fun w G2 H2 l2 r2 => by
    subst e1
    exact ⟨p, i, vs, rfl, r2, l2.h _ _ hp, hl.1, hl.2.1, by rw [ha.length]; exact hl.2.2, fun p3 n => q p3 _ G2 _ (Evl.fresh_back (l1.trans l2).h n) ((l1.trans l2).addO n) (Evl.fresh_back l2.gh n) upd_same ⟨_, rfl, (ha.mono l2.g).rep _⟩⟩)
/-! ### zip of two lists -/
theorem ei_zip {elts : List Expr} {kk : Nat} {tpos : Pos} {bs : List β} (h : Ev X Γ e (rLst r) as) (h2 : Ev X Γ f (rLst s) bs) (hm : X.mg "zip" = none) (hg : Gl X "zip" := by rfl)
    (he : starEach [e, f] X.env = (false, eval e X.env) :: starEach [f] X.env := by rfl) (he2 : starEach [f] X.env = (false, eval f X.env) :: starEach [] X.env := by rfl) (hpl : (backTo pos (starEach [f] X.env)).any (·.1) = false := by rfl) :
    EvI X Γ (.Tuple elts kk tpos) (.Call (.Name "zip" p) [e, f] [] pos) (rT2 X.K r s) (as.zip bs) := ⟨_, pi_zip hg hm (pa_cons WE.pe (pa_cons WE.pe pa_nil he2) he) he hpl, fun E G H σ hh R q => h E G H σ hh _ fun v G1 H1 l1 ⟨p1, vs, e1, hp, ha⟩ => h2 E G1 H1 σ (hh.step l1) _ fun v2 G2 H2 l2 ⟨p2, ws, e2, hp2, hb⟩ => by
  have hp' : G2 p1 = some (.lst vs) := l2.g _ _ hp
  refine ⟨p1, p2, vs, ws, by rw [e1, e2], .inl (.inl (l2.gh _ _ hp')), .inl (.inl (l2.gh _ _ hp2)), q _ G2 H2 (l1.trans l2) fun i G3 H3 g1 g2 => ⟨fun a ea => ?_, fun le => ?_⟩⟩
  · have hx : ∃ x y, as[i]? = some x ∧ bs[i]? = some y ∧ a = (x, y) := by
      rw [List.getElem?_zip_eq_some] at ea
      exact ⟨a.1, a.2, ea.1, ea.2, rfl⟩
    obtain ⟨x, y, ex, ey, rfl⟩ := hx
    obtain ⟨v1, ev1, rv1⟩ := ha.get ex
    obtain ⟨w1, ew1, rw1⟩ := hb.get ey
    have hq1 : SqL X.K H3 p1 vs := .inl (.inl (g2 _ _ (g1 _ _ hp')))
    have hq2 : SqL X.K H3 p2 ws := .inl (.inl (g2 _ _ (g1 _ _ hp2)))
    refine ⟨⟨vs, ws, v1, w1, hq1, hq2, ev1, ew1⟩, fun z H' ⟨T, x', y', e3, n, e4, e5, e6⟩ => ?_⟩
    have e7 := e5 vs hq1
    have e8 := e6 ws hq2
    rw [ev1] at e7
    rw [ew1] at e8
    cases e7; cases e8
    subst e3 e4
    have n2 := Evl.fresh_back g2 n
    exact ⟨upd G3 T (.tup [v1, w1]), (Le.refl g2).add n, T, _, _, rfl, .inl (.inl upd_same), r.mono ((l2.g.trans g1).trans (Evl.Ex.new n2)) rv1, s.mono (g1.trans (Evl.Ex.new n2)) rw1⟩
  · refine ⟨vs, ws, .inl (.inl (g2 _ _ (g1 _ _ hp'))), .inl (.inl (g2 _ _ (g1 _ _ hp2))), ?_⟩
    rw [ha.length, hb.length]
    rw [List.length_zip] at le
    omega⟩
/-! ### a method by its class -/
structure HasU (P : Program) (w : World) (K : PySem.W.Frag) (mg : Str → Option Value) (base : Heap) (x : Str) (C : Addr) (m : Str) (k : Nat) (sp : Sp) : Prop where
  ex : ∃ (f : Addr) (fd : FuncData) (ps : List Str) (spF : Sp) (dvs : List V) (ds : List Value), mg x = some (.ref C) ∧ Unb K C m f ∧ Binds K fd ps ds ∧ Vals dvs ds ∧ FnOk P w K mg base (CXL P w) k f fd ps spF ∧ ∀ vs H Q, sp vs H Q E0 → spF (vs ++ dvs) H Q E0
theorem em_unb {cn m : Str} {C : Addr} {Pre : ι → Prop} {pars : ι → List Par} {res : ι → α} {post : ι → List Oc} {z : α} {pl : Sem Bool} (h : HasU X.prog X.w X.K X.mg X.base cn C m k (MSp Pre pars r res post)) (hr : Room j X.A) (hk : k ≤ j) (y : ι) (hp : Pre y)
    (ha : EvP X Γ (e :: es) (pars y) ss) (nd : (slOf ss).Nodup := by decide) (hz : res y = z := by rfl) (hΓ : setSrc Γ ss (post y) = Γ' := by rfl) (hg : Gl X cn := by rfl) (hdb : (cn == ("__debug__" : Str)) = false := by decide)
    (he : starEach (e :: es) X.env = (false, eval e X.env) :: starEach es X.env := by rfl) (hpl : (backTo pos (starEach es X.env)).any (·.1) = false := by rfl)
    (ht : eval (.Call (.Attribute (.Name cn p) m apos) (e :: es) [] pos) X.env = (do
      let ov ← eval (.Name cn p) X.env
      standAt apos.atName
      let (f, first) ← holding [ov] (getMethod ov m pl)
      callWith pos f first (backTo pos (starEach (e :: es) X.env)) (backToKw pos (keywordEach [] X.env))) := by rfl) : EvM X Γ Γ' (.Call (.Attribute (.Name cn p) m apos) (e :: es) [] pos) r z := fun E G H σ hh Q q => by
  obtain ⟨f0, fd, ps0, spF, dvs, ds, hm, u, hb, hd, F, hi⟩ := h.ex
  refine WE.of (pe_unb (pe_glob (v := .ref C) hg hm rfl hdb) u F (hr.mono hk) hb hd passL WA.pa he hpl ht) ?_
  refine ⟨rfl, ?_⟩
  refine ha E G H σ hh _ fun vs as G1 H1 l1 n1 f1 s1 => hi vs _ _ ?_
  have h1 := hh.step l1
  refine ⟨y, G1, as, hp, l1.gh, n1, f1, fun v G2 H2 l2 w2 r2 => ?_⟩
  exact q v G2 H2 (l1.g.trans l2.g) (hΓ ▸ hh.callS h1 nd s1 l2 w2) (hz ▸ r2)
/-! ### isinstance of an own class -/
def KindV (K : PySem.W.Frag) (r : Rp α) (x : α) (t : Value) : Prop := ∀ G v, r.rel G v x → TyX K G v t
theorem ev_isiC {t : Value} {C : Addr} {c : Str} {b : Bool} (h : Ev X Γ e r x) (kd : KindV X.K r x t) (hk : PySem.W.kitOne X.K t (.ref C) = some b) (hm : X.mg "isinstance" = none) (hmc : X.mg c = some (.ref C)) (hg : Gl X "isinstance" := by rfl) (hgc : Gl X c := by rfl) (hd : (c == ("__debug__" : Str)) = false := by decide)
    (hs1 : starEach (e :: [.Name c p2]) X.env = (false, eval e X.env) :: starEach [.Name c p2] X.env := by rfl) (hs2 : starEach (.Name c p2 :: []) X.env = (false, eval (.Name c p2) X.env) :: starEach [] X.env := by rfl) (hpl : (backTo pos (starEach [.Name c p2] X.env)).any (·.1) = false := by rfl) :
    Ev X Γ (.Call (.Name "isinstance" p) [e, .Name c p2] [] pos) rBool b := fun E G H σ hh Q q =>
  WE.of (pe_callB call_isi hg hm (by decide +kernel) (pa_cons WE.pe (pa_cons (pe_glob (v := .ref C) hgc hmc rfl hd) pa_nil hs2) hs1) (he := hs1) (hpl := hpl)) (h E G H σ hh _ fun v G1 H1 l1 r1 => ⟨v, .ref C, t, .ref C, b, rfl, .own C, tyX_mono l1.gh (kd G1 v r1), hk, q _ G1 H1 l1 rfl⟩)
/-! ### try whose body never raises -/
theorem bk_try {h₀ : ExceptHandler} {hs : List ExceptHandler} {body : List Stmt} (hb : Bk X.nox E Γ body (thenD X rest D)) : Bk X E Γ (.Try body (h₀ :: hs) [] [] pos :: rest) D :=
  bk_of (ps_try_thru0 WB.pss) fun G H σ hh => hb G H σ hh
end
end Hf

namespace Hf
open PySem PySem.Spec PyProof.Rows L2 ClX

/-! ### works: frozen when made -/
abbrev wkNs : List Str := ["called", "held", "many"]
abbrev wkTs (K : PySem.W.Frag) (c : WC) (n : Str) (ps : List (Int × Pl)) (s : Option Int) : List Ty := [⟨rStr, n⟩, ⟨rLst (rT2 K rInt (rWk K c)), ps⟩, ⟨rOpt rInt, s⟩]
abbrev oWk (K : PySem.W.Frag) (c : WC) (w : Pl) (n : Str) (ps : List (Int × Pl)) (s : Option Int) : Oc := oIns (c.of w) wkNs (wkTs K c n ps s)
theorem rOpt_oV {G : Hp} {v : V} {s : Option Int} (h : (rOpt rInt).rel G v s) : v = oV s := by
  cases s with
  | none => exact h
  | some i => exact h
theorem frz_wk {K : PySem.W.Frag} {c : WC} {w : Pl} : Frz (oWk K c w w.name w.parts w.steps) (rWk K c) w := fun G a o n ⟨dx, vs, e, h, _⟩ => by
  match vs, h with
  | [v1, v2, v3], ⟨h1, h2, h3, _⟩ =>
    obtain ⟨p, us, e2, hp, ha⟩ := h2
    have e1 : v1 = .str w.name := h1
    have e3 : v3 = oV w.steps := rOpt_oV h3
    have gx : Ex G (upd G a o) := Evl.Ex.new n
    subst e1 e2 e3 e
    cases w with
    | leaf nm s =>
      cases ha
      exact .leaf upd_same (gx _ _ hp)
    | lot row nm ps => exact .lot upd_same (gx _ _ hp) (ptAt_all.mpr (ha.mono gx))
/-! ### depth, names -/
namespace Pl
mutual
def depth : Pl → Nat
  | .leaf _ _ => 1
  | .lot _ _ ps => 1 + depths ps
def depths : List (Int × Pl) → Nat
  | [] => 0
  | (_, w) :: ps => max (depth w) (depths ps)
end
mutual
def names : Pl → List Str
  | .leaf n _ => [n]
  | .lot _ n ps => n :: namess ps
def namess : List (Int × Pl) → List Str
  | [] => []
  | (_, w) :: ps => names w ++ namess ps
end
mutual
/-- all works in it, each elder ahead of its parts -/
def all : Pl → List Pl
  | .leaf n s => [.leaf n s]
  | .lot r n ps => .lot r n ps :: alls ps
def alls : List (Int × Pl) → List Pl
  | [] => []
  | (_, w) :: ps => all w ++ alls ps
end
theorem depth_pos : ∀ w : Pl, 0 < w.depth
  | .leaf _ _ => by simp [depth]
  | .lot _ _ _ => by simp only [depth]; omega
theorem depths_mem {q : Int × Pl} : ∀ {ps : List (Int × Pl)}, q ∈ ps → q.2.depth ≤ depths ps
  | (i, w) :: ps, h => by
    rcases List.mem_cons.mp h with rfl | h
    · show w.depth ≤ max w.depth (depths ps)
      omega
    · have := depths_mem h
      show _ ≤ max w.depth (depths ps)
      omega
theorem part_depth {q : Int × Pl} {w : Pl} (h : q ∈ w.parts) : q.2.depth < w.depth := by
  cases w with
  | leaf n s => simp [parts] at h
  | lot r n ps =>
    have := depths_mem (show q ∈ ps from h)
    show _ < 1 + depths ps
    omega
theorem depth_eq (w : Pl) : w.depth = 1 + depths w.parts := by
  cases w with
  | leaf n s => simp [depth, parts, depths]
  | lot r n ps => simp [depth, parts]
theorem names_eq (w : Pl) : w.names = w.name :: namess w.parts := by
  cases w with
  | leaf n s => simp [names, parts, namess, name]
  | lot r n ps => simp [names, parts, name]
theorem all_eq (w : Pl) : w.all = w :: alls w.parts := by
  cases w with
  | leaf n s => simp [all, parts, alls]
  | lot r n ps => simp [all, parts]
theorem namess_eq : ∀ (ps : List (Int × Pl)), namess ps = ps.flatMap (fun q => q.2.names)
  | [] => by simp [namess]
  | (i, w) :: ps => by simp [namess, namess_eq ps]
theorem alls_eq : ∀ (ps : List (Int × Pl)), alls ps = ps.flatMap (fun q => q.2.all)
  | [] => by simp [alls]
  | (i, w) :: ps => by simp [alls, alls_eq ps]
theorem depths_max : ∀ (ps : List (Int × Pl)), (depths ps : Int) = maxL ([0] ++ ps.map fun q => (q.2.depth : Int))
  | [] => by simp [depths, maxL]
  | (i, w) :: ps => by
    have ih := depths_max ps
    have step : ∀ (l : List Int) (a b : Int), l.foldl max (max a b) = max b (l.foldl max a) := fun l => by
      induction l with
      | nil => intro a b; simp only [List.foldl_nil]; omega
      | cons c l ih => intro a b; simp only [List.foldl_cons]; rw [show max (max a b) c = max (max a c) b by omega, ih]
    show ((max w.depth (depths ps) : Nat) : Int) = List.foldl max 0 ((w.depth : Int) :: ps.map fun q => (q.2.depth : Int))
    have ih' : (depths ps : Int) = List.foldl max 0 (ps.map fun q => (q.2.depth : Int)) := ih
    rw [List.foldl_cons, step, ← ih']
    omega
end Pl
/-! ### == of plain works -/
def pdOpt : Option Int → PyData
  | none => .none
  | some i => .int i
mutual
def pdPl : Pl → PyData
  | .leaf n s => .tuple [.str "leaf", .str n, pdOpt s]
  | .lot row n ps => .tuple [.str (Pl.lot row n []).kind, .str n, .list (pdPs ps)]
def pdPs : List (Int × Pl) → List PyData
  | [] => []
  | (i, w) :: ps => .tuple [.int i, pdPl w] :: pdPs ps
end
def NOk (u : Str) : Prop := PyData.strOk u = true
mutual
def Pl.Ok : Pl → Prop
  | .leaf n _ => NOk n
  | .lot _ n ps => NOk n ∧ Pl.Oks ps
def Pl.Oks : List (Int × Pl) → Prop
  | [] => True
  | (_, w) :: ps => Pl.Ok w ∧ Pl.Oks ps
end
mutual
theorem pdPl_lay : ∀ (w : Pl), w.Ok → PyData.canLay0 (pdPl w) = true ∧ PyData.depth (pdPl w) ≤ 3 * w.depth
  | .leaf n s, h => by
    have hn : PyData.strOk n = true := h
    have hl : PyData.strOk "leaf" = true := by decide +kernel
    cases s <;> simp [pdPl, pdOpt, PyData.canLay0, PyData.canLayAll0, PyData.depth, PyData.depthAll, hn, hl, Pl.depth]
  | .lot row n ps, h => by
    have hn : PyData.strOk n = true := h.1
    have hk : PyData.strOk (Pl.lot row n []).kind = true := by
      cases row
      · exact (by decide +kernel : PyData.strOk "bundle" = true)
      · exact (by decide +kernel : PyData.strOk "row" = true)
    obtain ⟨h1, h2⟩ := pdPs_lay ps h.2
    refine ⟨by simp [pdPl, PyData.canLay0, PyData.canLayAll0, hn, hk, h1], ?_⟩
    simp only [pdPl, PyData.depth, PyData.depthAll, Pl.depth]
    omega
theorem pdPs_lay : ∀ (ps : List (Int × Pl)), Pl.Oks ps → PyData.canLayAll0 (pdPs ps) = true ∧ PyData.depthAll (pdPs ps) ≤ 3 * Pl.depths ps + 1
  | [], _ => by simp [pdPs, PyData.canLayAll0, PyData.depthAll]
  | (i, w) :: ps, h => by
    obtain ⟨h1, h2⟩ := pdPl_lay w h.1
    obtain ⟨h3, h4⟩ := pdPs_lay ps h.2
    refine ⟨by simp [pdPs, PyData.canLayAll0, PyData.canLay0, h1, h3], ?_⟩
    simp only [pdPs, PyData.depthAll, PyData.depth, Pl.depths]
    omega
end
mutual
theorem dp_pl {K : PySem.W.Frag} {G : Hp} : ∀ (w : Pl) (v : V), PlAt K G v w → Dp K G v (pdPl w)
  | .leaf n s, _, h => by
    cases h with
    | leaf h1 =>
      refine .tup h1 (.cons (.str _) (.cons (.str _) (.cons ?_ .nil)))
      cases s with
      | none => exact .non
      | some i => exact .int i
  | .lot row n ps, _, h => by
    cases h with
    | lot h1 h2 h3 =>
      have e : (Pl.lot row n ps).kind = (Pl.lot row n []).kind := by cases row <;> rfl
      rw [e] at h1
      exact .tup h1 (.cons (.str _) (.cons (.str _) (.cons (.lst (.inl (.inl h2)) (dp_ps ps _ h3)) .nil)))
theorem dp_ps {K : PySem.W.Frag} {G : Hp} : ∀ (ps : List (Int × Pl)) (vs : List V), PpAt K G vs ps → DpAll K G vs (pdPs ps)
  | [], _, h => by cases h; exact .nil
  | (i, w) :: ps, _, h => by
    cases h with
    | cons h1 h2 h3 => exact .cons (.tup h1 (.cons (.int _) (.cons (dp_pl w _ h2) .nil))) (dp_ps ps _ h3)
end
theorem eqv_pl {K : PySem.W.Frag} {w : Pl} (h : w.Ok) (hd : w.depth ≤ 20) : Eqv K (rPl K) w (pdPl w) := ⟨fun G v k => dp_pl w v k, by
  obtain ⟨h1, h2⟩ := pdPl_lay w h
  unfold SeqAt.shaped
  rw [h1]
  exact decide_eq_true (by omega)⟩
theorem eqv_pls {K : PySem.W.Frag} {ps : List (Int × Pl)} (h : Pl.Oks ps) (hd : Pl.depths ps ≤ 20) : Eqv K (rLst (rT2 K rInt (rPl K))) ps (.list (pdPs ps)) := ⟨fun G v ⟨p, vs, e, k, a⟩ => by
  subst e
  exact .lst (.inl (.inl k)) (dp_ps ps vs (ppAt_all.mpr a)), by
  obtain ⟨h1, h2⟩ := pdPs_lay ps h
  unfold SeqAt.shaped
  simp only [PyData.canLay0, h1, PyData.depth, Bool.true_and]
  exact decide_eq_true (by omega)⟩
theorem eqv_opt {K : PySem.W.Frag} {s : Option Int} : Eqv K (rOpt rInt) s (pdOpt s) := ⟨fun G v k => by
  cases s with
  | none =>
    have e : v = .non := k
    subst e
    exact .non
  | some i =>
    have e : v = .int i := k
    subst e
    exact .int i, by cases s <;> rfl⟩
theorem pdOpt_eqv {a b : Option Int} : PyData.eqv (pdOpt a) (pdOpt b) = decide (a = b) := by
  cases a <;> cases b <;> simp [pdOpt, PyData.eqv]
  rename_i x y
  by_cases h : x = y <;> simp [h]
mutual
theorem pdPl_eqv : ∀ (a b : Pl), PyData.eqv (pdPl a) (pdPl b) = true → a = b
  | .leaf n s, .leaf m t, h => by
    simp only [pdPl, PyData.eqv, PyData.eqvAll, pdOpt_eqv, Bool.and_true, Bool.and_eq_true, decide_eq_true_eq, beq_iff_eq] at h
    obtain ⟨_, h1, h2⟩ := h
    rw [h1, h2]
  | .leaf n s, .lot r m ps, h => by
    cases r <;> cases s <;> simp [pdPl, PyData.eqv, PyData.eqvAll, pdOpt] at h
  | .lot r m ps, .leaf n s, h => by
    cases r <;> cases s <;> simp [pdPl, PyData.eqv, PyData.eqvAll, pdOpt] at h
  | .lot r n ps, .lot q m qs, h => by
    simp only [pdPl, PyData.eqv, PyData.eqvAll, Bool.and_true, Bool.and_eq_true, decide_eq_true_eq, beq_iff_eq] at h
    obtain ⟨h0, h1, h2⟩ := h
    have hr : r = q := by
      cases r <;> cases q
      · rfl
      · exact absurd (show ("bundle" : Str) = "row" from h0) (by decide +kernel)
      · exact absurd (show ("row" : Str) = "bundle" from h0) (by decide +kernel)
      · rfl
    rw [hr, h1, pdPs_eqv ps qs h2]
theorem pdPs_eqv : ∀ (a b : List (Int × Pl)), PyData.eqvAll (pdPs a) (pdPs b) = true → a = b
  | [], [], _ => rfl
  | [], (j, w) :: b, h => by simp [pdPs, PyData.eqvAll] at h
  | (i, w) :: a, [], h => by simp [pdPs, PyData.eqvAll] at h
  | (i, w) :: a, (j, z) :: b, h => by
    simp only [pdPs, PyData.eqv, PyData.eqvAll, Bool.and_true, Bool.and_eq_true, decide_eq_true_eq, beq_iff_eq] at h
    obtain ⟨⟨h1, h2⟩, h3⟩ := h
    rw [h1, pdPl_eqv w z h2, pdPs_eqv a b h3]
end
mutual
theorem pdPl_refl : ∀ (a : Pl), PyData.eqv (pdPl a) (pdPl a) = true
  | .leaf n s => by simp [pdPl, PyData.eqv, PyData.eqvAll, pdOpt_eqv]
  | .lot r n ps => by simp [pdPl, PyData.eqv, PyData.eqvAll, pdPs_refl ps]
theorem pdPs_refl : ∀ (a : List (Int × Pl)), PyData.eqvAll (pdPs a) (pdPs a) = true
  | [] => by simp [pdPs, PyData.eqvAll]
  | (i, w) :: a => by simp [pdPs, PyData.eqv, PyData.eqvAll, pdPl_refl w, pdPs_refl a]
end
theorem dpAll_bools {K : PySem.W.Frag} {G : Hp} : ∀ {ns : List Bool}, DpAll K G (ns.map V.bl) (ns.map PyData.bool)
  | [] => .nil
  | b :: l => .cons (.bl b) dpAll_bools
theorem eqv_bools {K : PySem.W.Frag} {ns : List Bool} : Eqv K (rLst rBool) ns (.list (ns.map .bool)) := ⟨fun G v ⟨p, vs, e, h, h2⟩ => by
  subst e
  refine .lst (.inl (.inl h)) ?_
  rw [all2_bool h2]
  exact dpAll_bools, by
  have z : ∀ l : List Bool, PyData.canLayAll0 (l.map .bool) = true := fun l => by
    induction l with
    | nil => rfl
    | cons a l ih => simp [PyData.canLayAll0, PyData.canLay0, ih]
  have d : ∀ l : List Bool, PyData.depthAll (l.map PyData.bool) ≤ 1 := fun l => by
    induction l with
    | nil => simp [PyData.depthAll]
    | cons a l ih => simp [PyData.depthAll, PyData.depth]; omega
  unfold SeqAt.shaped
  have := d ns
  simp only [PyData.canLay0, z, PyData.depth, Bool.true_and]
  exact decide_eq_true (by omega)⟩
theorem bools_eqv {a b : List Bool} : PyData.eqv (.list (a.map .bool)) (.list (b.map .bool)) = decide (a = b) := by
  have k : ∀ a b : List Bool, PyData.eqvAll (a.map .bool) (b.map .bool) = decide (a = b) := fun a => by
    induction a with
    | nil => intro b; cases b <;> simp [PyData.eqvAll]
    | cons x a ih =>
      intro b
      cases b with
      | nil => simp [PyData.eqvAll]
      | cons y b =>
        simp only [List.map_cons, PyData.eqvAll, PyData.eqv, ih, List.cons.injEq, Bool.decide_and]
        cases x <;> cases y <;> rfl
  simp only [PyData.eqv, k]
/-- an empty list of anything -/
theorem eqv_nil {K : PySem.W.Frag} {α : Type} {r : Rp α} : Eqv K (rLst r) ([] : List α) (.list []) := ⟨fun G v ⟨p, vs, e, h, h2⟩ => by
  subst e
  cases h2
  exact .lst (.inl (.inl h)) .nil, rfl⟩
end Hf

namespace Hf
open PySem PySem.Spec PyProof.Rows L2 ClX

/-! ### plain works taken apart and put together -/
theorem PlAt.three {K : PySem.W.Frag} {G : Hp} {v : V} {w : Pl} (h : PlAt K G v w) : ∃ a z, v = .ref a ∧ SqT K G a [.str w.kind, .str w.name, z] ∧ (w.isLeaf = true → z = oV w.steps) ∧ (w.isLeaf = false → ∃ p vs, z = .ref p ∧ G p = some (.lst vs) ∧ All2 (rT2 K rInt (rPl K)) G vs w.parts) := by
  cases h with
  | leaf h1 => exact ⟨_, _, rfl, h1, fun _ => rfl, fun z => by simp [Pl.isLeaf] at z⟩
  | lot h1 h2 h3 => exact ⟨_, _, rfl, h1, fun z => by simp [Pl.isLeaf] at z, fun _ => ⟨_, _, rfl, h2, ppAt_all.mp h3⟩⟩
/-- the classes of works, by their names -/
abbrev cW (K : PySem.W.Frag) : WC := ⟨He.ga K "Leaf", He.ga K "Row", He.ga K "Bundle"⟩
def Pl.isRow : Pl → Bool
  | .lot true _ _ => true
  | _ => false
def Pl.isBun : Pl → Bool
  | .lot false _ _ => true
  | _ => false
structure WcTy (K : PySem.W.Frag) (c : WC) (W : Addr) : Prop where
  ha : ∀ w, PySem.W.findIn K (.ref (c.of w)) "__class__" = some (some (.builtin "object.__class__"))
  hn : PySem.W.specialIn K (.builtin "object.__class__") "__get__" = some (some (.builtin "getset_descriptor.__get__"))
  ht : PySem.W.takesIn K (.builtin "object.__class__") = some true
  hm : ∀ w, PySem.W.mroIn K (c.of w) (.type "object") = some true
  work : ∀ w, PySem.W.kitOne K (.ref (c.of w)) (.ref W) = some true
  leaf : ∀ w, PySem.W.kitOne K (.ref (c.of w)) (.ref c.L) = some w.isLeaf
  row : ∀ w, PySem.W.kitOne K (.ref (c.of w)) (.ref c.R) = some w.isRow
  bun : ∀ w, PySem.W.kitOne K (.ref (c.of w)) (.ref c.B) = some w.isBun
theorem kind_wk {K : PySem.W.Frag} {c : WC} {W : Addr} {w : Pl} (ok : WcOk K c) (t : WcTy K c W) : KindV K (rWk K c) w (.ref (c.of w)) := fun G v h => by
  obtain ⟨a, dx, hd, vs, e1, h1, h2, h3⟩ := WkAt.obj h
  subst e1
  exact .base (.ins h1 (ok.cls w) (t.ha w) t.hn t.ht (t.hm w))
section
variable {X : Cx} {E : Ent} {Γ Γ' Γ1 Γ2 : List Slot} {D : Ends} {e f g o : Expr} {es : List Expr} {rest : List Stmt} {pos p p2 apos cpos : Pos} {α β γ ι : Type} {r : Rp α} {x : α} {s : Rp β} {y : β} {ps : List Par} {ss : List Src} {k j : Nat} {u v n : Str} {i : Int} {as : List α} {w : Pl} {c : WC} {m : Str} {pl : Sem Bool}
theorem ev_pl0 {k : Nat} (h : Ev X Γ e (rPl X.K) w) : Ev X Γ (.Subscript e (.Constant (.int 0) k p2) pos) rStr w.kind := fun E G H σ hh Q q =>
  WE.of (pe_ix ix_tup WE.pe pe_int (plain_of rfl)) (h E G H σ hh _ fun v G1 H1 l1 r1 => by
    obtain ⟨a, z, e1, h1, _, _⟩ := PlAt.three r1
    exact ⟨a, _, 0, _, e1, rfl, Evl.ex_t l1.gh h1, rfl, q _ G1 H1 l1 rfl⟩)
theorem ev_pl1 {k : Nat} (h : Ev X Γ e (rPl X.K) w) : Ev X Γ (.Subscript e (.Constant (.int 1) k p2) pos) rStr w.name := fun E G H σ hh Q q =>
  WE.of (pe_ix ix_tup WE.pe pe_int (plain_of rfl)) (h E G H σ hh _ fun v G1 H1 l1 r1 => by
    obtain ⟨a, z, e1, h1, _, _⟩ := PlAt.three r1
    exact ⟨a, _, 1, _, e1, rfl, Evl.ex_t l1.gh h1, rfl, q _ G1 H1 l1 rfl⟩)
theorem ev_pl2s {k : Nat} (hw : w.isLeaf = true) (h : Ev X Γ e (rPl X.K) w) : Ev X Γ (.Subscript e (.Constant (.int 2) k p2) pos) (rOpt rInt) w.steps := fun E G H σ hh Q q =>
  WE.of (pe_ix ix_tup WE.pe pe_int (plain_of rfl)) (h E G H σ hh _ fun v G1 H1 l1 r1 => by
    obtain ⟨a, z, e1, h1, h2, _⟩ := PlAt.three r1
    refine ⟨a, _, 2, _, e1, rfl, Evl.ex_t l1.gh h1, rfl, q _ G1 H1 l1 ?_⟩
    rw [h2 hw]
    cases w.steps <;> rfl)
theorem ev_pl2p {k : Nat} (hw : w.isLeaf = false) (h : Ev X Γ e (rPl X.K) w) : Ev X Γ (.Subscript e (.Constant (.int 2) k p2) pos) (rLst (rT2 X.K rInt (rPl X.K))) w.parts := fun E G H σ hh Q q =>
  WE.of (pe_ix ix_tup WE.pe pe_int (plain_of rfl)) (h E G H σ hh _ fun v G1 H1 l1 r1 => by
    obtain ⟨a, z, e1, h1, _, h2⟩ := PlAt.three r1
    exact ⟨a, _, 2, _, e1, rfl, Evl.ex_t l1.gh h1, rfl, q _ G1 H1 l1 (h2 hw)⟩)
theorem Ev.plLeaf {s : Option Int} (h : Ev X Γ e (rT3 X.K rStr rStr (rOpt rInt)) ("leaf", n, s)) : Ev X Γ e (rPl X.K) (.leaf n s) := fun E G H σ hh Q q => h E G H σ hh _ fun v G1 H1 l1 ⟨a, x, y, z, e1, h1, h2, h3, h4⟩ => q v G1 H1 l1 (by
  have e2 : x = .str "leaf" := h2
  have e3 : y = .str n := h3
  have e4 : z = oV s := rOpt_oV h4
  subst e1 e2 e3 e4
  exact .leaf h1)
theorem Ev.plLot {row : Bool} {ks : Str} {ps : List (Int × Pl)} (hk : ks = (Pl.lot row n ps).kind) (h : Ev X Γ e (rT3 X.K rStr rStr (rLst (rT2 X.K rInt (rPl X.K)))) (ks, n, ps)) : Ev X Γ e (rPl X.K) (.lot row n ps) := fun E G H σ hh Q q => h E G H σ hh _ fun v G1 H1 l1 ⟨a, x, y, z, e1, h1, h2, h3, p, vs, e4, h4, h5⟩ => q v G1 H1 l1 (by
  have e2 : x = .str ks := h2
  have e3 : y = .str n := h3
  subst e1 e2 e3 e4 hk
  exact .lot h1 h4 (ppAt_all.mpr h5))
/-! ### a method that hands back a new list -/
def HasVO (P : Program) (w : World) (K : PySem.W.Frag) (mg : Str → Option Value) (base : Heap) (c : WC) (m : Str) (k : Nat) {ι : Type} (self : ι → Pl) (Pre : ι → Prop) (args : ι → List Ty) (oc : ι → Oc) : Prop :=
  ∀ y, Pre y → HasM P w K mg base (c.of (self y)) m k (OSp (fun z => z = y) (fun z => ⟨rWk K c, self z⟩ :: args z) oc)
theorem eo_vm0 {self : ι → Pl} {Pre : ι → Prop} {args : ι → List Ty} {oc : ι → Oc} {z : Oc} (h : HasVO X.prog X.w X.K X.mg X.base c m k self Pre args oc) (hr : Room j X.A) (hk : k ≤ j) (y : ι) (hp : Pre y) (ho : Ev X Γ o (rWk X.K c) (self y)) (ha : args y = []) (hz : oc y = z := by rfl)
    (hf : ∀ n hd v, (wkF n hd v).lookup m = none := by intro _ _ _; rfl)
    (ht : eval (.Call (.Attribute o m apos) [] [] pos) X.env = (do
      let ov ← eval o X.env
      standAt apos.atName
      let (f, first) ← holding [ov] (getMethod ov m pl)
      callWith pos f first (backTo pos (starEach [] X.env)) (backToKw pos (keywordEach [] X.env))) := by rfl) : EvO X Γ (.Call (.Attribute o m apos) [] [] pos) z := fun E G H σ hh Q q =>
  we_meth0 (h y hp) hr hk (ho E G H σ hh _ fun v G1 H1 l1 r1 => by
    obtain ⟨a, dx, hd, vs, e1, h1, h2, h3⟩ := WkAt.obj r1
    subst e1
    refine ⟨a, dx, _, rfl, l1.gh _ _ h1, hf _ _ _, y, G1, rfl, l1.gh, ⟨r1, by rw [ha]; trivial⟩, fun p ob G3 H3 n l3 g3 h3 c3 => q p ob G3 H3 (Evl.fresh_back l1.h n) (l1.trans l3) g3 h3 (hz ▸ c3)⟩) ht
/-! ### C(e, k = v) -/
structure HasK (P : Program) (w : World) (K : PySem.W.Frag) (mg : Str → Option Value) (base : Heap) (x : Str) (C : Addr) (ks : List Str) (k : Nat) (sp : Sp) : Prop where
  ex : ∃ (f : Addr) (fd : FuncData) (ps : List Str) (g : List Value → List Value → List Value) (gV : List V → List V → List V), mg x = some (.ref C) ∧ Mk K C f ∧ KBn K fd ps 2 ks g gV ∧ FnOk P w K mg base (CXL P w) k f fd ps sp ∧ ∀ a u z, gV [a, u] [z] = [a, u, z]
theorem ev_makeK {fn kw : Str} {C : Addr} {kpos : Pos} {Pre : ι → Prop} {t1 t2 : ι → Ty} {oc : ι → Oc} {z : α} (h : HasK X.prog X.w X.K X.mg X.base fn C [kw] k (MSp Pre (fun y => [.ow (oIns C [] []), .ty (t1 y), .ty (t2 y)]) rNon (fun _ => ()) (fun y => [oc y]))) (hr : Room j X.A) (hk : k + 1 ≤ j) (y : ι) (hp : Pre y)
    (ha : Ev X Γ e (t1 y).r (t1 y).a) (hb : Ev X Γ f (t2 y).r (t2 y).a) (fz : Frz (oc y) r z) (hg : Gl X fn := by rfl) (hdb : (fn == ("__debug__" : Str)) = false := by decide)
    (hall : (backToKw pos (keywordEach [⟨some kw, f, kpos⟩] X.env)).all (·.1.isSome) = true := by rfl) (hks : (backToKw pos (keywordEach [⟨some kw, f, kpos⟩] X.env)).filterMap (·.1) = [kw] := by rfl)
    (he : starEach (e :: []) X.env = (false, eval e X.env) :: starEach [] X.env := by rfl)
    (hpl : ((backTo pos (starEach (e :: []) X.env)).any (·.1) || (backToKw pos (keywordEach [⟨some kw, f, kpos⟩] X.env)).any (·.1.isNone)) = false := by rfl) : Ev X Γ (.Call (.Name fn p) [e] [⟨some kw, f, kpos⟩] pos) r z := fun E G H σ hh Q q => by
  obtain ⟨f0, fd, ps0, g, gV, hm, mk, kb, F, hgv⟩ := h.ex
  refine WE.of (pe_makeN (n := 1) mk F (hr.mono hk) hg hm kb passL (pa_cons WE.pe pa_nil he) (pk_cons WE.pe pk_nil) hall hks hdb he hpl) ?_
  refine ha E G H σ hh _ fun v G1 H1 l1 r1 => hb E G1 H1 σ (hh.step l1) _ fun u G2 H2 l2 r2 => ⟨rfl, rfl, fun a dx na nx ne => ?_⟩
  rw [hgv]
  have l := l1.trans l2
  have g2a : G2 a = none := Evl.fresh_back l2.gh na
  have l3 : Le G2 H2 G2 (upd (upd H2 dx (.own a)) a (.ins C dx [])) := by
    have z1 : Le G2 H2 G2 (upd H2 dx (.own a)) := (Le.refl l2.gh).addO nx
    exact z1.addO (by rw [upd_ne (fun w => ne w.symm)]; exact na)
  refine ⟨y, G2, [a], hp, l3.gh, by simp, ⟨⟨rfl, g2a, _, upd_same, dx, [], rfl, trivial, rfl⟩, (t1 y).r.mono l2.g r1, r2, trivial⟩, fun v3 G3 H3 l4 w4 r3 => ⟨r3, ?_⟩⟩
  obtain ⟨⟨ga, oa, ha3, ca⟩, _⟩ := w4
  refine q _ (upd G3 a oa) H3 ⟨(l.g.trans l4.g).trans (Evl.Ex.new ga), fun b o z => ?_, fun b o z => ?_, fun b o z1 z2 => ?_⟩ (fz G3 a oa ga ca)
  · have ne : b ≠ a := fun w => by subst w; rw [Evl.fresh_back l.h na] at z; cases z
    rcases l4.h b o (l3.h _ _ (l.h _ _ z)) with ⟨_, w⟩ | ⟨m, _⟩
    · exact w
    · simp only [List.mem_singleton] at m
      exact absurd m ne
  · by_cases w : b = a
    · subst w; rw [upd_same] at z; cases z; exact ha3
    · rw [upd_ne w] at z; exact l4.gh b o z
  · by_cases w : b = a
    · subst w; exact Evl.fresh_back l.h na
    · rw [upd_ne w] at z1
      cases q : G2 b with
      | some o2 => exact l.new b o2 q z2
      | none => exact Evl.fresh_back (l.h.trans l3.h) (l4.new b o z1 q)
end
end Hf

namespace Hf
open PySem PySem.Spec PyProof.Rows L2 ClX

theorem RetN.eqP {E : Ent} {D : Ends} {ps : List Addr} {post post' : List Oc} {α : Type} {r : Rp α} {a a' : α} (h : RetN E D ps post r a) (q : a = a') (q2 : post = post') : RetN E D ps post' r a' := q ▸ q2 ▸ h
theorem leaf_of {w : Pl} {b : Bool} (h : decide (w.kind = ("leaf" : Str)) = b) : w.isLeaf = b := by
  subst h
  cases w with
  | leaf n s => exact (decide_eq_true rfl).symm
  | lot r n ps =>
    cases r
    · exact (decide_eq_false (show ¬ ("bundle" : Str) = "leaf" by decide +kernel)).symm
    · exact (decide_eq_false (show ¬ ("row" : Str) = "leaf" by decide +kernel)).symm
theorem leaf_ne {w : Pl} {b : Bool} (h : (!decide (w.kind = ("leaf" : Str))) = b) : w.isLeaf = !b := by
  have z := leaf_of (w := w) rfl
  rw [z, ← h, Bool.not_not]
theorem row_of {w : Pl} {b : Bool} (h : decide (w.kind = ("row" : Str)) = b) : w.isRow = b := by
  subst h
  cases w with
  | leaf n s => exact (decide_eq_false (show ¬ ("leaf" : Str) = "row" by decide +kernel)).symm
  | lot r n ps =>
    cases r
    · exact (decide_eq_false (show ¬ ("bundle" : Str) = "row" by decide +kernel)).symm
    · exact (decide_eq_true rfl).symm
theorem bun_of {w : Pl} {b : Bool} (h : decide (w.kind = ("bundle" : Str)) = b) : w.isBun = b := by
  subst h
  cases w with
  | leaf n s => exact (decide_eq_false (show ¬ ("leaf" : Str) = "bundle" by decide +kernel)).symm
  | lot r n ps =>
    cases r
    · exact (decide_eq_true rfl).symm
    · exact (decide_eq_false (show ¬ ("row" : Str) = "bundle" by decide +kernel)).symm
section
variable {X : Cx} {E : Ent} {Γ Γ' Γ1 Γ2 : List Slot} {D : Ends} {e f g o : Expr} {es : List Expr} {rest : List Stmt} {pos p p2 apos cpos : Pos} {α β γ ι : Type} {r : Rp α} {x : α} {s : Rp β} {y : β} {ps : List Par} {ss : List Src} {k j : Nat} {u v n : Str} {i : Int} {as : List α} {c : WC} {m : Str} {pl : Sem Bool}
theorem bk_retP {is : List Nat} {ps : List Addr} {post : List Oc} (he : EvM X Γ Γ' e r x) (k : RetN E D ps post r x) (hs : StillI Γ' is ps post) : Bk X E Γ (.Return (some e) pos :: rest) D :=
  bk_of (ps_ret WE.pe) fun G H σ hh => he E G H σ hh _ fun v G1 H1 g1 h1 r1 => k v G1 H1 h1.le (StillI.ows h1 hs) r1
theorem bk_retE (he : EvM X Γ Γ' e r x) (k : RetOk E D r x) : Bk X E Γ (.Return (some e) pos :: rest) D :=
  bk_of (ps_ret WE.pe) fun G H σ hh => he E G H σ hh _ fun v G1 H1 g1 h1 r1 => k v G1 H1 h1.le r1
theorem em_ifE {p : Bool} {x' : α} (h : EvT X Γ e p) (h1 : p = true → EvM X Γ Γ' f r x) (h2 : p = false → EvM X Γ Γ' g r x') : EvM X Γ Γ' (.IfExp e f g pos) r (if p = true then x else x') := fun E G H σ hh Q k => WE.of (pe_ifExp WT.pt WE.pe WE.pe) (h E G H σ hh _ fun G1 H1 l1 => by
  cases p with
  | true =>
    rw [if_pos rfl] at k ⊢
    exact h1 rfl E G1 H1 σ (hh.step l1) Q fun a G2 H2 l2 h2 r2 => k a G2 H2 (l1.g.trans l2) h2 r2
  | false =>
    rw [if_neg Bool.false_ne_true] at k ⊢
    exact h2 rfl E G1 H1 σ (hh.step l1) Q fun a G2 H2 l2 h2 r2 => k a G2 H2 (l1.g.trans l2) h2 r2)
theorem EvM.eq {x' : α} (h : EvM X Γ Γ' e r x) (q : x = x') : EvM X Γ Γ' e r x' := q ▸ h
/-- C(e, ..) of new things and of what is only read -/
theorem ev_make {fn : Str} {C : Addr} {Pre : ι → Prop} {pars : ι → List Par} {post : ι → List Oc} {c : ι → Oc} {z : α} (h : HasI X.prog X.w X.K X.mg X.base fn C k (MSp Pre (fun y => .ow (oIns C [] []) :: pars y) rNon (fun _ => ()) (fun y => c y :: post y))) (hr : Room j X.A) (hk : k + 1 ≤ j) (y : ι) (hp : Pre y)
    (ha : EvP X Γ (e :: es) (pars y) ss) (fz : Frz (c y) r z) (nd : slOf ss = [] := by decide) (hg : Gl X fn := by rfl) (hdb : (fn == ("__debug__" : Str)) = false := by decide)
    (he : starEach (e :: es) X.env = (false, eval e X.env) :: starEach es X.env := by rfl) (hpl : (backTo pos (starEach es X.env)).any (·.1) = false := by rfl) : Ev X Γ (.Call (.Name fn p) (e :: es) [] pos) r z := fun E G H σ hh Q q => by
  obtain ⟨f0, fd, ps0, spF, dvs, ds, hm, mk, hb, hd, F, hi⟩ := h.ex
  refine WE.of (pe_make mk F (hr.mono hk) hg hm hb hd passL WA.pa hdb he hpl) ?_
  refine ha E G H σ hh _ fun vs as G1 H1 l1 n1 f1 s1 a dx na nx ne => hi (.ref a :: vs) _ _ ?_
  have g1a : G1 a = none := Evl.fresh_back l1.gh na
  have l2 : Le G1 H1 G1 (upd (upd H1 dx (.own a)) a (.ins C dx [])) := by
    have z1 : Le G1 H1 G1 (upd H1 dx (.own a)) := (Le.refl l1.gh).addO nx
    exact z1.addO (by rw [upd_ne (fun w => ne w.symm)]; exact na)
  have naa : a ∉ as := fun m => by obtain ⟨o, w⟩ := (f1.mem a m).2; rw [na] at w; cases w
  have fresh : ∀ b ∈ as, H b = none := fun b m => by
    rcases s1.mem hh m with z | ⟨i, k1, _⟩
    · exact z
    · rw [nd] at k1; simp at k1
  refine ⟨y, G1, a :: as, hp, l2.gh, List.nodup_cons.mpr ⟨naa, n1⟩, ⟨⟨rfl, g1a, _, upd_same, dx, [], rfl, trivial, rfl⟩, f1.step l2⟩, fun v G3 H3 l3 w3 r3 => ⟨r3, ?_⟩⟩
  obtain ⟨⟨ga, oa, ha3, ca⟩, _⟩ := w3
  refine q _ (upd G3 a oa) H3 ⟨(l1.g.trans l3.g).trans (Evl.Ex.new ga), fun b o z => ?_, fun b o z => ?_, fun b o z1 z2 => ?_⟩ (fz G3 a oa ga ca)
  · rcases l3.h b o (l2.h _ _ (l1.h _ _ z)) with ⟨_, w⟩ | ⟨m, _⟩
    · exact w
    · rcases List.mem_cons.mp m with rfl | m
      · rw [Evl.fresh_back l1.h na] at z; cases z
      · rw [fresh b m] at z; cases z
  · by_cases w : b = a
    · subst w; rw [upd_same] at z; cases z; exact ha3
    · rw [upd_ne w] at z; exact l3.gh b o z
  · by_cases w : b = a
    · subst w; exact Evl.fresh_back l1.h na
    · rw [upd_ne w] at z1
      cases q : G1 b with
      | some o2 => exact l1.new b o2 q z2
      | none => exact Evl.fresh_back (l1.h.trans l2.h) (l3.new b o z1 q)
end
/-! ### recursion: what is never asked holds -/
section
variable {P : Program} {w : World} {K : PySem.W.Frag} {mg : Str → Option Value} {base : Heap} {CX : CXT} {f : Addr} {fd : FuncData} {ps : List Str} {k : Nat} {sp : Sp} {c : WC} {m : Str}
theorem fn_vac (h : ∀ vs H Q E, ¬ sp vs H Q E) : FnOk P w K mg base CX k f fd ps sp :=
  ⟨fun vs H Q E z => (h vs H Q E z).elim, fun A outer s H args us vs Q E _ _ _ _ z => (h vs H Q E z).elim⟩
theorem HasV.mk {ι α : Type} {self : ι → Pl} {Pre : ι → Prop} {args : ι → List Ty} {r : Rp α} {res : ι → α} (cl : ∀ w, Cls K (c.of w)) (hm : ∀ w, Meth K (c.of w) m f) (hb : Binds K fd ps []) (F : FnOk P w K mg base (CXL P w) k f fd ps (PSp Pre (fun z => ⟨rWk K c, self z⟩ :: args z) r res)) : HasV P w K mg base c m k self Pre args r res := fun y hp =>
  (HasM.mk0 (cl _) (hm _) hb F).sub (Nat.le_refl _) fun vs H Q ⟨z, G, e, h⟩ => ⟨z, G, e ▸ hp, h⟩
theorem HasVO.mk {ι : Type} {self : ι → Pl} {Pre : ι → Prop} {args : ι → List Ty} {oc : ι → Oc} (cl : ∀ w, Cls K (c.of w)) (hm : ∀ w, Meth K (c.of w) m f) (hb : Binds K fd ps []) (F : FnOk P w K mg base (CXL P w) k f fd ps (OSp Pre (fun z => ⟨rWk K c, self z⟩ :: args z) oc)) : HasVO P w K mg base c m k self Pre args oc := fun y hp =>
  (HasM.mk0 (cl _) (hm _) hb F).sub (Nat.le_refl _) fun vs H Q ⟨z, G, e, h⟩ => ⟨z, G, e ▸ hp, h⟩
end
end Hf

namespace Hf
open PySem PySem.Spec PyProof.Rows L2 ClX
theorem nn_wk {K : PySem.W.Frag} {c : WC} : NN (rWk K c) := ⟨fun G v a h => by obtain ⟨p, _, _, _, e, _⟩ := WkAt.obj h; rw [e]; simp⟩
theorem nn_pl {K : PySem.W.Frag} : NN (rPl K) := ⟨fun G v a h => by obtain ⟨p, _, e, _⟩ := PlAt.three h; rw [e]; simp⟩
section
variable {X : Cx} {E : Ent} {Γ Γ' Γ1 Γ2 : List Slot} {D : Ends} {e f g o : Expr} {es : List Expr} {rest : List Stmt} {pos p p2 apos cpos : Pos} {α β γ ι : Type} {r : Rp α} {x : α} {as : List α}
/-- xs.pop(0) of a list that isn't empty -/
theorem em_popH (i : Nat) {d : α} {a : Str} {pq : Option Addr} {k : Nat} {cp : Pos} (hn : as ≠ []) (hg : Γ[i]? = some (.ow (oLst r as) pq))
    (hpe : PE X (.Call (.Attribute (.Name a p) "pop" apos) [.Constant (.int 0) k cp] [] cpos) (tBM X.K "list" rPopAt (tVar i) (tCons (WE X (.Constant (.int 0) k cp)) tNil)) := by exact pe_bm PySem.F.plainAttrs_list PySem.F.slot_list_pop PySem.F.type_list_pop mt_popAt (pv _) (pa_cons WE.pe pa_nil)) :
    EvM X Γ (Γ.set i (.ow (oLst r as.tail) pq)) (.Call (.Attribute (.Name a p) "pop" apos) [.Constant (.int 0) k cp] [] cpos) r (as.headD d) := by
  cases as with
  | nil => exact absurd rfl hn
  | cons b l => exact em_pop0 (x := b) (as := l) i hg hpe
theorem bk_setMg (i : Nat) {a : Str} {p : Pos} (nd : X.N.Nodup) (he : EvM X Γ Γ' e r x) (k : ∀ y, y = x → Bk X E (Γ'.set i (.sh r y)) rest D) (hi : X.N[i]? = some a := by rfl) (hx : Loc X.env.scope a := by first | exact Or.inl rfl | exact Or.inr rfl)
    (hs : swapsWith e (some (.Name a p)) pos.line X.env = pure false := by rfl) (hf : X.fn a = true ∨ X.env.scope.names.lookup a = some .local := by first | exact .inl rfl | exact .inr rfl) : Bk X E Γ (.Assign [.Name a p] e pos :: rest) D := bk_setM i nd he (k x rfl) hi hx hs hf
end
end Hf

namespace Hf
open PySem PySem.Spec PyProof.Rows L2 ClX

/-! ### an object of one's own that an expression only looks at -/
def notTup : HO → Prop
  | .tup _ => False
  | .frz _ _ => False
  | _ => True
/-- what r tells does not hang on a list, a dict, an instance -/
def Thin {α : Type} (r : Rp α) (x : α) : Prop := ∀ (G : Hp) (p : Addr) (o : HO) (v : V), notTup o → r.rel (upd G p o) v x → r.rel G v x
theorem thin_int {i : Int} : Thin rInt i := fun _ _ _ _ _ h => h
theorem thin_bool {i : Bool} : Thin rBool i := fun _ _ _ _ _ h => h
theorem thin_str {i : Str} : Thin rStr i := fun _ _ _ _ _ h => h
theorem thin_non {i : Unit} : Thin rNon i := fun _ _ _ _ _ h => h
theorem thin_opt {α : Type} {r : Rp α} (h : ∀ x, Thin r x) {o : Option α} : Thin (rOpt r) o := fun G p ob v n k => by
  cases o with
  | none => exact k
  | some a => exact h a G p ob v n k
theorem sqT_thin {K : PySem.W.Frag} {G : Hp} {p : Addr} {o : HO} {a : Addr} {vs : List V} (n : notTup o) (h : SqT K (upd G p o) a vs) : SqT K G a vs := by
  rcases h with (h | ⟨ob, h⟩) | h
  · by_cases e : a = p
    · subst e; rw [upd_same] at h; cases h; exact n.elim
    · rw [upd_ne e] at h; exact .inl (.inl h)
  · by_cases e : a = p
    · subst e; rw [upd_same] at h; cases h; exact n.elim
    · rw [upd_ne e] at h; exact .inl (.inr ⟨ob, h⟩)
  · exact .inr h
theorem thin_T2 {K : PySem.W.Frag} {α β : Type} {r : Rp α} {s : Rp β} {x : α × β} (h1 : Thin r x.1) (h2 : Thin s x.2) : Thin (rT2 K r s) x := fun G p o v n ⟨a, y, z, e, k1, k2, k3⟩ => ⟨a, y, z, e, sqT_thin n k1, h1 G p o y n k2, h2 G p o z n k3⟩
def Oc.flat (c : Oc) : Prop := ∀ G o, c.rel G o → notTup o
theorem flat_lst {α : Type} {r : Rp α} {as : List α} : (oLst r as).flat := fun G o ⟨vs, e, _⟩ => by subst e; trivial
theorem flat_ins {C : Addr} {ns : List Str} {ts : List Ty} : (oIns C ns ts).flat := fun G o ⟨dx, vs, e, _⟩ => by subst e; trivial
def cutG (G : Hp) (p : Addr) : Hp := fun a => if a = p then none else G a
theorem cutG_upd {G : Hp} {p : Addr} {o : HO} (h : G p = some o) : upd (cutG G p) p o = G := by
  funext a
  by_cases e : a = p
  · subst e; rw [upd_same, h]
  · rw [upd_ne e]; unfold cutG; rw [if_neg e]
theorem look_holds {E : Ent} {G H : Hp} {σ : L2.St} {Γ Γ1 : List Slot} {α : Type} {r : Rp α} {x : α} {c : Oc} {q : Option Addr} {i : Nat} (hh : Holds E G H σ Γ) (hg : Γ[i]? = some (.ow c q)) (fz : Frz c r x) (l : Γ1.length = Γ.length)
    (w : ∀ (j : Nat) (s : Slot), Γ1[j]? = some s → s = .no ∨ (j = i ∧ s = .sh r x) ∨ (s.isOw = false ∧ Γ[j]? = some s)) :
    ∃ p o, H p = some o ∧ G p = none ∧ c.rel G o ∧ Holds { G := upd G p o, H := H } (upd G p o) H σ Γ1 := by
  obtain ⟨p, ob, h1, h2, h3, h4, h5⟩ := hh.ow hg
  have gx : Ex G (upd G p ob) := Evl.Ex.new h2
  have gh : Ex (upd G p ob) H := fun a u z => by
    by_cases e : a = p
    · subst e; rw [upd_same] at z; cases z; exact h4
    · rw [upd_ne e] at z; exact hh.le.gh a u z
  refine ⟨p, ob, h4, h2, h5, LeE.start gh, (fun a u z => by cases z), by rw [l]; exact hh.len, fun j s e => ?_, fun j1 j2 s t e1 e2 o1 o2 z => ?_⟩
  · rcases w j s e with rfl | ⟨rfl, rfl⟩ | ⟨o1, e'⟩
    · trivial
    · exact ⟨_, h1, fz G p ob h2 h5⟩
    · have z := hh.ok j s e'
      cases s with
      | no => trivial
      | sh r' a' =>
        obtain ⟨v, z1, z2⟩ := z
        exact ⟨v, z1, r'.mono gx z2⟩
      | ow c' q' => cases o1
  · rcases w j1 s e1 with rfl | ⟨rfl, rfl⟩ | ⟨n1, _⟩
    · cases o1
    · cases o1
    · rw [n1] at o1; cases o1
theorem look_le {G H G' H' : Hp} {p : Addr} {o : HO} (hp : H p = some o) (hn : G p = none) (l : Le (upd G p o) H G' H') : Le G H (cutG G' p) H' ∧ G' p = some o := by
  have gp : G' p = some o := l.g p o upd_same
  refine ⟨⟨fun a u z => ?_, l.h, fun a u z => ?_, fun a u z1 z2 => ?_⟩, gp⟩
  · have ne : a ≠ p := fun w => by subst w; rw [hn] at z; cases z
    unfold cutG
    rw [if_neg ne]
    exact l.g a u (by rw [upd_ne ne]; exact z)
  · unfold cutG at z
    split at z
    · cases z
    · exact l.gh a u z
  · unfold cutG at z1
    split at z1
    · cases z1
    · rename_i ne
      exact l.new a u z1 (by rw [upd_ne ne]; exact z2)
section
variable {X : Cx} {E : Ent} {Γ Γ' Γ1 Γ2 : List Slot} {D : Ends} {e f g o : Expr} {es : List Expr} {rest : List Stmt} {pos p p2 apos cpos : Pos} {α β γ ι : Type} {r : Rp α} {x : α} {s : Rp β} {y : β} {as : List α}
theorem ev_look (i : Nat) {c : Oc} {q : Option Addr} (hg : Γ[i]? = some (.ow c q)) (fl : c.flat) (fz : Frz c r x) (l : Γ1.length = Γ.length) (w : ∀ (j : Nat) (s : Slot), Γ1[j]? = some s → s = .no ∨ (j = i ∧ s = .sh r x) ∨ (s.isOw = false ∧ Γ[j]? = some s))
    (th : Thin s y) (he : Ev X Γ1 e s y) : Ev X Γ e s y := fun E G H σ hh Q k => by
  obtain ⟨p, o, h1, h2, h3, h4⟩ := look_holds hh hg fz l w
  refine he _ _ _ σ h4 Q fun v G' H' l' r' => ?_
  obtain ⟨l2, gp⟩ := look_le h1 h2 l'
  refine k v (cutG G' p) H' l2 (th _ p o v (fl _ _ h3) ?_)
  rw [cutG_upd gp]
  exact r'
theorem et_look (i : Nat) {c : Oc} {q : Option Addr} {b : Bool} (hg : Γ[i]? = some (.ow c q)) (fz : Frz c r x) (l : Γ1.length = Γ.length) (w : ∀ (j : Nat) (s : Slot), Γ1[j]? = some s → s = .no ∨ (j = i ∧ s = .sh r x) ∨ (s.isOw = false ∧ Γ[j]? = some s))
    (he : EvT X Γ1 e b) : EvT X Γ e b := fun E G H σ hh Q k => by
  obtain ⟨p, o, h1, h2, h3, h4⟩ := look_holds hh hg fz l w
  exact he _ _ _ σ h4 Q fun G' H' l' => k (cutG G' p) H' (look_le h1 h2 l').1
/-- how the slots are seen: lists alike but at i, where the own thing is read; other own things left out -/
def lookS (Γ : List Slot) (i : Nat) (s : Slot) : List Slot := (Γ.map fun t => match t with | .ow _ _ => Slot.no | t => t).set i s
theorem lookS_len {i : Nat} {s : Slot} : (lookS Γ i s).length = Γ.length := by simp [lookS]
theorem lookS_ok {i : Nat} : ∀ (j : Nat) (s : Slot), (lookS Γ i (.sh r x))[j]? = some s → s = .no ∨ (j = i ∧ s = .sh r x) ∨ (s.isOw = false ∧ Γ[j]? = some s) := fun j s h => by
  unfold lookS at h
  rcases get_set h with ⟨rfl, rfl⟩ | ⟨n, h⟩
  · exact .inr (.inl ⟨rfl, rfl⟩)
  · rw [List.getElem?_map] at h
    cases e : Γ[j]? with
    | none => rw [e] at h; cases h
    | some t =>
      rw [e] at h
      cases t with
      | no => cases h; exact .inl rfl
      | sh r' a => cases h; exact .inr (.inr ⟨rfl, rfl⟩)
      | ow c q => cases h; exact .inl rfl
theorem ev_lookS (i : Nat) {c : Oc} {q : Option Addr} (hg : Γ[i]? = some (.ow c q)) (fl : c.flat) (fz : Frz c r x) (th : Thin s y) (he : Ev X (lookS Γ i (.sh r x)) e s y) : Ev X Γ e s y := ev_look i hg fl fz lookS_len lookS_ok th he
theorem et_lookS (i : Nat) {c : Oc} {q : Option Addr} {b : Bool} (hg : Γ[i]? = some (.ow c q)) (fz : Frz c r x) (he : EvT X (lookS Γ i (.sh r x)) e b) : EvT X Γ e b := et_look i hg fz lookS_len lookS_ok he
theorem bk_lookS (i : Nat) {c : Oc} {q : Addr} (hg : Γ[i]? = some (.ow c (some q))) (fz : Frz c r x) (hD : ∀ G H σ, Holds E G H σ Γ → ∀ σ' H', Ex H H' → D.nx σ' H')
    (k : ∀ E1 : Ent, (∀ σ' G' H', LeE E1.G E1.H E1.M G' H' → D.nx σ' H') → Bk X E1 (lookS Γ i (.sh r x)) rest D) : Bk X E Γ rest D := bk_look i hg fz lookS_len lookS_ok hD k
end
/-! ### what makes a work -/
def letters : Str := "abcdefghijklmnopqrstuvwxyz"
def isNameB (name : Str) : Bool := (true && ((decide ((1 : Int) ≤ (name.length : Int)) && decide ((name.length : Int) ≤ (8 : Int))) && ((signs name).map fun q => inS q letters).all id))
def arePartsB (parts : List (Int × Pl)) : Bool := (decide (1 ≤ parts.length ∧ parts.length ≤ 6)) && parts.all fun q => isNum q.1 1 100
structure LotOk (row : Bool) (n : Str) (ps : List (Int × Pl)) : Prop where
  name : isNameB n = true
  parts : arePartsB ps = true
  nodup : (Pl.lot row n ps).names.Nodup
  count : (Pl.lot row n ps).names.length ≤ 20
  deep : (Pl.lot row n ps).depth ≤ 5
def StOk (s : Option Int) : Prop := ∀ i, s = some i → isNum i 1 1000 = true
end Hf

namespace Hf
open PySem PySem.Spec PyProof.Rows L2 ClX
/-! ### a value that is known itself; a list that is new since G0 -/
def rEx {α : Type} (r : Rp α) (v0 : V) : Rp α := ⟨fun G v a => v = v0 ∧ r.rel G v a, fun e ⟨h, k⟩ => ⟨h, r.mono e k⟩⟩
def rNw (G0 : Hp) {α : Type} (r : Rp α) : Rp (List α) := ⟨fun G v as => ∃ p vs, v = .ref p ∧ G0 p = none ∧ G p = some (.lst vs) ∧ All2 r G vs as, fun e ⟨p, vs, h, h0, k, a⟩ => ⟨p, vs, h, h0, e _ _ k, a.mono e⟩⟩
section
variable {X : Cx} {E : Ent} {Γ Γ' Γ1 Γ2 : List Slot} {D : Ends} {e f g o : Expr} {es : List Expr} {rest : List Stmt} {pos p p2 apos cpos : Pos} {α β γ ι : Type} {r : Rp α} {x : α} {s : Rp β} {y : β} {as : List α} {v0 v1 : V}
theorem Ev.ex (h : Ev X Γ e (rEx r v0) x) : Ev X Γ e r x := fun E G H σ hh Q q => h E G H σ hh Q fun v G' H' l k => q v G' H' l k.2
theorem Ev.nw {G0 : Hp} (h : Ev X Γ e (rNw G0 r) as) : Ev X Γ e (rLst r) as := fun E G H σ hh Q q => h E G H σ hh Q fun v G' H' l ⟨p, vs, h1, h0, h2, h3⟩ => q v G' H' l ⟨p, vs, h1, h2, h3⟩
/-- from here on the first two slots' values are known themselves -/
theorem bk_open2 {rest' : List Slot} (hΓ : Γ = .sh r x :: .sh s y :: rest') (ho : ∀ t ∈ rest', t = .no)
    (k : ∀ (E1 : Ent) (v0 v1 : V), (∀ G' H', LeE E1.G E1.H E1.M G' H' → LeE E.G E.H E.M G' H') → (∀ a, ¬ E1.M a) → r.rel E1.G v0 x → s.rel E1.G v1 y → Bk X E1 (.sh (rEx r v0) x :: .sh (rEx s v1) y :: rest') rest D) : Bk X E Γ rest D := fun G H σ hh => by
  subst hΓ
  obtain ⟨v0, a1, a2⟩ := hh.sh (i := 0) rfl
  obtain ⟨v1, b1, b2⟩ := hh.sh (i := 1) rfl
  refine k { G := G, H := H } v0 v1 (fun G' H' l => hh.le.step (l.le fun _ z => z)) (fun _ z => z) a2 b2 G H σ ⟨LeE.start hh.le.gh, (fun a o z => by cases z), hh.len, fun i t e => ?_, fun i j t u e1 e2 o1 o2 z => ?_⟩
  · match i, e with
    | 0, e => cases e; exact ⟨v0, a1, rfl, a2⟩
    | 1, e => cases e; exact ⟨v1, b1, rfl, b2⟩
    | i + 2, e =>
      have z := ho t (List.mem_of_getElem? (by simpa using e))
      subst z
      trivial
  · match i, e1 with
    | 0, e1 => cases e1; cases o1
    | 1, e1 => cases e1; cases o1
    | i + 2, e1 =>
      have z := ho t (List.mem_of_getElem? (by simpa using e1))
      subst z
      cases o1
/-- x = e, a new list that is frozen; that it is new is kept -/
theorem bk_setN (i : Nat) {a : Str} {p : Pos} (nd : X.N.Nodup) (he : EvO X Γ e (oLst r as)) (k : Bk X E (Γ.set i (.sh (rNw E.G r) as)) rest D) (hi : X.N[i]? = some a := by rfl) (hx : Loc X.env.scope a := by first | exact Or.inl rfl | exact Or.inr rfl)
    (hs : swapsWith e (some (.Name a p)) pos.line X.env = pure false := by rfl) (hf : X.fn a = true ∨ X.env.scope.names.lookup a = some .local := by first | exact .inl rfl | exact .inr rfl) : Bk X E Γ (.Assign [.Name a p] e pos :: rest) D :=
  bk_of (ps_set nd hi hx WE.pe hs hf) fun G H σ hh => he E G H σ hh _ fun q o G1 H1 n l1 g1 h1 ⟨vs, e1, c1⟩ => by
    subst e1
    have g0 : E.G q = none := Evl.fresh_back (hh.le.g.trans hh.le.gh) n
    exact k (upd G1 q (.lst vs)) H1 _ ((hh.step (l1.frz h1 n g1)).set_sh ⟨q, vs, rfl, g0, upd_same, c1.mono (Evl.Ex.new g1)⟩)
/-- the new list is one's own again: what the first two slots hold is older -/
theorem bk_reown (i : Nat) {n : Nat} (hm : ∀ a, ¬ E.M a) (h0 : Γ[0]? = some (.sh (rEx r v0) x)) (h1 : Γ[1]? = some (.sh (rEx s v1) y)) {as : List γ} {t : Rp γ} (hi : Γ[i + 2]? = some (.sh (rNw E.G t) as)) (r0 : r.rel E.G v0 x) (r1 : s.rel E.G v1 y) (hl : Γ.length = n + 2) (hin : i < n)
    (k : ∀ (E1 : Ent) (p : Addr) (vs : List V), (∀ G' H', LeE E1.G E1.H E1.M G' H' → LeE E.G E.H E.M G' H') → Bk X E1 (.sh r x :: .sh s y :: (List.replicate n Slot.no).set i (.ow (oLst rV vs) (some p))) rest D) : Bk X E Γ rest D := fun G H σ hh => by
  obtain ⟨w0, a1, a2, _⟩ := hh.sh h0
  obtain ⟨w1, b1, b2, _⟩ := hh.sh h1
  obtain ⟨w2, c1, p, vs, c2, c3, c4, c5⟩ := hh.sh hi
  subst a2 b2 c2
  have hp : H p = some (.lst vs) := hh.le.gh _ _ c4
  have e0 : E.H p = none := hh.le.new p _ c4 c3
  have all : ∀ vs : List V, All2 rV E.G vs vs := fun vs => by
    induction vs with
    | nil => exact .nil
    | cons v l ih => exact .cons rfl ih
  refine k { G := E.G, H := H, M := fun a => a = p } p vs (fun G' H' l => ⟨l.g, fun a o z => ?_, l.gh, fun a o z1 z2 => ?_, fun a z => absurd z (hm a)⟩) E.G H σ ⟨⟨.refl _, fun a o z => ?_, hh.le.g.trans hh.le.gh, fun a o z1 z2 => ?_, fun a z => ?_⟩, (fun a o z => by cases z), ?_, fun j u e => ?_, fun j1 j2 u u' e1 e2 o1 o2 z => ?_⟩
  · have ne : a ≠ p := fun w => by subst w; rw [e0] at z; cases z
    have hz : H a = some o := by
      rcases hh.le.h a o z with ⟨_, w⟩ | ⟨m, _⟩
      · exact w
      · exact absurd m (hm a)
    rcases l.h a o hz with ⟨_, w⟩ | ⟨m, _⟩
    · exact .inl ⟨hm a, w⟩
    · exact absurd m ne
  · exact hh.le.fresh (l.new a o z1 z2)
  · by_cases w : a = p
    · exact .inr ⟨w, o, z⟩
    · exact .inl ⟨w, z⟩
  · change E.G a = some o at z1
    change E.G a = none at z2
    rw [z1] at z2
    cases z2
  · subst z
    exact ⟨c3, _, hp⟩
  · rw [hh.len, hl]
    simp
  · match j, e with
    | 0, e => cases e; exact ⟨_, a1, r0⟩
    | 1, e => cases e; exact ⟨_, b1, r1⟩
    | j + 2, e =>
      simp only [List.getElem?_cons_succ] at e
      rcases get_set e with ⟨rfl, rfl⟩ | ⟨ne, e⟩
      · exact ⟨p, _, c1, c3, ⟨rfl, rfl⟩, hp, vs, rfl, all vs⟩
      · have z := List.mem_of_getElem? e
        rw [List.mem_replicate] at z
        rw [z.2]
        trivial
  · have only : ∀ (j : Nat) (u : Slot), (Slot.sh r x :: Slot.sh s y :: (List.replicate n Slot.no).set i (.ow (oLst rV vs) (some p)))[j]? = some u → u.isOw = true → j = i + 2 := fun j u e o => by
      match j, e with
      | 0, e => cases e; cases o
      | 1, e => cases e; cases o
      | j + 2, e =>
        simp only [List.getElem?_cons_succ] at e
        rcases get_set e with ⟨rfl, rfl⟩ | ⟨ne, e⟩
        · rfl
        · have z := List.mem_of_getElem? e
          rw [List.mem_replicate] at z
          rw [z.2] at o
          cases o
    rw [only j1 u e1 o1, only j2 u' e2 o2]
end
end Hf

namespace Hf
open PySem PySem.Spec PyProof.Rows L2

/-! ### cells, numbers -/
theorem cell_ne {l : List Int} (h : PyData.eqv (pdInts l) (pdInts []) = false) : 0 < (l.length : Int) := by
  rw [pdInts_eqv] at h
  cases l with
  | nil => simp at h
  | cons a l => simp
theorem ifB_t {α : Type} {p : Bool} {x y : α} (h : p = true) : x = if p = true then x else y := (if_pos h).symm
theorem ifB_f {α : Type} {p : Bool} {x y : α} (h : p = false) : y = if p = true then x else y := (if_neg (by rw [h]; simp)).symm
theorem range_mem {n : Nat} {x : Int} (h : x ∈ rangeL 0 n) : 0 ≤ x ∧ x < (n : Int) := by
  obtain ⟨i, hi, rfl⟩ := List.mem_map.mp h
  have := List.mem_range.mp hi
  omega
theorem range_k {n : Nat} {x : Int} (h : x ∈ rangeL 0 n) : 0 ≤ x := (range_mem h).1
theorem range_at {n i : Nat} {x : Int} (h : (rangeL 0 n)[i]? = some x) : i < n ∧ x = (i : Int) := by
  have lt : i < n := by
    have z := (List.getElem?_eq_some_iff.mp h).1
    simpa [rangeL] using z
  refine ⟨lt, ?_⟩
  rw [rangeL, List.getElem?_map, List.getElem?_range lt] at h
  have z : x = 0 + (i : Int) := (Option.some.inj h).symm
  omega
def restOf (cell : Int) : Int := if decide (cell < 1000000000000000000) = true then ((cell % 2147483647) * 48271 + 12345) ^ (5 : Int).toNat / 1013 else cell
def numStep (s : Int × List Int) (b : Int) : Int × List Int := (s.1 / b, s.2 ++ [s.1 % b])
def numbersL (cell : Int) (bounds : List Int) : List Int := (bounds.foldl numStep (restOf cell, [])).2
theorem num_fold : ∀ (bs : List Int) (s : Int × List Int), (bs.foldl numStep s).2.length = s.2.length + bs.length
  | [], s => by simp
  | b :: bs, s => by
    rw [List.foldl_cons, num_fold bs]
    simp [numStep]
    omega
theorem num_len {bs : List Int} (h : bs.length ≤ 1000) {i : Nat} {b : Int} (m : bs[i]? = some b) {s : Int × List Int} {r : Int} (e : s = (bs.take i).foldl numStep (r, [])) : s.2.length + 1 ≤ 100000 := by
  rw [e, num_fold]
  simp only [List.length_nil, List.length_take]
  omega
theorem restOf_nn (c : Int) : 0 ≤ restOf c := by
  unfold restOf
  split
  · refine Int.ediv_nonneg ?_ (by decide)
    refine Int.pow_nonneg ?_
    have := Int.emod_nonneg c (by decide : (2147483647 : Int) ≠ 0)
    omega
  · rename_i h
    simp at h
    omega
/-! ### digits of works: three each -/
def Al : List Int → Prop
  | [] => True
  | a :: b :: c :: l => (0 ≤ a ∧ a < 4) ∧ (0 ≤ b ∧ b < 5) ∧ (0 ≤ c ∧ c < 8) ∧ Al l
  | _ => False
theorem Al.append : ∀ {l m : List Int}, Al l → Al m → Al (l ++ m)
  | [], _, _, h => h
  | [_], _, h, _ => h.elim
  | [_, _], _, h, _ => h.elim
  | a :: b :: c :: l, m, h, k => ⟨h.1, h.2.1, h.2.2.1, Al.append h.2.2.2 k⟩
theorem Al.three {l : List Int} (h : Al l) (n : l ≠ []) : ∃ a b c m, l = a :: b :: c :: m ∧ (0 ≤ a ∧ a < 4) ∧ (0 ≤ b ∧ b < 5) ∧ (0 ≤ c ∧ c < 8) ∧ Al m := by
  match l, h, n with
  | a :: b :: c :: m, h, _ => exact ⟨a, b, c, m, rfl, h⟩
theorem al_nine (c : Int) : Al (numbersL c (repL [4, 5, 8] 3)) := by
  have e : numbersL c (repL [4, 5, 8] 3) = [restOf c % 4, restOf c / 4 % 5, restOf c / 4 / 5 % 8, restOf c / 4 / 5 / 8 % 4, restOf c / 4 / 5 / 8 / 4 % 5, restOf c / 4 / 5 / 8 / 4 / 5 % 8,
      restOf c / 4 / 5 / 8 / 4 / 5 / 8 % 4, restOf c / 4 / 5 / 8 / 4 / 5 / 8 / 4 % 5, restOf c / 4 / 5 / 8 / 4 / 5 / 8 / 4 / 5 % 8] := rfl
  rw [e]
  generalize restOf c = r
  have m4 : ∀ x : Int, 0 ≤ x % 4 ∧ x % 4 < 4 := fun x => by omega
  have m5 : ∀ x : Int, 0 ≤ x % 5 ∧ x % 5 < 5 := fun x => by omega
  have m8 : ∀ x : Int, 0 ≤ x % 8 ∧ x % 8 < 8 := fun x => by omega
  exact ⟨m4 _, m5 _, m8 _, m4 _, m5 _, m8 _, m4 _, m5 _, m8 _, trivial⟩
/-! ### the work that is drawn -/
def pickSt : List (Option Int) := [(none : Option Int), (some (1 : Int)), (some (2 : Int)), (some (3 : Int)), (some (5 : Int)), (some (7 : Int)), (some (12 : Int)), (some (1000 : Int))]
def wgt (dg : List Int) : Int := if decide ((dg.getD ((2 : Int)).toNat 0) = (7 : Int)) = true then ((1 : Int) + ((dg.getD ((0 : Int)).toNat 0) * (33 : Int))) else ((1 : Int) + (dg.getD ((0 : Int)).toNat 0))
def stepW (f : List Int → List Str → Pl × List Int × List Str) (s : List (Int × Pl) × List Int × List Str) (_k : Int) : List (Int × Pl) × List Int × List Str :=
  if (decide ((1 : Int) < (s.2.2.length : Int)) && decide ((6 : Int) < (s.2.1.length : Int))) = true then
    (s.1 ++ [((if wgt s.2.1 < (100 : Int) then wgt s.2.1 else (100 : Int)), (f s.2.1 s.2.2).1)], (f s.2.1 s.2.2).2.1, (f s.2.1 s.2.2).2.2) else s
def manyW (dg : List Int) : Int := if decide ((dg.tail.headD 0) < (4 : Int)) = true then ((1 : Int) + (dg.tail.headD 0)) else (6 : Int)
def partsW (f : List Int → List Str → Pl × List Int × List Str) (dg : List Int) (nm : List Str) : List (Int × Pl) × List Int × List Str := (rangeL 0 (manyW dg).toNat).foldl (stepW f) ([], dg.tail.tail.tail, nm.tail)
/-- whether it is a leaf at once -/
def leafW (deep : Int) (dg : List Int) (nm : List Str) : Bool :=
  (decide (deep = (0 : Int)) || (decide ((dg.headD 0) < (2 : Int)) || (decide ((nm.tail.length : Int) < (3 : Int)) || decide ((dg.tail.tail.tail.length : Int) < (12 : Int)))))
def workL : Nat → List Int → List Str → Pl × List Int × List Str
  | 0, dg, nm => (.leaf (nm.headD Str.empty) (pickSt.getD (dg.tail.tail.headD 0).toNat none), dg.tail.tail.tail, nm.tail)
  | d + 1, dg, nm =>
    if leafW ((d : Int) + 1) dg nm = true then (.leaf (nm.headD Str.empty) (pickSt.getD (dg.tail.tail.headD 0).toNat none), dg.tail.tail.tail, nm.tail)
    else if (partsW (workL d) dg nm).1 = [] then (.leaf (nm.headD Str.empty) (some 3), (partsW (workL d) dg nm).2.1, (partsW (workL d) dg nm).2.2)
    else (.lot (decide ((dg.headD 0) % 2 = 0)) (nm.headD Str.empty) (partsW (workL d) dg nm).1, (partsW (workL d) dg nm).2.1, (partsW (workL d) dg nm).2.2)
mutual
def Pl.Fit : Pl → Prop
  | .leaf _ s => StOk s
  | .lot _ _ ps => arePartsB ps = true ∧ Pl.Fits ps
def Pl.Fits : List (Int × Pl) → Prop
  | [] => True
  | (_, w) :: ps => Pl.Fit w ∧ Pl.Fits ps
end
theorem Pl.fits_mem : ∀ {ps : List (Int × Pl)}, Pl.Fits ps ↔ ∀ q ∈ ps, q.2.Fit
  | [] => by simp [Pl.Fits]
  | (i, w) :: ps => by
    simp only [Pl.Fits, Pl.fits_mem (ps := ps), List.mem_cons, forall_eq_or_imp]
theorem Pl.fits_app {ps qs : List (Int × Pl)} (h : Pl.Fits ps) (k : Pl.Fits qs) : Pl.Fits (ps ++ qs) := by
  rw [Pl.fits_mem] at *
  intro q m
  rcases List.mem_append.mp m with m | m
  · exact h q m
  · exact k q m
theorem namess_app (ps qs : List (Int × Pl)) : Pl.namess (ps ++ qs) = Pl.namess ps ++ Pl.namess qs := by
  rw [Pl.namess_eq, Pl.namess_eq, Pl.namess_eq, List.flatMap_append]
theorem depths_app (ps qs : List (Int × Pl)) : Pl.depths (ps ++ qs) = max (Pl.depths ps) (Pl.depths qs) := by
  induction ps with
  | nil => simp [Pl.depths]
  | cons q ps ih => obtain ⟨i, w⟩ := q; simp only [List.cons_append, Pl.depths, ih]; omega
theorem pick_ok {i : Int} (h : 0 ≤ i ∧ i < 8) : StOk (pickSt.getD i.toNat none) := by
  have : i = 0 ∨ i = 1 ∨ i = 2 ∨ i = 3 ∨ i = 4 ∨ i = 5 ∨ i = 6 ∨ i = 7 := by omega
  rcases this with rfl | rfl | rfl | rfl | rfl | rfl | rfl | rfl <;> intro j hj <;> revert hj <;> simp [pickSt] <;> (try (rintro rfl; decide))
/-- what a drawn work is like -/
structure WOk (d : Nat) (nm : List Str) (r : Pl × List Int × List Str) : Prop where
  al : Al r.2.1
  names : r.1.names ++ r.2.2 = nm
  depth : r.1.depth ≤ d + 1
  fit : r.1.Fit
structure PtOk (d : Nat) (i : Nat) (nm : List Str) (s : List (Int × Pl) × List Int × List Str) : Prop where
  al : Al s.2.1
  names : Pl.namess s.1 ++ s.2.2 = nm
  depth : Pl.depths s.1 ≤ d + 1
  fit : Pl.Fits s.1
  len : s.1.length ≤ i
  wg : s.1.all (fun q => isNum q.1 1 100) = true
theorem wgt_pos {dg : List Int} (h : Al dg) (n : dg ≠ []) : 1 ≤ wgt dg := by
  obtain ⟨a, b, c, m, rfl, h1, h2, h3, _⟩ := h.three n
  show 1 ≤ if decide (c = 7) = true then 1 + a * 33 else 1 + a
  split <;> omega
theorem step_ok {d i : Nat} {nm : List Str} {s : List (Int × Pl) × List Int × List Str} {k : Int} (ih : ∀ dg nm, Al dg → dg ≠ [] → nm ≠ [] → WOk d nm (workL d dg nm)) (h : PtOk d i nm s) : PtOk d (i + 1) nm (stepW (workL d) s k) := by
  unfold stepW
  split
  · rename_i c
    simp at c
    have n1 : s.2.1 ≠ [] := fun z => by rw [z] at c; simp at c
    have n2 : s.2.2 ≠ [] := fun z => by rw [z] at c; simp at c
    have W := ih s.2.1 s.2.2 h.al n1 n2
    have wp := wgt_pos h.al n1
    refine ⟨W.al, ?_, ?_, Pl.fits_app h.fit ⟨W.fit, trivial⟩, by simp; exact h.len, ?_⟩
    · rw [namess_app, ← h.names]
      simp only [Pl.namess, List.append_nil, List.append_assoc]
      rw [W.names]
    · rw [depths_app]
      have := h.depth
      have := W.depth
      simp only [Pl.depths]
      omega
    · rw [List.all_append, h.wg]
      simp only [List.all_cons, List.all_nil, Bool.and_true, Bool.true_and, isNum, Bool.and_eq_true, decide_eq_true_eq]
      split <;> omega
  · exact ⟨h.al, h.names, h.depth, h.fit, by have := h.len; omega, h.wg⟩
theorem fold_ok {d : Nat} {nm : List Str} (ih : ∀ dg nm, Al dg → dg ≠ [] → nm ≠ [] → WOk d nm (workL d dg nm)) : ∀ (l : List Int) (i : Nat) (s : List (Int × Pl) × List Int × List Str), PtOk d i nm s → PtOk d (i + l.length) nm (l.foldl (stepW (workL d)) s)
  | [], i, s, h => h
  | k :: l, i, s, h => by
    rw [List.foldl_cons, List.length_cons, show i + (l.length + 1) = (i + 1) + l.length by omega]
    exact fold_ok ih l (i + 1) _ (step_ok ih h)
theorem manyW_le {dg : List Int} (h : Al dg) (n : dg ≠ []) : 1 ≤ manyW dg ∧ manyW dg ≤ 6 := by
  obtain ⟨a, b, c, m, rfl, h1, h2, h3, _⟩ := h.three n
  show 1 ≤ (if decide (b < 4) = true then 1 + b else 6) ∧ (if decide (b < 4) = true then 1 + b else 6) ≤ 6
  simp only [decide_eq_true_eq]
  split <;> omega
theorem work_ok : ∀ (d : Nat) (dg : List Int) (nm : List Str), Al dg → dg ≠ [] → nm ≠ [] → WOk d nm (workL d dg nm)
  | 0, dg, nm, h, n1, n2 => by
    obtain ⟨a, b, c, m, rfl, h1, h2, h3, h4⟩ := h.three n1
    cases nm with
    | nil => exact absurd rfl n2
    | cons x nm => exact ⟨h4, by simp [workL, Pl.names], by simp [workL, Pl.depth], pick_ok h3⟩
  | d + 1, dg, nm, h, n1, n2 => by
    have hm := manyW_le h n1
    have hP : PtOk d (0 + (rangeL 0 (manyW dg).toNat).length) nm.tail (partsW (workL d) dg nm) := by
      refine fold_ok (work_ok d) _ 0 _ ?_
      obtain ⟨a, b, c, m, rfl, h1, h2, h3, h4⟩ := h.three n1
      exact ⟨h4, by simp [Pl.namess], by simp [Pl.depths], trivial, Nat.le_refl _, rfl⟩
    obtain ⟨a, b, c, m, rfl, h1, h2, h3, h4⟩ := h.three n1
    cases nm with
    | nil => exact absurd rfl n2
    | cons x nm =>
      unfold workL
      split
      · exact ⟨h4, by simp [Pl.names], by simp [Pl.depth], pick_ok h3⟩
      · split
        · rename_i e
          have k := hP.names
          rw [e] at k
          refine ⟨hP.al, ?_, by simp [Pl.depth], fun j hj => ?_⟩
          · simp only [Pl.names, List.headD_cons, List.cons_append, List.nil_append]
            simpa [Pl.namess] using k
          · have e3 : (3 : Int) = j := Option.some.inj hj
            rw [← e3]
            decide
        · rename_i e
          have lp : 0 < (partsW (workL d) (a :: b :: c :: m) (x :: nm)).1.length := List.length_pos_iff.mpr e
          have ll := hP.len
          have lr : (rangeL 0 (manyW (a :: b :: c :: m)).toNat).length = (manyW (a :: b :: c :: m)).toNat := by simp [rangeL]
          refine ⟨hP.al, ?_, ?_, ?_, hP.fit⟩
          · have k := hP.names
            simp only [Pl.names, List.headD_cons, List.cons_append]
            rw [k]
            rfl
          · have := hP.depth
            simp only [Pl.depth]
            omega
          · unfold arePartsB
            rw [hP.wg, Bool.and_true]
            exact decide_eq_true (by omega)
end Hf

namespace Hf
open PySem PySem.Spec PyProof.Rows L2 ClX
section
variable {X : Cx} {E : Ent} {Γ Γ' Γ1 Γ2 : List Slot} {D : Ends} {e f g o elt tg iter : Expr} {es : List Expr} {rest : List Stmt} {pos p p2 apos cpos spos : Pos} {α β γ ι : Type} {r : Rp α} {x : α} {s : Rp β} {y : β} {as : List α}
theorem bk_forget (i : Nat) (k : Bk X E (Γ.set i .no) rest D) : Bk X E Γ rest D := fun G H σ hh => k G H σ (hh.forget i)
/-- x = [e for ..], a list that will change -/
theorem bk_setLcm (i : Nat) {y : Str} {py : Pos} {scope : Scope} {U : α → List Slot → List Slot} {val : α → β} (own : List (Str × Nat)) (nd : X.N.Nodup) (hi : EvI X Γ tg iter r as) (ok : BlkOk X.N X.env.scope scope own) (ht : ∀ q, TgOk (blkX X scope q) tg r U (own.map (·.2)))
    (hv : ∀ q, ∀ a ∈ as, Ev (blkX X scope q) (U a (wipeS Γ (own.map (·.2)))) elt s (val a)) (hl : as.length ≤ 100000)
    (k : Bk X E (Γ.set i (.ow (oLst s (as.map val)))) rest D) (hy : X.N[i]? = some y := by rfl) (hyl : X.env.scope.names.lookup y = some .local := by rfl)
    (hsw : swapsWith (.ListComp elt [⟨tg, iter, [], 0⟩] scope pos) (some (.Name y py)) spos.line X.env = pure true := by exact sw_true rfl rfl rfl (by decide +kernel))
    (hc : X.calm = true := by rfl) (hs : ∀ x, foldedSetIterable iter X.env x = pure x := by intro _; rfl) : Bk X E Γ (.Assign [.Name y py] (.ListComp elt [⟨tg, iter, [], 0⟩] scope pos) spos :: rest) D :=
  bk_setLc (keep := fun _ => true) (val := val) i own nd hi ok ht (fun q a m => ets_nil) (fun q a m _ => hv q a m) hl (by rw [filter_tt]; exact k) hy hyl hsw hc hs
end
/-! ### plans -/
def NameOk (n : Str) : Prop := isNameB n = true ∧ n.length ≤ 1000 ∧ NOk n
structure PlanOk (w : Pl) : Prop where
  fit : w.Fit
  names : ∀ n ∈ w.names, NameOk n
  nodup : w.names.Nodup
  count : w.names.length ≤ 20
  deep : w.depth ≤ 5
theorem names_sub {q : Int × Pl} {w : Pl} (h : q ∈ w.parts) : List.Sublist q.2.names w.names := by
  rw [Pl.names_eq w, Pl.namess_eq]
  refine List.Sublist.cons _ ?_
  obtain ⟨a, b, e⟩ := List.append_of_mem h
  rw [e, List.flatMap_append, List.flatMap_cons]
  exact (List.sublist_append_left _ _).trans (List.sublist_append_right _ _)
theorem PlanOk.part {w : Pl} {q : Int × Pl} (h : PlanOk w) (m : q ∈ w.parts) : PlanOk q.2 := by
  have s := names_sub m
  refine ⟨?_, fun n k => h.names n (s.subset k), h.nodup.sublist s, Nat.le_trans s.length_le h.count, by have := Pl.part_depth m; have := h.deep; omega⟩
  have f := h.fit
  cases w with
  | leaf n s => simp [Pl.parts] at m
  | lot r n ps => exact Pl.fits_mem.mp f.2 q m
theorem PlanOk.name {w : Pl} (h : PlanOk w) : NameOk w.name := h.names _ (by rw [Pl.names_eq]; exact List.mem_cons_self)
theorem PlanOk.lot {w : Pl} (h : PlanOk w) {row : Bool} (hr : w = .lot row w.name w.parts) : LotOk row w.name w.parts ∧ w.name.length ≤ 1000 := by
  refine ⟨⟨h.name.1, ?_, ?_, ?_, ?_⟩, h.name.2.1⟩
  · have f := h.fit
    rw [hr] at f
    exact f.1
  · rw [← hr]; exact h.nodup
  · rw [← hr]; exact h.count
  · rw [← hr]; exact h.deep
theorem PlanOk.steps {w : Pl} (h : PlanOk w) : StOk w.steps := by
  have f := h.fit
  cases w with
  | leaf n s => exact f
  | lot r n ps => intro i hi; simp [Pl.steps] at hi
theorem all_ok : ∀ {w : Pl}, (∀ n ∈ w.names, NOk n) → w.Ok := fun {w} => by
  have key : ∀ (d : Nat) (w : Pl), w.depth ≤ d → (∀ n ∈ w.names, NOk n) → w.Ok := fun d => by
    induction d with
    | zero => intro w h; have := Pl.depth_pos w; omega
    | succ d ih =>
      intro w hd hn
      cases w with
      | leaf n s => exact hn n (by simp [Pl.names])
      | lot r n ps =>
        refine ⟨hn n (by simp [Pl.names]), ?_⟩
        have k : ∀ l : List (Int × Pl), (∀ q ∈ l, q.2.Ok) → Pl.Oks l := fun l => by
          induction l with
          | nil => intro _; trivial
          | cons q l ih => intro h; exact ⟨h q List.mem_cons_self, ih fun z m => h z (List.mem_cons_of_mem _ m)⟩
        refine k ps fun q m => ih q.2 ?_ fun n hn' => hn n ?_
        · have := Pl.part_depth (w := .lot r n ps) m
          omega
        · exact (names_sub (w := .lot r _ ps) m).subset hn'
  exact key w.depth w (Nat.le_refl _)
theorem PlanOk.ok {w : Pl} (h : PlanOk w) : w.Ok := all_ok fun n m => (h.names n m).2.2
theorem PlanOk.few {w : Pl} (h : PlanOk w) : w.parts.length ≤ 6 := by
  have f := h.fit
  cases w with
  | leaf n s => simp [Pl.parts]
  | lot r n ps =>
    have := f.1
    unfold arePartsB at this
    have := of_decide_eq_true (Bool.and_eq_true_iff.mp this).1
    exact this.2
/-! ### the names -/
def namesL : List Str := ["a", "row", "leaf", "did", "found", "b", "bundle", "again", "knows", "c", "d", "e", "f", "g", "h", "zzzzzzzz", "j", "k", "l", "m"]
theorem namesL_ok : ∀ n ∈ namesL, NameOk n := by
  have h : (namesL.all fun n => isNameB n && (decide (n.length ≤ 1000) && PyData.strOk n)) = true := by decide +kernel
  intro n m
  have := List.all_eq_true.mp h n m
  simp only [Bool.and_eq_true, decide_eq_true_eq] at this
  exact ⟨this.1, this.2.1, this.2.2⟩
theorem namesL_nodup : namesL.Nodup := by decide +kernel
def turnN (start : Int) : List Str := cutL (cutL namesL (some start) none ++ cutL namesL none (some start)) none (some 16)
theorem turnN_eq {s : Int} (h : 0 ≤ s) : turnN s = (namesL.drop s.toNat ++ namesL.take s.toNat).take 16 := by
  unfold turnN
  rw [cutL_from h, cutL_to h, cutL_to (by decide)]
  rfl
theorem turnN_ok {s : Int} (h : 0 ≤ s) : (turnN s).Nodup ∧ (turnN s).length = 16 ∧ ∀ n ∈ turnN s, NameOk n := by
  have l20 : namesL.length = 20 := by decide
  have pm : (namesL.drop s.toNat ++ namesL.take s.toNat).Perm namesL := (List.perm_append_comm).trans (by rw [List.take_append_drop])
  rw [turnN_eq h]
  refine ⟨(pm.nodup_iff.mpr namesL_nodup).sublist (List.take_sublist _ _), ?_, fun n m => namesL_ok n (pm.mem_iff.mp (List.mem_of_mem_take m))⟩
  rw [List.length_take, pm.length_eq, l20]
  decide
/-! ### the plan -/
def digF (script : List Int) (at_ : Int) (a : List Int) (k : Int) : List Int := a ++ numbersL (cellAt script (at_ + k)) (repL [(4 : Int), (5 : Int), (8 : Int)] (3 : Int))
def digs (script : List Int) (at_ : Int) : List Int := (rangeL 0 ((6 : Int)).toNat).foldl (digF script at_) []
theorem digs_al (script : List Int) (at_ : Int) : Al (digs script at_) ∧ (digs script at_).length = 54 := by
  have l9 : ∀ c, (numbersL c (repL [(4 : Int), (5 : Int), (8 : Int)] (3 : Int))).length = 9 := fun c => by
    unfold numbersL
    rw [num_fold]
    rfl
  have e : rangeL 0 ((6 : Int)).toNat = [0, 1, 2, 3, 4, 5] := rfl
  unfold digs
  rw [e]
  simp only [List.foldl_cons, List.foldl_nil, digF, List.nil_append]
  refine ⟨(((((al_nine _).append (al_nine _)).append (al_nine _)).append (al_nine _)).append (al_nine _)).append (al_nine _), ?_⟩
  simp only [List.length_append, l9]
def digs1 (script : List Int) (at_ : Int) : List Int := (digs script at_).set ((0 : Int)).toNat (if decide ((0 : Int) < cellAt script at_ % (7 : Int)) = true then ((2 : Int) + ((digs script at_).getD ((0 : Int)).toNat 0) % (2 : Int)) else ((digs script at_).getD ((0 : Int)).toNat 0))
theorem digs1_al (script : List Int) (at_ : Int) : Al (digs1 script at_) ∧ digs1 script at_ ≠ [] := by
  obtain ⟨h, l⟩ := digs_al script at_
  have n : digs script at_ ≠ [] := fun z => by rw [z] at l; simp at l
  obtain ⟨a, b, c, m, e, h1, h2, h3, h4⟩ := h.three n
  unfold digs1
  rw [e]
  show Al ((if decide _ = true then 2 + a % 2 else a) :: b :: c :: m) ∧ _
  refine ⟨⟨?_, h2, h3, h4⟩, by simp⟩
  split <;> omega
def planL (script : List Int) (at_ : Int) : Pl := (workL ((3 : Int) + cellAt script (at_ + 6) % 20 % 2).toNat (digs1 script at_) (turnN (cellAt script (at_ + 6) % 20))).1
theorem planL_ok (script : List Int) (at_ : Int) : PlanOk (planL script at_) := by
  have h20 : 0 ≤ cellAt script (at_ + 6) % 20 := Int.emod_nonneg _ (by decide)
  obtain ⟨n1, n2, n3⟩ := turnN_ok h20
  obtain ⟨a1, a2⟩ := digs1_al script at_
  have W := work_ok ((3 : Int) + cellAt script (at_ + 6) % 20 % 2).toNat _ _ a1 a2 (show turnN (cellAt script (at_ + 6) % 20) ≠ [] from fun z => by rw [z] at n2; simp at n2)
  have sub : List.Sublist (planL script at_).names (turnN (cellAt script (at_ + 6) % 20)) := by
    rw [← W.names]
    exact List.sublist_append_left _ _
  refine ⟨W.fit, fun n m => n3 n (sub.subset m), n1.sublist sub, by have := sub.length_le; omega, ?_⟩
  have := W.depth
  show (planL script at_).depth ≤ 5
  have e : (workL ((3 : Int) + cellAt script (at_ + 6) % 20 % 2).toNat (digs1 script at_) (turnN (cellAt script (at_ + 6) % 20))).1 = planL script at_ := rfl
  rw [e] at this
  omega
theorem planL_depth (script : List Int) (at_ : Int) : (planL script at_).depth ≤ 5 := (planL_ok script at_).deep
end Hf

namespace Hf
open PySem PySem.Spec PyProof.Rows L2 ClX
/-! ### for the walk of _law_work -/
theorem leafW_deep {deep : Int} {dg : List Int} {nm : List Str} (h : leafW deep dg nm = false) : deep ≠ 0 := fun z => by
  subst z
  simp [leafW] at h
theorem toNat_pred {deep : Int} (h0 : 0 ≤ deep) (h : deep ≠ 0) : ∃ d : Nat, deep = (d : Int) + 1 ∧ deep.toNat = d + 1 ∧ (deep - 1).toNat = d := ⟨(deep - 1).toNat, by omega, by omega, rfl⟩
theorem work_leaf {deep : Int} {dg : List Int} {nm : List Str} (h0 : 0 ≤ deep) (h : leafW deep dg nm = true) :
    workL deep.toNat dg nm = (.leaf (nm.headD Str.empty) (pickSt.getD (dg.tail.tail.headD 0).toNat none), dg.tail.tail.tail, nm.tail) := by
  by_cases z : deep = 0
  · subst z
    rfl
  · obtain ⟨d, e1, e2, _⟩ := toNat_pred h0 z
    rw [e2]
    unfold workL
    rw [if_pos (by rw [← e1]; exact h)]
theorem work_none {deep : Int} {dg : List Int} {nm : List Str} (h0 : 0 ≤ deep) (h : leafW deep dg nm = false) (e : (partsW (workL (deep - 1).toNat) dg nm).1 = []) :
    workL deep.toNat dg nm = (.leaf (nm.headD Str.empty) (some 3), (partsW (workL (deep - 1).toNat) dg nm).2.1, (partsW (workL (deep - 1).toNat) dg nm).2.2) := by
  obtain ⟨d, e1, e2, e3⟩ := toNat_pred h0 (leafW_deep h)
  rw [e3] at e ⊢
  rw [e2]
  conv => lhs; unfold workL
  rw [if_neg (by rw [← e1, h]; simp), if_pos e]
theorem work_lot {deep : Int} {dg : List Int} {nm : List Str} (h0 : 0 ≤ deep) (h : leafW deep dg nm = false) (e : (partsW (workL (deep - 1).toNat) dg nm).1 ≠ []) :
    workL deep.toNat dg nm = (.lot (decide ((dg.headD 0) % 2 = 0)) (nm.headD Str.empty) (partsW (workL (deep - 1).toNat) dg nm).1, (partsW (workL (deep - 1).toNat) dg nm).2.1, (partsW (workL (deep - 1).toNat) dg nm).2.2) := by
  obtain ⟨d, e1, e2, e3⟩ := toNat_pred h0 (leafW_deep h)
  rw [e3] at e ⊢
  rw [e2]
  conv => lhs; unfold workL
  rw [if_neg (by rw [← e1, h]; simp), if_neg e]
theorem nil_of {ps : List (Int × Pl)} (h : PyData.eqv (.list (pdPs ps)) (.list []) = true) : ps = [] := by
  cases ps with
  | nil => rfl
  | cons q ps => obtain ⟨i, w⟩ := q; simp [pdPs, PyData.eqv, PyData.eqvAll] at h
theorem nil_not {ps : List (Int × Pl)} (h : PyData.eqv (.list (pdPs ps)) (.list []) = false) : ps ≠ [] := fun z => by
  subst z
  simp [pdPs, PyData.eqv, PyData.eqvAll] at h
theorem row_kind (k : Int) (n : Str) (ps : List (Int × Pl)) : [("row" : Str), ("bundle" : Str)].getD (k % 2).toNat Str.empty = (Pl.lot (decide (k % 2 = 0)) n ps).kind := by
  rcases (by omega : k % 2 = 0 ∨ k % 2 = 1) with e | e
  · rw [e]; rfl
  · rw [e]; rfl
theorem lt6 {a b : Nat} (h : (decide ((1 : Int) < (a : Int)) && decide ((6 : Int) < (b : Int))) = true) : 1 < a ∧ 6 < b := by
  simp at h
  omega
structure StW (d i : Nat) (nm : List Str) (s : List (Int × Pl) × List Int × List Str) : Prop where
  pt : PtOk d i nm s
  len : s.1.length + 1 ≤ 100000
  nl : s.2.2.length ≤ nm.length
  nok : (∀ n ∈ nm, NameOk n) → ∀ n ∈ s.2.2, NameOk n
theorem st_of_pt {d i : Nat} {nm : List Str} {s : List (Int × Pl) × List Int × List Str} (h : PtOk d i nm s) (hi : i ≤ 6) : StW d i nm s :=
  ⟨h, by have := h.len; omega, by have z := congrArg List.length h.names; rw [List.length_append] at z; omega, fun k n m => k n (by rw [← h.names]; exact List.mem_append_right _ m)⟩
theorem pt0 {d : Nat} {dg : List Int} {nm : List Str} (h : Al dg) (n : dg ≠ []) : PtOk d 0 nm.tail ([], dg.tail.tail.tail, nm.tail) := by
  obtain ⟨a, b, c, m, rfl, h1, h2, h3, h4⟩ := h.three n
  exact ⟨h4, by simp [Pl.namess], by simp [Pl.depths], trivial, Nat.le_refl _, rfl⟩
theorem work_st {d i : Nat} {dg : List Int} {nm : List Str} {k : Int} (h : Al dg) (n : dg ≠ []) (m : (rangeL 0 (manyW dg).toNat)[i]? = some k) {s : List (Int × Pl) × List Int × List Str} (e : s = ((rangeL 0 (manyW dg).toNat).take i).foldl (stepW (workL d)) ([], dg.tail.tail.tail, nm.tail)) : StW d i nm.tail s := by
  have hi := (range_at m).1
  have hm := manyW_le h n
  have z := fold_ok (work_ok d) ((rangeL 0 (manyW dg).toNat).take i) 0 _ (pt0 (d := d) (nm := nm) h n)
  rw [← e] at z
  have l : ((rangeL 0 (manyW dg).toNat).take i).length = i := by simp [rangeL]; omega
  rw [l, Nat.zero_add] at z
  exact st_of_pt z (by omega)
theorem work_parts {d : Nat} {dg : List Int} {nm : List Str} (h : Al dg) (n : dg ≠ []) (hn : ∀ x ∈ nm, NameOk x) (hd : d ≤ 6) : Pl.Oks (partsW (workL d) dg nm).1 ∧ Pl.depths (partsW (workL d) dg nm).1 ≤ 20 := by
  have z := fold_ok (work_ok d) (rangeL 0 (manyW dg).toNat) 0 _ (pt0 (d := d) (nm := nm) h n)
  refine ⟨?_, Nat.le_trans z.depth (by omega)⟩
  have ok : ∀ l : List (Int × Pl), (∀ q ∈ l, ∀ x ∈ q.2.names, NOk x) → Pl.Oks l := fun l => by
    induction l with
    | nil => intro _; trivial
    | cons q l ih => intro h; exact ⟨all_ok (h q List.mem_cons_self), ih fun y m => h y (List.mem_cons_of_mem _ m)⟩
  refine ok _ fun q m x hx => (hn x (List.mem_of_mem_tail ?_)).2.2
  rw [← z.names]
  refine List.mem_append_left _ ?_
  rw [Pl.namess_eq]
  exact List.mem_flatMap.mpr ⟨q, m, hx⟩
theorem work_pre {deep : Int} {d i : Nat} {nm : List Str} {s : List (Int × Pl) × List Int × List Str} (hst : StW (deep - 1).toNat i nm.tail s) (c : (decide ((1 : Int) < (s.2.2.length : Int)) && decide ((6 : Int) < (s.2.1.length : Int))) = true) (h0 : 0 ≤ deep ∧ deep ≤ 6) (hz : deep ≠ 0) (hd : deep.toNat < d + 1)
    (hl : nm.length ≤ 100) (hn : ∀ x ∈ nm, NameOk x) : (Al s.2.1 ∧ s.2.1 ≠ [] ∧ s.2.2 ≠ [] ∧ (0 ≤ deep - 1 ∧ deep - 1 ≤ 6) ∧ s.2.2.length ≤ 100 ∧ ∀ x ∈ s.2.2, NameOk x) ∧ (deep - 1).toNat < d := by
  have l := lt6 c
  refine ⟨⟨hst.pt.al, fun z => by rw [z] at l; simp at l, fun z => by rw [z] at l; simp at l, by omega, ?_, hst.nok fun x m => hn x (List.mem_of_mem_tail m)⟩, by omega⟩
  have := hst.nl
  rw [List.length_tail] at this
  omega
end Hf
namespace Hf
open PySem PySem.Spec PyProof.Rows L2 ClX
/-! ### for the walk of _law_plan, _law_all -/
theorem nine_pre : (∀ b ∈ repL [(4 : Int), (5 : Int), (8 : Int)] (3 : Int), 0 < b ∧ b < 1073741824) ∧ (repL [(4 : Int), (5 : Int), (8 : Int)] (3 : Int)).length ≤ 1000 := by
  have e : repL [(4 : Int), (5 : Int), (8 : Int)] (3 : Int) = [4, 5, 8, 4, 5, 8, 4, 5, 8] := rfl
  rw [e]
  decide
theorem nine_len (c : Int) : (numbersL c (repL [(4 : Int), (5 : Int), (8 : Int)] (3 : Int))).length = 9 := by
  unfold numbersL
  rw [num_fold]
  rfl
theorem digs_fold (script : List Int) (at_ : Int) : ∀ (l : List Int) (a : List Int), (l.foldl (digF script at_) a).length = a.length + 9 * l.length
  | [], a => by simp
  | k :: l, a => by
    rw [List.foldl_cons, digs_fold script at_ l]
    simp only [digF, List.length_append, nine_len, List.length_cons]
    omega
theorem digs_cat {script : List Int} {at_ k : Int} {i : Nat} (m : (rangeL 0 ((6 : Int)).toNat)[i]? = some k) {s : List Int} (e : s = ((rangeL 0 ((6 : Int)).toNat).take i).foldl (digF script at_) []) {c : Int} : s.length + (numbersL c (repL [(4 : Int), (5 : Int), (8 : Int)] (3 : Int))).length ≤ sizeLine := by
  have hi := (range_at m).1
  rw [e, digs_fold, nine_len, List.length_take]
  simp only [List.length_nil]
  have : ((6 : Int)).toNat = 6 := rfl
  exact Evl.sz_of (by omega)
theorem digs_len {script : List Int} {at_ : Int} : ((rangeL 0 ((6 : Int)).toNat).foldl (digF script at_) []).length = 54 := by
  rw [digs_fold]
  rfl
theorem turn_cat {s c : Int} (h : s = c % 20) : (cutL namesL (some s) none).length + (cutL namesL none (some s)).length ≤ sizeLine := by
  have : 0 ≤ s := by omega
  rw [cutL_from this, cutL_to this, List.length_drop, List.length_take]
  have l20 : namesL.length = 20 := by decide
  exact Evl.sz_of (by omega)
theorem plan_pre {script : List Int} {at_ s : Int} (h : s = cellAt script (at_ + 6) % 20) :
    (Al (digs1 script at_) ∧ digs1 script at_ ≠ [] ∧ turnN s ≠ [] ∧ (0 ≤ (3 : Int) + s % 2 ∧ (3 : Int) + s % 2 ≤ 6) ∧ (turnN s).length ≤ 100 ∧ ∀ x ∈ turnN s, NameOk x) ∧ ((3 : Int) + s % 2).toNat < 6 := by
  have h20 : 0 ≤ s := by omega
  obtain ⟨n1, n2, n3⟩ := turnN_ok h20
  obtain ⟨a1, a2⟩ := digs1_al script at_
  exact ⟨⟨a1, a2, fun z => by rw [z] at n2; simp at n2, by omega, by omega, n3⟩, by omega⟩
theorem plan_pre2 {script : List Int} {at_ v : Int} {s : List Int} (hs : s = (rangeL 0 ((6 : Int)).toNat).foldl (digF script at_) []) (h : v = cellAt script (at_ + 6) % 20) :
    (Al (s.set ((0 : Int)).toNat (if decide ((0 : Int) < cellAt script at_ % (7 : Int)) = true then ((2 : Int) + (s.getD ((0 : Int)).toNat 0) % (2 : Int)) else (s.getD ((0 : Int)).toNat 0))) ∧
      s.set ((0 : Int)).toNat (if decide ((0 : Int) < cellAt script at_ % (7 : Int)) = true then ((2 : Int) + (s.getD ((0 : Int)).toNat 0) % (2 : Int)) else (s.getD ((0 : Int)).toNat 0)) ≠ [] ∧
      turnN v ≠ [] ∧ (0 ≤ (3 : Int) + v % 2 ∧ (3 : Int) + v % 2 ≤ 6) ∧ (turnN v).length ≤ 100 ∧ ∀ x ∈ turnN v, NameOk x) ∧ ((3 : Int) + v % 2).toNat < 6 := by
  subst hs
  exact plan_pre h
theorem all_names : ∀ (w : Pl), w.all.map Pl.name = w.names := fun w => by
  have key : ∀ (d : Nat) (w : Pl), w.depth ≤ d → w.all.map Pl.name = w.names := fun d => by
    induction d with
    | zero => intro w h; have := Pl.depth_pos w; omega
    | succ d ih =>
      intro w hd
      rw [Pl.all_eq, Pl.names_eq, Pl.alls_eq, Pl.namess_eq, List.map_cons, List.map_flatMap]
      congr 1
      have k : ∀ l : List (Int × Pl), (∀ q ∈ l, q.2.depth ≤ d) → (l.flatMap fun a => a.2.all.map Pl.name) = l.flatMap fun q => q.2.names := fun l => by
        induction l with
        | nil => intro _; rfl
        | cons q l ih2 =>
          intro h
          rw [List.flatMap_cons, List.flatMap_cons, ih _ (h q List.mem_cons_self), ih2 fun z m => h z (List.mem_cons_of_mem _ m)]
      exact k _ fun q m => by have := Pl.part_depth m; omega
  exact key w.depth w (Nat.le_refl _)
theorem all_len (w : Pl) : w.all.length = w.names.length := by rw [← all_names, List.length_map]
theorem all_foldl : ∀ (ps : List (Int × Pl)) (a : List Pl), ps.foldl (fun (a : List Pl) (q : Int × Pl) => a ++ q.2.all) a = a ++ Pl.alls ps
  | [], a => by simp [Pl.alls]
  | (i, w) :: ps, a => by
    rw [List.foldl_cons, all_foldl ps]
    simp [Pl.alls]
theorem all_done (w : Pl) : w.all = w.parts.foldl (fun (a : List Pl) (q : Int × Pl) => a ++ q.2.all) [w] := by
  rw [all_foldl, Pl.all_eq]
  rfl
theorem all_leaf {w : Pl} {b : Bool} (h : w.isLeaf = b) (hb : b = true := by rfl) : w.all = [w] := by
  subst hb
  cases w with
  | leaf n s => rfl
  | lot r n ps => simp [Pl.isLeaf] at h
theorem names_foldl' : ∀ (ps : List (Int × Pl)) (a : List Str), ps.foldl (fun (a : List Str) (q : Int × Pl) => a ++ q.2.names) a = a ++ Pl.namess ps
  | [], a => by simp [Pl.namess]
  | (i, w) :: ps, a => by
    rw [List.foldl_cons, names_foldl' ps]
    simp [Pl.namess]
theorem all_fold {w : Pl} {i : Nat} {s : List Pl} (h : s = (w.parts.take i).foldl (fun (a : List Pl) (q : Int × Pl) => a ++ q.2.all) [w]) : s.length ≤ w.names.length := by
  rw [h, all_foldl, ← all_len w, Pl.all_eq w]
  have : (Pl.alls (w.parts.take i)).length ≤ (Pl.alls w.parts).length := by
    rw [Pl.alls_eq, Pl.alls_eq, List.length_flatMap, List.length_flatMap]
    conv => rhs; rw [← List.take_append_drop i w.parts]
    rw [List.map_append, List.sum_append]
    omega
  simp only [List.length_append, List.length_cons, List.length_nil]
  omega
end Hf

namespace Hf
open PySem PySem.Spec PyProof.Rows L2 ClX
/-! ### the end's small words -/
section
variable {P : Program} {w : World} {K : PySem.W.Frag} {mg : Str → Option Value} {base : Heap} {CX : CXT} {f : Addr} {fd : FuncData} {ps : List Str} {k : Nat} {c : WC} {m : Str} {C : Addr} {x : Str}
theorem vac_P {ι α : Type} {Pre : ι → Prop} {args : ι → List Ty} {r : Rp α} {res : ι → α} (h : ∀ y, ¬ Pre y) : ∀ vs H Q E, ¬ PSp Pre args r res vs H Q E := fun vs H Q E ⟨y, _, p, _⟩ => h y p
theorem vac_O {ι : Type} {Pre : ι → Prop} {args : ι → List Ty} {c : ι → Oc} (h : ∀ y, ¬ Pre y) : ∀ vs H Q E, ¬ OSp Pre args c vs H Q E := fun vs H Q E ⟨y, _, p, _⟩ => h y p
theorem vac_M {ι α : Type} {Pre : ι → Prop} {pars : ι → List Par} {r : Rp α} {res : ι → α} {post : ι → List Oc} (h : ∀ y, ¬ Pre y) : ∀ vs H Q E, ¬ MSp Pre pars r res post vs H Q E := fun vs H Q E ⟨y, _, _, p, _⟩ => h y p
theorem HasI.mk0 {sp : Sp} (hm : mg x = some (.ref C)) (mk : Mk K C f) (hb : Binds K fd ps []) (F : FnOk P w K mg base (CXL P w) k f fd ps sp) : HasI P w K mg base x C k sp :=
  ⟨f, fd, ps, sp, [], [], hm, mk, hb, .nil, F, fun vs H Q h => by rw [List.append_nil]; exact h⟩
theorem HasI.mkD {sp spF : Sp} {dvs : List V} (hm : mg x = some (.ref C)) (mk : Mk K C f) (hb : ∃ ds, Vals dvs ds ∧ Binds K fd ps ds) (F : FnOk P w K mg base (CXL P w) k f fd ps spF) (h : ∀ vs H Q, sp vs H Q E0 → spF (vs ++ dvs) H Q E0) : HasI P w K mg base x C k sp := by
  obtain ⟨ds, h1, h2⟩ := hb
  exact ⟨f, fd, ps, spF, dvs, ds, hm, mk, h2, h1, F, h⟩
end
end Hf
namespace Hf
open PySem PySem.Spec PyProof.Rows L2 ClX
section
variable {P : Program} {w : World} {K : PySem.W.Frag} {mg : Str → Option Value} {base : Heap} {f : Addr} {fd : FuncData} {ps : List Str} {k : Nat} {m : Str} {C : Addr} {x : Str}
theorem HasU.mk0 {sp : Sp} (hm : mg x = some (.ref C)) (u : Unb K C m f) (hb : Binds K fd ps []) (F : FnOk P w K mg base (CXL P w) k f fd ps sp) : HasU P w K mg base x C m k sp :=
  ⟨f, fd, ps, sp, [], [], hm, u, hb, .nil, F, fun vs H Q h => by rw [List.append_nil]; exact h⟩
/-- C.m by the class, told by a Bool -/
def unbB (K : PySem.W.Frag) (C : Addr) (m : Str) : Bool := PySem.W.readsIn K C (.type "type") && (He.eqO (PySem.W.specialIn K (.ref C) "__getattribute__") (some (some (.builtin "type.__getattribute__"))) && ((match PySem.W.findCls K (.ref C) (.type "type") m with
  | some (.val (.ref a)) => decide (a = He.ma K C m)
  | _ => false) && PySem.W.keepIn K (.ref (He.ma K C m))))
theorem unb_of (h : unbB K C m = true) : Unb K C m (He.ma K C m) := by
  obtain ⟨h1, h⟩ := He.ba h
  obtain ⟨h2, h⟩ := He.ba h
  obtain ⟨h3, h4⟩ := He.ba h
  refine ⟨⟨.type "type", ⟨h1, He.eqO_ok h2⟩, ?_⟩, h4⟩
  revert h3
  cases e : PySem.W.findCls K (.ref C) (.type "type") m with
  | none => intro z; cases z
  | some r =>
    cases r with
    | val v =>
      cases v with
      | ref a => intro z; rw [of_decide_eq_true z]
      | _ => intro z; cases z
    | _ => intro z; cases z
theorem bAt {l : List Bool} (h : l.all id = true) (i : Nat) {b : Bool} (e : l[i]? = some b) : b = true := List.all_eq_true.mp h b (List.mem_of_getElem? e)
theorem ofW {p : Addr → Prop} {c : WC} (h1 : p c.L) (h2 : p c.R) (h3 : p c.B) : ∀ w, p (c.of w) := fun w => by
  cases w with
  | leaf n s => exact h1
  | lot r n ps =>
    cases r
    · exact h3
    · exact h2
theorem meth_eq {a b : Addr} (h : Meth K C m a) (e : a = b) : Meth K C m b := e ▸ h
theorem mk_eq {a b : Addr} (h : Mk K C a) (e : a = b) : Mk K C b := e ▸ h
/-- isinstance of works -/
def kitB3 (K : PySem.W.Frag) (D : Addr) (b1 b2 b3 : Bool) : Bool := decide (PySem.W.kitOne K (.ref (cW K).L) (.ref D) = some b1) && (decide (PySem.W.kitOne K (.ref (cW K).R) (.ref D) = some b2) && decide (PySem.W.kitOne K (.ref (cW K).B) (.ref D) = some b3))
theorem kit3 {D : Addr} {b1 b2 b3 : Bool} {g : Pl → Bool} (h : kitB3 K D b1 b2 b3 = true) (g1 : ∀ n s, g (.leaf n s) = b1) (g2 : ∀ n ps, g (.lot true n ps) = b2) (g3 : ∀ n ps, g (.lot false n ps) = b3) (w : Pl) : PySem.W.kitOne K (.ref ((cW K).of w)) (.ref D) = some (g w) := by
  obtain ⟨h1, h⟩ := He.ba h
  obtain ⟨h2, h3⟩ := He.ba h
  cases w with
  | leaf n s => rw [g1]; exact of_decide_eq_true h1
  | lot r n ps =>
    cases r
    · rw [g3]; exact of_decide_eq_true h3
    · rw [g2]; exact of_decide_eq_true h2
def clsB (K : PySem.W.Frag) (C : Addr) : Bool := He.eqO (PySem.W.findIn K (.ref C) "__class__") (some (some (.builtin "object.__class__"))) && decide (PySem.W.mroIn K C (.type "object") = some true)
def tyB (K : PySem.W.Frag) : Bool := He.eqO (PySem.W.specialIn K (.builtin "object.__class__") "__get__") (some (some (.builtin "getset_descriptor.__get__"))) && decide (PySem.W.takesIn K (.builtin "object.__class__") = some true)
theorem wcTy_of (h0 : tyB K = true) (h1 : clsB K (cW K).L = true) (h2 : clsB K (cW K).R = true) (h3 : clsB K (cW K).B = true) (k0 : kitB3 K (He.ga K "Work") true true true = true) (k1 : kitB3 K (cW K).L true false false = true) (k2 : kitB3 K (cW K).R false true false = true) (k3 : kitB3 K (cW K).B false false true = true) : WcTy K (cW K) (He.ga K "Work") := by
  obtain ⟨a1, a2⟩ := He.ba h0
  obtain ⟨b1, b2⟩ := He.ba h1
  obtain ⟨c1, c2⟩ := He.ba h2
  obtain ⟨d1, d2⟩ := He.ba h3
  exact ⟨ofW (p := fun C => PySem.W.findIn K (.ref C) "__class__" = some (some (.builtin "object.__class__"))) (He.eqO_ok b1) (He.eqO_ok c1) (He.eqO_ok d1), He.eqO_ok a1, of_decide_eq_true a2,
    ofW (p := fun C => PySem.W.mroIn K C (.type "object") = some true) (of_decide_eq_true b2) (of_decide_eq_true c2) (of_decide_eq_true d2),
    kit3 (g := fun _ => true) k0 (fun _ _ => rfl) (fun _ _ => rfl) (fun _ _ => rfl), kit3 k1 (fun _ _ => rfl) (fun _ _ => rfl) (fun _ _ => rfl), kit3 k2 (fun _ _ => rfl) (fun _ _ => rfl) (fun _ _ => rfl), kit3 k3 (fun _ _ => rfl) (fun _ _ => rfl) (fun _ _ => rfl)⟩
end
end Hf

namespace Hf
open PySem PySem.Spec PyProof.Rows L2 ClX
/-! ### dicts with text keys -/
inductive KvAt {α : Type} (r : Rp α) (G : Hp) : List (Key × V) → List (Str × α) → Prop
  | nil : KvAt r G [] []
  | cons {k : Str} {v : V} {a : α} {kvs : List (Key × V)} {ds : List (Str × α)} : r.rel G v a → KvAt r G kvs ds → KvAt r G ((.inr k, v) :: kvs) ((k, a) :: ds)
def dGet {α : Type} (ds : List (Str × α)) (k : Str) : Option α := (ds.find? fun q => decide (q.1 = k)).map (·.2)
def dPut {α : Type} (ds : List (Str × α)) (k : Str) (a : α) : List (Str × α) :=
  if (ds.any fun q => decide (q.1 = k)) = true then ds.map (fun q => if q.1 = k then (q.1, a) else q) else ds ++ [(k, a)]
section
variable {α : Type} {r : Rp α} {G G' : Hp}
theorem KvAt.mono (e : Ex G G') : ∀ {kvs : List (Key × V)} {ds : List (Str × α)}, KvAt r G kvs ds → KvAt r G' kvs ds
  | _, _, .nil => .nil
  | _, _, .cons h t => .cons (r.mono e h) (KvAt.mono e t)
theorem KvAt.length : ∀ {kvs : List (Key × V)} {ds : List (Str × α)}, KvAt r G kvs ds → kvs.length = ds.length
  | _, _, .nil => rfl
  | _, _, .cons _ t => congrArg (· + 1) (KvAt.length t)
theorem dGet_nil {k : Str} : dGet ([] : List (Str × α)) k = none := rfl
theorem dGet_pos {p : Str × α} {ds : List (Str × α)} {k : Str} (e : p.1 = k) : dGet (p :: ds) k = some p.2 := by simp [dGet, List.find?_cons, e]
theorem dGet_neg {p : Str × α} {ds : List (Str × α)} {k : Str} (e : ¬ p.1 = k) : dGet (p :: ds) k = dGet ds k := by simp [dGet, List.find?_cons, e]
theorem KvAt.get {k : Str} : ∀ {kvs : List (Key × V)} {ds : List (Str × α)}, KvAt r G kvs ds → (valV kvs (.inr k : Key) = none ∧ dGet ds k = none) ∨ ∃ v a, valV kvs (.inr k : Key) = some v ∧ dGet ds k = some a ∧ r.rel G v a
  | _, _, .nil => .inl ⟨rfl, rfl⟩
  | _, _, .cons (k := j) (v := v) (a := a) (kvs := kvs) (ds := ds) h t => by
    by_cases e : j = k
    · subst e
      exact .inr ⟨v, a, valV_pos rfl, dGet_pos rfl, h⟩
    · have e2 : ¬ (Sum.inr j : Key) = .inr k := fun z => e (Sum.inr.inj z)
      rw [valV_neg (p := ((Sum.inr j : Key), v)) e2, dGet_neg (p := (j, a)) e]
      exact KvAt.get t
theorem KvAt.any {k : Str} : ∀ {kvs : List (Key × V)} {ds : List (Str × α)}, KvAt r G kvs ds → (kvs.any fun q => decide (q.1 = (.inr k : Key))) = ds.any fun q => decide (q.1 = k)
  | _, _, .nil => rfl
  | _, _, .cons (k := j) h t => by
    rw [List.any_cons, List.any_cons, KvAt.any t]
    congr 1
    by_cases e : j = k
    · subst e; simp
    · have e2 : ¬ (Sum.inr j : Key) = .inr k := fun z => e (Sum.inr.inj z)
      simp [e, e2]
theorem KvAt.snoc {k : Str} {v : V} {a : α} (h : r.rel G v a) : ∀ {kvs : List (Key × V)} {ds : List (Str × α)}, KvAt r G kvs ds → KvAt r G (kvs ++ [(.inr k, v)]) (ds ++ [(k, a)])
  | _, _, .nil => .cons h .nil
  | _, _, .cons h1 t => .cons h1 (KvAt.snoc h t)
theorem KvAt.map {k : Str} {v : V} {a : α} (h : r.rel G v a) : ∀ {kvs : List (Key × V)} {ds : List (Str × α)}, KvAt r G kvs ds → KvAt r G (kvs.map fun q => if q.1 = (.inr k : Key) then (q.1, v) else q) (ds.map fun q => if q.1 = k then (q.1, a) else q)
  | _, _, .nil => .nil
  | _, _, .cons (k := j) h1 t => by
    rw [List.map_cons, List.map_cons]
    by_cases e : j = k
    · subst e
      simp only [if_true]
      exact .cons h (KvAt.map h t)
    · have e2 : ¬ (Sum.inr j : Key) = .inr k := fun z => e (Sum.inr.inj z)
      rw [if_neg e2, if_neg e]
      exact .cons h1 (KvAt.map h t)
theorem KvAt.put {k : Str} {v : V} {a : α} (h : r.rel G v a) {kvs : List (Key × V)} {ds : List (Str × α)} (t : KvAt r G kvs ds) : KvAt r G (putK kvs (.inr k : Key) v) (dPut ds k a) := by
  unfold putK dPut
  rw [t.any]
  split
  · exact t.map h
  · exact t.snoc h
end
def oDic {α : Type} (r : Rp α) (ds : List (Str × α)) : Oc := ⟨fun G o => ∃ kvs, o = .dK kvs ∧ KvAt r G kvs ds, fun e ⟨kvs, h1, h2⟩ => ⟨kvs, h1, h2.mono e⟩⟩
def rDic {α : Type} (r : Rp α) : Rp (List (Str × α)) := ⟨fun G v ds => ∃ p kvs, v = .ref p ∧ G p = some (.dK kvs) ∧ KvAt r G kvs ds, fun e ⟨p, kvs, h1, h2, h3⟩ => ⟨p, kvs, h1, e _ _ h2, h3.mono e⟩⟩
theorem frz_dic {α : Type} {r : Rp α} {ds : List (Str × α)} : Frz (oDic r ds) (rDic r) ds := fun G a o n ⟨kvs, e, h⟩ => by
  subst e
  exact ⟨a, kvs, rfl, upd_same, h.mono (Evl.Ex.new n)⟩
theorem flat_dic {α : Type} {r : Rp α} {ds : List (Str × α)} : (oDic r ds).flat := fun G o ⟨kvs, e, _⟩ => by subst e; trivial
section
variable {X : Cx} {E : Ent} {Γ Γ' Γ1 Γ2 : List Slot} {D : Ends} {e f g o : Expr} {es : List Expr} {rest : List Stmt} {pos p p2 apos cpos : Pos} {α β γ ι : Type} {r : Rp α} {x : α} {s : Rp β} {y : β} {as : List α} {ds : List (Str × α)} {k : Str} {j : Nat}
theorem Ev.borD (h : Ev X Γ e (rDic r) ds) : EvB X Γ e (oDic r ds) := fun E G H σ hh Q q => h E G H σ hh Q fun v G' H' l ⟨p, kvs, e1, h2, h3⟩ => by
  subst e1
  exact q p _ G' H' l (l.gh _ _ h2) ⟨kvs, rfl, h3⟩
theorem EvO.evD (h : EvO X Γ e (oDic r ds)) : Ev X Γ e (rDic r) ds := fun E G H σ hh Q q => h E G H σ hh Q fun p o G' H' n l g h2 c => q _ (upd G' p o) H' (l.frz h2 n g) (frz_dic G' p o g c)
/-- {} -/
theorem eo_dnew : EvO X Γ (.Dict [] [] pos) (oDic r []) := fun E G H σ hh Q q =>
  WE.of pe_dnewK fun p n => q p _ G _ n ((Le.refl hh.le.gh).addO n) (Evl.fresh_back hh.le.gh n) upd_same ⟨[], rfl, .nil⟩
/-- dict(d) -/
theorem eo_dictOf (h : EvB X Γ e (oDic r ds)) (hm : X.mg "dict" = none) (hg : Gl X "dict" := by rfl) (he : starEach (e :: []) X.env = (false, eval e X.env) :: starEach [] X.env := by rfl) (hpl : (backTo pos (starEach [] X.env)).any (·.1) = false := by rfl) : EvO X Γ (.Call (.Name "dict" p) [e] [] pos) (oDic r ds) := fun E G H σ hh Q q =>
  WE.of (pe_callTy call_dictD hg hm (by decide +kernel) (pa_cons WE.pe pa_nil he) (he := he) (hpl := hpl)) (h E G H σ hh _ fun p o G1 H1 l1 hp ⟨kvs, e1, ha⟩ => by
    subst e1
    exact ⟨p, kvs, rfl, .inl hp, fun p3 n => q p3 _ G1 _ (Evl.fresh_back l1.h n) (l1.addO n) (Evl.fresh_back l1.gh n) upd_same ⟨kvs, rfl, ha⟩⟩)
/-- d.get(k, x) -/
theorem ev_dgetD (hr : Room j X.A) (h : EvB X Γ e (oDic r ds)) (hk : Ev X Γ f rStr k) (hx : Ev X Γ g r x)
    (hpe : PE X (.Call (.Attribute e "get" apos) [f, g] [] cpos) (tDGet2 (WE X e) (WE X f) (WE X g)) := by exact pe_dget2 (hu_of hr) WE.pe WE.pe WE.pe ⟨rfl, rfl, rfl, rfl⟩) : Ev X Γ (.Call (.Attribute e "get" apos) [f, g] [] cpos) r ((dGet ds k).getD x) := fun E G H σ hh Q q =>
  WE.of hpe (h E G H σ hh _ fun p o G1 H1 l1 hp ⟨kvs, e1, ha⟩ => by
    subst e1
    refine ⟨p, rfl, .inl ⟨kvs, .inl hp⟩, hk E G1 H1 σ (hh.step l1) _ fun w G2 H2 l2 r2 => hx E G2 H2 σ ((hh.step l1).step l2) _ fun z G3 H3 l3 r3 => ?_⟩
    have l := l2.trans l3
    have e2 : w = .str k := r2
    subst e2
    refine ⟨_, DGet.k (k := Sum.inr k) (l.h _ _ hp), ?_⟩
    rcases (ha.mono l.g).get (k := k) with ⟨h1, h2⟩ | ⟨v, a, h1, h2, h3⟩
    · rw [h1]
      exact q z G3 H3 (l1.trans l) (by rw [h2]; exact r3)
    · rw [h1]
      exact q v G3 H3 (l1.trans l) (by rw [h2]; exact h3))
/-- d[k], it is there -/
theorem ev_dix (hr : Room j X.A) (h : EvB X Γ e (oDic r ds)) (hk : Ev X Γ f rStr k) (hx : dGet ds k = some x)
    (hpe : PE X (.Subscript e f pos) (tDGet (WE X e) (WE X f)) := by exact pe_dget (hu_of hr) WE.pe WE.pe (fun _ _ => rfl)) : Ev X Γ (.Subscript e f pos) r x := fun E G H σ hh Q q =>
  WE.of hpe (h E G H σ hh _ fun p o G1 H1 l1 hp ⟨kvs, e1, ha⟩ => by
    subst e1
    refine hk E G1 H1 σ (hh.step l1) _ fun w G2 H2 l2 r2 => ?_
    have e2 : w = .str k := r2
    subst e2
    rcases (ha.mono l2.g).get (k := k) with ⟨h1, h2⟩ | ⟨v, a, h1, h2, h3⟩
    · rw [hx] at h2; cases h2
    · rw [hx] at h2
      cases h2
      exact ⟨p, v, rfl, h1 ▸ DGet.k (k := Sum.inr k) (l2.h _ _ hp), q v G2 H2 (l1.trans l2) h3⟩)
/-- k in d -/
theorem ev_inD (hr : Room j X.A) (hk : Ev X Γ f rStr k) (h : EvB X Γ e (oDic r ds))
    (hpe : PE X (.Compare f [.In] [e] pos) (tDIn (WE X f) (WE X e)) := by exact pe_cmp (pc_din (hu_of hr) WE.pe WE.pe) rfl) : Ev X Γ (.Compare f [.In] [e] pos) rBool (dGet ds k).isSome := fun E G H σ hh Q q =>
  WE.of hpe (hk E G H σ hh _ fun w G1 H1 l1 r1 => h E G1 H1 σ (hh.step l1) _ fun p o G2 H2 l2 hp ⟨kvs, e1, ha⟩ => by
    subst e1
    have e2 : w = .str k := r1
    subst e2
    refine ⟨p, _, rfl, DGet.k (k := Sum.inr k) hp, q _ G2 H2 (l1.trans l2) ?_⟩
    rcases ha.get (k := k) with ⟨h1, h2⟩ | ⟨v, a, h1, h2, h3⟩
    · rw [h1, h2]; rfl
    · rw [h1, h2]; rfl)
/-- len(d) -/
theorem ev_lenD (h : EvB X Γ e (oDic r ds)) (hm : X.mg "len" = none) (hg : Gl X "len" := by rfl) (he : starEach (e :: []) X.env = (false, eval e X.env) :: starEach [] X.env := by rfl) (hpl : (backTo pos (starEach [] X.env)).any (·.1) = false := by rfl) : Ev X Γ (.Call (.Name "len" p) [e] [] pos) rInt (ds.length : Int) := fun E G H σ hh Q q =>
  WE.of (pe_callB call_lenD hg hm PySem.boot_len (pa_cons WE.pe pa_nil he) (he := he) (hpl := hpl)) (h E G H σ hh _ fun p o G1 H1 l1 hp ⟨kvs, e1, ha⟩ => by
    subst e1
    exact ⟨p, kvs, rfl, hp, by rw [ha.length]; exact q _ G1 H1 l1 rfl⟩)
/-- d[k] = v, d by its name -/
theorem bk_dput (hr : Room j X.A) (i : Nat) {a : Str} {pq : Option Addr} (hg : Γ[i]? = some (.ow (oDic r ds) pq)) (he : Ev X Γ e r x) (hk : Ev X Γ f rStr k) (hl : ds.length < sizeLine) (kk : Bk X E (Γ.set i (.ow (oDic r (dPut ds k x)) pq)) rest D)
    (hps : PS X (.Assign [.Subscript (.Name a p) f p2] e pos) (sDPut (tVar i) (WE X f) (WE X e)) := by exact ps_dput (hu_of hr) (pv _) WE.pe WE.pe rfl) : Bk X E Γ (.Assign [.Subscript (.Name a p) f p2] e pos :: rest) D :=
  bk_of hps fun G H σ hh => he E G H σ hh _ fun v G1 H1 l1 r1 => by
    have hh1 := hh.step l1
    obtain ⟨q, ob, h1, h2, h3, h4, kvs, h5, h6⟩ := hh1.ow hg
    subst h5
    refine ⟨_, h1, hk E G1 H1 σ hh1 _ fun w G2 H2 l2 r2 => ?_⟩
    have e2 : w = .str k := r2
    subst e2
    refine ⟨q, _, rfl, DPut.k (k := Sum.inr k) (l2.h _ _ h4) (by rw [h6.length]; exact hl), ?_⟩
    exact kk G2 _ σ ((hh1.step l2).mut hg h1 ⟨_, rfl, (h6.mono l2.g).put (r.mono l2.g r1)⟩)
theorem kind_dic {K : PySem.W.Frag} : Kind K (rDic r) ds "dict" := fun G v ⟨p, kvs, e, h, _⟩ => by subst e; exact .base (.dK h)
end
end Hf

namespace Hf
open PySem PySem.Spec PyProof.Rows L2 ClX
/-! ### d.get(k, x) of a dict of the module -/
def tKGet2 (K : PySem.W.Frag) (d : Addr) (to ty tx : TE) : TE := fun σ H Q => to σ H fun x H1 => x = .ref d ∧ ty σ H1 fun y H2 => tx σ H2 fun z H3 => ∃ (k : Str) (u0 : Value) (v0 : V), y = .str k ∧ PySem.W.nsIn K d k = some (some u0) ∧ RelV v0 u0 ∧ Q v0 H3
section
variable {X : Cx} {o e f g : Expr} {apos cpos pos p : Pos} {to ty tx : TE} {d : Addr} {es : Array DictEntry} {n : Nat} {Γ : List Slot} {k : Str} {i j : Int} {b : Nat}
theorem pe_kget2 (D : KDict X.K X.w d es n) (ho : PE X o to) (he : PE X e ty) (hf : PE X f tx) (m : M2 X o "get" apos e f cpos) : PE X (.Call (.Attribute o "get" apos) [e, f] [] cpos) (tKGet2 X.K d to ty tx) := by
  refine ⟨fun pins s σ H Q I h => ?_⟩
  refine wpAny_Call_method m.base m.few m.line PySem.F.plainAttrs_dict PySem.F.slot_dict_get PySem.F.type_dict_get (thn (ho.run pins s σ H _ I h) fun u s1 ⟨x, H1, I1, rx, ex, q1⟩ => ?_)
  subst ex
  obtain rfl : u = Value.ref d := rx
  refine ⟨kd_type D I1, fun b hb => ?_, ?_⟩
  · cases hb
    exact ⟨_, I1.kIn _ _ D.at_, rfl⟩
  rw [m.trees]
  refine Calls.callWith_builtin rfl (Calls.evalArgs_plain (Calls.spliced_cons (thn (he.run pins s1 σ H1 _ I1 q1) fun iv s2 ⟨y, H2, I2, ry, q2⟩ =>
    Calls.spliced_cons (thn (hf.run pins s2 σ H2 _ I2 q2) fun fv s3 ⟨z, H3, I3, rz, k, u0, v0, ey, e1, r0, q3⟩ => Calls.spliced_nil ?_))))
  subst ey
  obtain ⟨t, rfl⟩ := ry
  have MO := PySem.W.mapOf_K (prog := X.prog) (w := X.w) I3.kIn D.at_ D.lit
  refine call_meetsIn PySem.F.slot_dict_get MO.typeIs PySem.F.entry_dict_get (PySem.F.args_dict_get_3 _ _ _) (meets_dict_get_default (PySem.strKind X.prog X.w) d (PySem.strKind_is X.prog X.w k t) D.low fv) ⟨_, MO, ?_⟩
  rw [PySem.W.find_K D.at_ e1]
  exact ⟨v0, H3, I3.tok _, r0, q3⟩
/-- FORMS.get(k, 0): an int is told -/
theorem ev_kget {nm : Str} (hm : X.mg nm = some (.ref d)) (D : KDict X.K X.w d es n) (hk : Ev X Γ f rStr k) (hx : Ev X Γ g rInt j) (hv : ∃ u, PySem.W.nsIn X.K d k = some (some u) ∧ RelV (.int i) u) (hg : Gl X nm := by rfl) (hd : (nm == ("__debug__" : Str)) = false := by decide)
    (m : M2 X (.Name nm p) "get" apos f g cpos := by exact ⟨rfl, rfl, rfl, rfl⟩) : Ev X Γ (.Call (.Attribute (.Name nm p) "get" apos) [f, g] [] cpos) rInt i := fun E G H σ hh Q q =>
  WE.of (pe_kget2 D (pe_glob (v := .ref d) hg hm rfl hd) WE.pe WE.pe m) ⟨rfl, hk E G H σ hh _ fun w G1 H1 l1 r1 => hx E G1 H1 σ (hh.step l1) _ fun z G2 H2 l2 r2 => by
    obtain ⟨u, h1, h2⟩ := hv
    exact ⟨k, u, .int i, r1, h1, h2, q _ G2 H2 (l1.trans l2) rfl⟩⟩
end
/-! ### shares as rationals -/
def cn (q : Rat) : Int × Int := (q.num, (q.den : Int))
def rQ (K : PySem.W.Frag) : Rp Rat := ⟨fun G v q => (rT2 K rInt rInt).rel G v (cn q), fun e h => (rT2 K rInt rInt).mono e h⟩
theorem cn_inj {p q : Rat} (h : cn p = cn q) : p = q := by
  unfold cn at h
  injection h with h1 h2
  exact Rat.ext h1 (by omega)
theorem share_cn {t b : Int} (h : 0 < b) : share t b = cn ((t : Rat) / (b : Rat)) := by
  rw [← Rat.divInt_eq_div]
  have hn : (Rat.divInt t b).num = t / (Int.gcd t b : Int) := by
    rw [Rat.num_divInt, Int.sign_eq_one_of_pos h, Int.one_mul, Int.gcd_comm]
  have hd : ((Rat.divInt t b).den : Int) = b / (Int.gcd t b : Int) := by
    rw [Rat.den_divInt, if_neg (by omega), Int.gcd_comm]
    rw [Int.natCast_ediv]
    congr 1
    omega
  show (t / (Int.gcd t b : Int), b / (Int.gcd t b : Int)) = ((Rat.divInt t b).num, ((Rat.divInt t b).den : Int))
  rw [hn, hd]
theorem Ev.q2 {X : Cx} {Γ : List Slot} {e : Expr} {q : Rat} (h : Ev X Γ e (rQ X.K) q) : Ev X Γ e (rT2 X.K rInt rInt) (cn q) := h
theorem Ev.q {X : Cx} {Γ : List Slot} {e : Expr} {q : Rat} {a : Int × Int} (h : Ev X Γ e (rT2 X.K rInt rInt) a) (e2 : a = cn q) : Ev X Γ e (rQ X.K) q := fun E G H σ hh Q k => h E G H σ hh Q fun v G' H' l r => k v G' H' l (by subst e2; exact r)
theorem q_div (p : Rat) : (p.num : Rat) / ((p.den : Int) : Rat) = p := by
  rw [← Rat.divInt_eq_div]
  exact Rat.num_divInt_den p
theorem den_ne (p : Rat) : ((p.den : Int) : Rat) ≠ 0 := by
  intro h
  have := p.den_nz
  have h2 : (p.den : Int) = 0 := Rat.intCast_eq_zero_iff.mp h
  omega
theorem den_pos (p : Rat) : (0 : Int) < (p.den : Int) := by have := p.den_nz; omega
theorem q_mul (p : Rat) : (p.num : Rat) = p * ((p.den : Int) : Rat) := by
  have h := q_div p
  have n := den_ne p
  rw [← h]
  grind
theorem plus_cn {p q : Rat} : share (p.num * (q.den : Int) + q.num * (p.den : Int)) ((p.den : Int) * (q.den : Int)) = cn (p + q) := by
  rw [share_cn (Int.mul_pos (den_pos p) (den_pos q))]
  congr 1
  rw [Rat.intCast_add, Rat.intCast_mul, Rat.intCast_mul, Rat.intCast_mul, q_mul p, q_mul q]
  have a := den_ne p
  have b := den_ne q
  grind
theorem less_cn {p q : Rat} : share (p.num * (q.den : Int) - q.num * (p.den : Int)) ((p.den : Int) * (q.den : Int)) = cn (p - q) := by
  rw [share_cn (Int.mul_pos (den_pos p) (den_pos q))]
  congr 1
  rw [Rat.intCast_sub, Rat.intCast_mul, Rat.intCast_mul, Rat.intCast_mul, q_mul p, q_mul q]
  have a := den_ne p
  have b := den_ne q
  grind
theorem ofit_cn {p q : Rat} : share (p.num * q.num) ((p.den : Int) * (q.den : Int)) = cn (p * q) := by
  rw [share_cn (Int.mul_pos (den_pos p) (den_pos q))]
  congr 1
  rw [Rat.intCast_mul, Rat.intCast_mul, q_mul p, q_mul q]
  have a := den_ne p
  have b := den_ne q
  grind
theorem num_pos {q : Rat} (h : 0 < q) : 0 < q.num := by
  have := (Rat.lt_iff 0 q).mp h
  simpa using this
theorem parted_cn {p q : Rat} (h : 0 < q) : share (p.num * (q.den : Int)) ((p.den : Int) * q.num) = cn (p / q) := by
  rw [share_cn (Int.mul_pos (den_pos p) (num_pos h))]
  congr 1
  have hq : q ≠ 0 := fun z => by rw [z] at h; exact Rat.lt_irrefl h
  rw [Rat.intCast_mul, Rat.intCast_mul, q_mul p, q_mul q]
  have a := den_ne p
  have b := den_ne q
  grind
theorem more_cn {p q : Rat} : decide (q.num * (p.den : Int) < p.num * (q.den : Int)) = decide (q < p) := decide_eq_decide.mpr (Rat.lt_iff q p).symm
/-! sizes -/
def Lim (n : Nat) (q : Rat) : Prop := q.num.natAbs < 2 ^ n ∧ q.den < 2 ^ n
theorem Lim.top1 {n : Nat} {q : Rat} (h : Lim n q) (hn : n ≤ 50000) : Top q.num := by
  cases n with
  | zero => have := h.2; have := q.den_nz; omega
  | succ n => exact top_of h.1 (by omega) (by omega)
theorem Lim.top2 {n : Nat} {q : Rat} (h : Lim n q) (hn : n ≤ 50000) : Top (q.den : Int) := by
  cases n with
  | zero => have := h.2; have := q.den_nz; omega
  | succ n => exact top_of (k := n + 1) (by simpa using h.2) (by omega) (by omega)
theorem Lim.bot2 {m n : Nat} {p q : Rat} (h : Lim m p) (k : Lim n q) (hn : m + n ≤ 9000) (h0 : 0 < m + n) : Bot ((p.den : Int) * (q.den : Int)) := by
  refine bot_of (k := m + n) (Int.mul_pos (den_pos p) (den_pos q)) ?_ h0 hn
  rw [Int.natAbs_mul, Nat.pow_add]
  exact Nat.mul_lt_mul'' (by simpa using h.2) (by simpa using k.2)
theorem Lim.bot1 {m n : Nat} {p q : Rat} (h : Lim m p) (k : Lim n q) (hp : 0 < q) (hn : m + n ≤ 9000) (h0 : 0 < m + n) : Bot ((p.den : Int) * q.num) := by
  refine bot_of (k := m + n) (Int.mul_pos (den_pos p) (num_pos hp)) ?_ h0 hn
  rw [Int.natAbs_mul, Nat.pow_add]
  exact Nat.mul_lt_mul'' (by simpa using h.2) k.1
theorem Lim.pos {n : Nat} {q : Rat} (h : Lim n q) : 0 < n := by
  cases n with
  | zero => have := h.2; have := q.den_nz; omega
  | succ n => omega
theorem Lim.mono {m n : Nat} {q : Rat} (h : Lim m q) (k : m ≤ n) : Lim n q := ⟨Nat.lt_of_lt_of_le h.1 (Nat.pow_le_pow_right (by decide) k), Nat.lt_of_lt_of_le h.2 (Nat.pow_le_pow_right (by decide) k)⟩
/-- two shares that may be put together -/
def Two (p q : Rat) : Prop := ∃ m n, m + n ≤ 9000 ∧ Lim m p ∧ Lim n q
end Hf

namespace Hf
open PySem PySem.Spec PyProof.Rows L2 ClX
/-! ### tellings -/
inductive Tel where
  | did (n : Str) (k : Int)
  | knows (n : Str) (k : Int)
  | found (e : Str) (w : Int) (n : Str) (s : Option Int)
  | again (n : Str)
deriving DecidableEq
instance : Inhabited Tel := ⟨.again Str.empty⟩
namespace Tel
def kind : Tel → Str
  | did _ _ => "did"
  | knows _ _ => "knows"
  | found _ _ _ _ => "found"
  | again _ => "again"
def name : Tel → Str
  | did n _ => n
  | knows n _ => n
  | found e _ _ _ => e
  | again n => n
def num : Tel → Int
  | did _ k => k
  | knows _ k => k
  | found _ w _ _ => w
  | again _ => 0
def leaf : Tel → Str
  | found _ _ n _ => n
  | _ => Str.empty
def last : Tel → Option Int
  | found _ _ _ s => s
  | _ => none
def size : Tel → Int
  | did _ _ => 3
  | knows _ _ => 3
  | found _ _ _ _ => 5
  | again _ => 2
def isFound : Tel → Bool
  | found _ _ _ _ => true
  | _ => false
def isAgain : Tel → Bool
  | again _ => true
  | _ => false
def isKnows : Tel → Bool
  | knows _ _ => true
  | _ => false
def isDid : Tel → Bool
  | did _ _ => true
  | _ => false
def vals : Tel → List V
  | did n k => [.str "did", .str n, .int k]
  | knows n k => [.str "knows", .str n, .int k]
  | found e w n s => [.str "found", .str e, .int w, .str n, oV s]
  | again n => [.str "again", .str n]
end Tel
def rTel (K : PySem.W.Frag) : Rp Tel := ⟨fun G v t => ∃ p, v = .ref p ∧ SqT K G p t.vals, fun e ⟨p, h1, h2⟩ => ⟨p, h1, Evl.ex_t e h2⟩⟩
theorem kind_tel {K : PySem.W.Frag} {t : Tel} : Kind K (rTel K) t "tuple" := fun G v ⟨p, e, h⟩ => by subst e; exact sqT_kind h
theorem nn_tel {K : PySem.W.Frag} : NN (rTel K) := ⟨fun G v a ⟨p, e, _⟩ => by rw [e]; simp⟩
theorem ne_did_knows : ¬ ("did" : Str) = "knows" := by decide +kernel
theorem ne_did_found : ¬ ("did" : Str) = "found" := by decide +kernel
theorem ne_did_again : ¬ ("did" : Str) = "again" := by decide +kernel
theorem ne_knows_did : ¬ ("knows" : Str) = "did" := by decide +kernel
theorem ne_knows_found : ¬ ("knows" : Str) = "found" := by decide +kernel
theorem ne_knows_again : ¬ ("knows" : Str) = "again" := by decide +kernel
theorem ne_found_did : ¬ ("found" : Str) = "did" := by decide +kernel
theorem ne_found_knows : ¬ ("found" : Str) = "knows" := by decide +kernel
theorem ne_found_again : ¬ ("found" : Str) = "again" := by decide +kernel
theorem ne_again_did : ¬ ("again" : Str) = "did" := by decide +kernel
theorem ne_again_knows : ¬ ("again" : Str) = "knows" := by decide +kernel
theorem ne_again_found : ¬ ("again" : Str) = "found" := by decide +kernel
theorem found_of {t : Tel} {b : Bool} (h : decide (t.kind = ("found" : Str)) = b) : t.isFound = b := by
  subst h
  cases t <;> (symm; first | exact decide_eq_true rfl | exact decide_eq_false ne_did_found | exact decide_eq_false ne_knows_found | exact decide_eq_false ne_again_found)
theorem again_of {t : Tel} {b : Bool} (h : decide (t.kind = ("again" : Str)) = b) : t.isAgain = b := by
  subst h
  cases t <;> (symm; first | exact decide_eq_true rfl | exact decide_eq_false ne_did_again | exact decide_eq_false ne_knows_again | exact decide_eq_false ne_found_again)
theorem knows_of {t : Tel} {b : Bool} (h : decide (t.kind = ("knows" : Str)) = b) : t.isKnows = b := by
  subst h
  cases t <;> (symm; first | exact decide_eq_true rfl | exact decide_eq_false ne_did_knows | exact decide_eq_false ne_found_knows | exact decide_eq_false ne_again_knows)
theorem did_of {t : Tel} {b : Bool} (h : decide (t.kind = ("did" : Str)) = b) : t.isDid = b := by
  subst h
  cases t <;> (symm; first | exact decide_eq_true rfl | exact decide_eq_false ne_knows_did | exact decide_eq_false ne_found_did | exact decide_eq_false ne_again_did)
section
variable {X : Cx} {E : Ent} {Γ Γ' : List Slot} {D : Ends} {e f g o : Expr} {es : List Expr} {rest : List Stmt} {pos p p2 apos cpos : Pos} {α β γ ι : Type} {r : Rp α} {x : α} {s : Rp β} {y : β} {as : List α} {t : Tel} {u v n : Str} {i : Int} {k : Nat}
theorem ev_telAt {j : Int} {k : Nat} {w : V} (hx : atI t.vals j = some w) (hr : ∀ G, r.rel G w x) (h : Ev X Γ e (rTel X.K) t) : Ev X Γ (.Subscript e (.Constant (.int j) k p2) pos) r x := fun E G H σ hh Q q =>
  WE.of (pe_ix ix_tup WE.pe pe_int (plain_of rfl)) (h E G H σ hh _ fun v G1 H1 l1 ⟨p, e1, hp⟩ => ⟨p, _, j, w, e1, rfl, Evl.ex_t l1.gh hp, hx, q _ G1 H1 l1 (hr G1)⟩)
theorem ev_tel0 (h : Ev X Γ e (rTel X.K) t) : Ev X Γ (.Subscript e (.Constant (.int 0) k p2) pos) rStr t.kind := ev_telAt (w := .str t.kind) (by cases t <;> rfl) (fun _ => rfl) h
theorem ev_tel1 (h : Ev X Γ e (rTel X.K) t) : Ev X Γ (.Subscript e (.Constant (.int 1) k p2) pos) rStr t.name := ev_telAt (w := .str t.name) (by cases t <;> rfl) (fun _ => rfl) h
theorem ev_tel2 (ht : t.isAgain = false) (h : Ev X Γ e (rTel X.K) t) : Ev X Γ (.Subscript e (.Constant (.int 2) k p2) pos) rInt t.num := ev_telAt (w := .int t.num) (by cases t <;> first | rfl | (simp [Tel.isAgain] at ht)) (fun _ => rfl) h
theorem ev_tel3 (ht : t.isFound = true) (h : Ev X Γ e (rTel X.K) t) : Ev X Γ (.Subscript e (.Constant (.int 3) k p2) pos) rStr t.leaf := ev_telAt (w := .str t.leaf) (by cases t <;> first | rfl | (simp [Tel.isFound] at ht)) (fun _ => rfl) h
theorem ev_tel4 (ht : t.isFound = true) (h : Ev X Γ e (rTel X.K) t) : Ev X Γ (.Subscript e (.Constant (.int 4) k p2) pos) (rOpt rInt) t.last := ev_telAt (w := oV t.last) (by cases t <;> first | rfl | (simp [Tel.isFound] at ht)) (fun _ => by cases t.last <;> rfl) h
theorem ev_lenTel (h : Ev X Γ e (rTel X.K) t) (hm : X.mg "len" = none) (hg : Gl X "len" := by rfl) (he : starEach (e :: []) X.env = (false, eval e X.env) :: starEach [] X.env := by rfl) (hpl : (backTo pos (starEach [] X.env)).any (·.1) = false := by rfl) :
    Ev X Γ (.Call (.Name "len" p) [e] [] pos) rInt t.size := fun E G H σ hh Q q =>
  WE.of (pe_callB call_len_seq hg hm PySem.boot_len (pa_cons WE.pe pa_nil he) (he := he) (hpl := hpl)) (h E G H σ hh _ fun v G1 H1 l1 ⟨p, e1, hp⟩ => ⟨p, _, by rw [e1], .inr (Evl.ex_t l1.gh hp), by cases t <;> exact q _ G1 H1 l1 rfl⟩)
theorem Ev.telDid (h : Ev X Γ e (rT3 X.K rStr rStr rInt) ("did", n, i)) : Ev X Γ e (rTel X.K) (.did n i) := fun E G H σ hh Q q => h E G H σ hh Q fun v G1 H1 l1 ⟨a, x, y, z, e1, h1, h2, h3, h4⟩ => q v G1 H1 l1 (by
  have e2 : x = .str "did" := h2
  have e3 : y = .str n := h3
  have e4 : z = .int i := h4
  subst e1 e2 e3 e4
  exact ⟨a, rfl, h1⟩)
theorem Ev.telKnows (h : Ev X Γ e (rT3 X.K rStr rStr rInt) ("knows", n, i)) : Ev X Γ e (rTel X.K) (.knows n i) := fun E G H σ hh Q q => h E G H σ hh Q fun v G1 H1 l1 ⟨a, x, y, z, e1, h1, h2, h3, h4⟩ => q v G1 H1 l1 (by
  have e2 : x = .str "knows" := h2
  have e3 : y = .str n := h3
  have e4 : z = .int i := h4
  subst e1 e2 e3 e4
  exact ⟨a, rfl, h1⟩)
theorem Ev.telAgain (h : Ev X Γ e (rT2 X.K rStr rStr) ("again", n)) : Ev X Γ e (rTel X.K) (.again n) := fun E G H σ hh Q q => h E G H σ hh Q fun v G1 H1 l1 ⟨a, x, y, e1, h1, h2, h3⟩ => q v G1 H1 l1 (by
  have e2 : x = .str "again" := h2
  have e3 : y = .str n := h3
  subst e1 e2 e3
  exact ⟨a, rfl, h1⟩)
theorem ev_telFound {m : Nat} {en ln : Str} {w : Int} {st : Option Int} (h : EvA X Γ es [⟨rStr, "found"⟩, ⟨rStr, en⟩, ⟨rInt, w⟩, ⟨rStr, ln⟩, ⟨rOpt rInt, st⟩]) : Ev X Γ (.Tuple es m pos) (rTel X.K) (.found en w ln st) := fun E G H σ hh Q q =>
  WE.of (pe_tup WA.pa) (h E G H σ hh _ fun vs G1 H1 l1 a1 => by
    match vs, a1 with
    | [v1, v2, v3, v4, v5], ⟨h1, h2, h3, h4, h5, _⟩ =>
      refine ⟨by show 5 ≤ sizeLine; decide, fun p n => ?_⟩
      have e1 : v1 = .str "found" := h1
      have e2 : v2 = .str en := h2
      have e3 : v3 = .int w := h3
      have e4 : v4 = .str ln := h4
      have e5 : v5 = oV st := rOpt_oV h5
      subst e1 e2 e3 e4 e5
      exact q _ (upd G1 p (.tup _)) _ (l1.add n) ⟨p, rfl, .inl (.inl upd_same)⟩)
/-- u in (v, w) -/
theorem inV_str {i : Str} : ∀ {ns : List Str}, inV (.str i) (ns.map V.str) = decide (i ∈ ns)
  | [] => rfl
  | n :: ns => by
    show (eqV (.str n) (.str i) || inV (.str i) (ns.map V.str)) = _
    rw [inV_str]
    by_cases h : n = i
    · subst h; simp [eqV]
    · have h' : ¬ i = n := fun z => h z.symm
      simp [eqV, h, h']
theorem flat_strs {ns : List Str} : (ns.map V.str).all flatV = true := by simp [List.all_map, flatV]
theorem gv_inT2 {a b : Str} : Gives (rIn X.K false) rStr u (rT2 X.K rStr rStr) (a, b) rBool (decide (u ∈ [a, b])) := fun G H x y e h1 ⟨p, v1, v2, e2, hp, k1, k2⟩ Q q => by
  cases h1
  have e3 : v1 = .str a := k1
  have e4 : v2 = .str b := k2
  subst e3 e4
  exact ⟨p, _, e2, .inr (Evl.ex_t e hp), rfl, flat_strs (ns := [a, b]), by
    have z := inV_str (i := u) (ns := [a, b])
    exact q _ G H (.refl e) (congrArg V.bl z)⟩
theorem ev_inT2 {a b : Str} (ha : Ev X Γ e rStr u) (hb : Ev X Γ f (rT2 X.K rStr rStr) (a, b)) (hm : behindInMarks .In f = false := by rfl) : Ev X Γ (.Compare e [.In] [f] pos) rBool (decide (u ∈ [a, b])) := ev_cmpR op_in_seq ha hb gv_inT2 hm
theorem et_inT2 {a b : Str} (ha : Ev X Γ e rStr u) (hb : Ev X Γ f (rT2 X.K rStr rStr) (a, b)) (hm : behindInMarks .In f = false := by rfl) : EvT X Γ (.Compare e [.In] [f] pos) (decide (u ∈ [a, b])) := et_cmpR op_in_seq ha hb gv_inT2 hm
theorem gv_inSs {ns : List Str} : Gives (rIn X.K false) rStr u (rLst rStr) ns rBool (decide (u ∈ ns)) := fun G H a b e h1 ⟨p, vs, e2, hp, ha⟩ Q q => by
  cases h1
  rw [all2_str ha] at hp
  exact ⟨p, _, e2, .inl (.inl (.inl (e _ _ hp))), rfl, flat_strs, by rw [inV_str]; exact q _ G H (.refl e) rfl⟩
theorem ev_inSs {ns : List Str} (ha : Ev X Γ e rStr u) (hb : Ev X Γ f (rLst rStr) ns) (hm : behindInMarks .In f = false := by rfl) : Ev X Γ (.Compare e [.In] [f] pos) rBool (decide (u ∈ ns)) := ev_cmpR op_in_seq ha hb gv_inSs hm
theorem et_inSs {ns : List Str} (ha : Ev X Γ e rStr u) (hb : Ev X Γ f (rLst rStr) ns) (hm : behindInMarks .In f = false := by rfl) : EvT X Γ (.Compare e [.In] [f] pos) (decide (u ∈ ns)) := et_cmpR op_in_seq ha hb gv_inSs hm
end
end Hf

namespace Hf
open PySem PySem.Spec PyProof.Rows L2 ClX
/-! ### what the methods of works come to -/
def dg (did : List (Str × Int)) (n : Str) : Int := (dGet did n).getD 0
namespace Pl
def weights (w : Pl) : Int := (w.parts.map fun q => q.1).sum
mutual
def find : Pl → Str → Option Pl
  | .leaf n s, x => if decide (n = x) = true then some (.leaf n s) else none
  | .lot r n ps, x => if decide (n = x) = true then some (.lot r n ps) else finds ps x
def finds : List (Int × Pl) → Str → Option Pl
  | [], _ => none
  | (_, w) :: ps, x => match find w x with
    | some z => some z
    | none => finds ps x
end
mutual
def leaves : Pl → List Pl
  | .leaf n s => [.leaf n s]
  | .lot _ _ ps => leavess ps
def leavess : List (Int × Pl) → List Pl
  | [] => []
  | (_, w) :: ps => leaves w ++ leavess ps
end
mutual
def far : Pl → List (Str × Int) → Rat
  | .leaf n s, did => match s with
    | none => 0
    | some m => (dg did n : Rat) / (m : Rat)
  | .lot _ _ ps, did => fars ((ps.map fun q => q.1).sum) ps did
def fars : Int → List (Int × Pl) → List (Str × Int) → Rat
  | _, [], _ => 0
  | W, (i, w) :: ps, did => (i : Rat) / (W : Rat) * far w did + fars W ps did
end
mutual
def withLeaf (x : Str) (wt : Int) (lf : Pl) : Pl → Pl
  | .leaf n s => .leaf n s
  | .lot r n ps => .lot r n (if decide (n = x) = true then withLeafs x wt lf ps ++ [(wt, lf)] else withLeafs x wt lf ps)
def withLeafs (x : Str) (wt : Int) (lf : Pl) : List (Int × Pl) → List (Int × Pl)
  | [] => []
  | (i, w) :: ps => (i, withLeaf x wt lf w) :: withLeafs x wt lf ps
end
mutual
def withSteps (x : Str) (k : Int) : Pl → Pl
  | .leaf n s => if decide (n = x) = true then .leaf x (some k) else .leaf n s
  | .lot r n ps => .lot r n (withStepss x k ps)
def withStepss (x : Str) (k : Int) : List (Int × Pl) → List (Int × Pl)
  | [] => []
  | (i, w) :: ps => (i, withSteps x k w) :: withStepss x k ps
end
theorem withLeafs_map {x : Str} {wt : Int} {lf : Pl} : ∀ ps : List (Int × Pl), withLeafs x wt lf ps = ps.map fun q => (q.1, withLeaf x wt lf q.2)
  | [] => by simp [withLeafs]
  | (i, w) :: ps => by simp [withLeafs, withLeafs_map ps]
theorem withStepss_map {x : Str} {k : Int} : ∀ ps : List (Int × Pl), withStepss x k ps = ps.map fun q => (q.1, withSteps x k q.2)
  | [] => by simp [withStepss]
  | (i, w) :: ps => by simp [withStepss, withStepss_map ps]
theorem fars_foldl {W : Int} {did : List (Str × Int)} : ∀ (ps : List (Int × Pl)) (a : Rat), ps.foldl (fun (a : Rat) (q : Int × Pl) => a + (q.1 : Rat) / (W : Rat) * far q.2 did) a = a + fars W ps did
  | [], a => by simp [fars, Rat.add_zero]
  | (i, w) :: ps, a => by
    rw [List.foldl_cons, fars_foldl ps]
    simp only [fars]
    rw [Rat.add_assoc]
theorem leavess_eq : ∀ (ps : List (Int × Pl)), leavess ps = ps.flatMap (fun q => q.2.leaves)
  | [] => by simp [leavess]
  | (i, w) :: ps => by simp [leavess, leavess_eq ps]
mutual
/-- a denominator of all that is reckoned of it -/
def den : Pl → Nat
  | .leaf _ s => match s with
    | none => 1
    | some m => m.toNat
  | .lot _ _ ps => (ps.map fun q : Int × Pl => q.1).sum.toNat * dens ps
def dens : List (Int × Pl) → Nat
  | [] => 1
  | (_, w) :: ps => den w * dens ps
end
end Pl
/-- q = N / D, from 0 to S / D' .. -/
def Fr (q : Rat) (S D : Nat) : Prop := ∃ N : Nat, N ≤ S ∧ q * (D : Rat) = (N : Rat)
theorem fr_lim {q : Rat} {D k : Nat} (h : Fr q D D) (hD : 0 < D) (hk : D < 2 ^ k) : Lim k q := by
  obtain ⟨N, hN, e⟩ := h
  have hd : (D : Rat) ≠ 0 := fun z => by have := Rat.natCast_eq_zero_iff.mp z; omega
  have e2 : q = mkRat (N : Int) D := by
    rw [Rat.mkRat_eq_div]
    have e3 : ((N : Int) : Rat) = (N : Rat) := Rat.intCast_natCast N
    rw [e3, ← e, Rat.mul_div_cancel hd]
  have hn : q.num = (N : Int) / (Nat.gcd D N : Nat) := by
    rw [e2, Rat.num_mkRat, if_neg (by omega)]
    rfl
  have hdn : q.den = D / Nat.gcd D N := by
    rw [e2, Rat.den_mkRat, if_neg (by omega)]
    rfl
  constructor
  · rw [hn]
    have : ((N : Int) / (Nat.gcd D N : Nat)).natAbs = N / Nat.gcd D N := by
      rw [← Int.natCast_ediv, Int.natAbs_natCast]
    rw [this]
    exact Nat.lt_of_le_of_lt (Nat.le_trans (Nat.div_le_self _ _) hN) hk
  · rw [hdn]
    exact Nat.lt_of_le_of_lt (Nat.div_le_self _ _) hk
theorem fr_mono {q : Rat} {S S' D : Nat} (h : Fr q S D) (k : S ≤ S') : Fr q S' D := by
  obtain ⟨N, h1, h2⟩ := h
  exact ⟨N, Nat.le_trans h1 k, h2⟩
theorem fr_nonneg {q : Rat} {S D : Nat} (h : Fr q S D) (hD : 0 < D) : 0 ≤ q := by
  obtain ⟨N, h1, h2⟩ := h
  have hd : (0 : Rat) < (D : Rat) := Rat.natCast_pos.mpr hD
  have h0 : (0 : Rat) ≤ (N : Rat) := Rat.natCast_nonneg
  rw [← h2] at h0
  by_cases z : 0 ≤ q
  · exact z
  · exfalso
    have := Rat.mul_lt_mul_of_pos_right (Rat.not_le.mp z) hd
    grind
theorem fr_le {q : Rat} {S D : Nat} (h : Fr q S D) (hD : 0 < D) (hs : S ≤ D) : q ≤ 1 := by
  obtain ⟨N, h1, h2⟩ := h
  have hd : (0 : Rat) < (D : Rat) := Rat.natCast_pos.mpr hD
  have hn : (N : Rat) ≤ (D : Rat) := Rat.natCast_le_natCast.mpr (by omega)
  rw [← h2] at hn
  by_cases z : q ≤ 1
  · exact z
  · exfalso
    have := Rat.mul_lt_mul_of_pos_right (Rat.not_le.mp z) hd
    grind
/-- counts of leaves whose steps are known are such -/
def CntOk (did : List (Str × Int)) (w : Pl) : Prop := ∀ n m, Pl.leaf n (some m) ∈ w.all → 0 ≤ dg did n ∧ dg did n ≤ m
theorem CntOk.part {did : List (Str × Int)} {w : Pl} {q : Int × Pl} (h : CntOk did w) (m : q ∈ w.parts) : CntOk did q.2 := fun n k hk => h n k (by
  rw [Pl.all_eq, Pl.alls_eq]
  exact List.mem_cons_of_mem _ (List.mem_flatMap.mpr ⟨q, m, hk⟩))
theorem fit_st {n : Str} {m : Int} (h : (Pl.leaf n (some m)).Fit) : 1 ≤ m ∧ m ≤ 1000 := by
  have := h m rfl
  simp only [isNum, Bool.and_eq_true, decide_eq_true_eq] at this
  exact this
theorem den_pos' : ∀ (w : Pl), w.Fit → 0 < w.den := by
  have key : ∀ (d : Nat) (w : Pl), w.depth ≤ d → w.Fit → 0 < w.den := fun d => by
    induction d with
    | zero => intro w h; have := Pl.depth_pos w; omega
    | succ d ih =>
      intro w hd hf
      cases w with
      | leaf n s =>
        cases s with
        | none => simp [Pl.den]
        | some m => have := fit_st hf; simp only [Pl.den]; omega
      | lot r n ps =>
        have hp : ∀ q ∈ ps, 1 ≤ q.1 ∧ 0 < q.2.den := fun q hq => by
          refine ⟨?_, ih q.2 (by have := Pl.part_depth (w := .lot r n ps) hq; omega) (Pl.fits_mem.mp hf.2 q hq)⟩
          have := hf.1
          unfold arePartsB at this
          have := List.all_eq_true.mp (Bool.and_eq_true_iff.mp this).2 q hq
          simp only [isNum, Bool.and_eq_true, decide_eq_true_eq] at this
          exact this.1
        have h1 : ∀ l : List (Int × Pl), (∀ q ∈ l, 1 ≤ q.1 ∧ 0 < q.2.den) → 0 ≤ (l.map fun q => q.1).sum ∧ (l ≠ [] → 0 < (l.map fun q => q.1).sum) ∧ 0 < Pl.dens l := fun l => by
          induction l with
          | nil => intro _; simp [Pl.dens]
          | cons q l ih2 =>
            intro h
            obtain ⟨a, b⟩ := h q List.mem_cons_self
            obtain ⟨c1, _, c2⟩ := ih2 fun z m => h z (List.mem_cons_of_mem _ m)
            obtain ⟨i, v⟩ := q
            refine ⟨by simp; omega, fun _ => by simp; omega, ?_⟩
            simp only [Pl.dens]
            exact Nat.mul_pos b c2
        obtain ⟨_, e2, e3⟩ := h1 ps hp
        have ne : ps ≠ [] := fun z => by
          have := hf.1
          subst z
          simp [arePartsB] at this
        simp only [Pl.den]
        exact Nat.mul_pos (by have := e2 ne; omega) e3
  exact fun w => key w.depth w (Nat.le_refl _)
end Hf

namespace Hf
open PySem PySem.Spec PyProof.Rows L2 ClX
def wsum (ps : List (Int × Pl)) : Nat := (ps.map fun q : Int × Pl => q.1.toNat).sum
theorem wsum_int : ∀ {ps : List (Int × Pl)}, (∀ q ∈ ps, 0 ≤ q.1) → (ps.map fun q : Int × Pl => q.1).sum = (wsum ps : Int)
  | [], _ => rfl
  | q :: ps, h => by
    have a := h q List.mem_cons_self
    have ih := wsum_int (ps := ps) fun z m => h z (List.mem_cons_of_mem _ m)
    simp only [List.map_cons, List.sum_cons, wsum] at *
    rw [ih]
    omega
theorem fit_parts {r : Bool} {n : Str} {ps : List (Int × Pl)} (h : (Pl.lot r n ps).Fit) : ∀ q ∈ ps, (1 ≤ q.1 ∧ q.1 ≤ 100) ∧ q.2.Fit := fun q hq => by
  refine ⟨?_, Pl.fits_mem.mp h.2 q hq⟩
  have := h.1
  unfold arePartsB at this
  have := List.all_eq_true.mp (Bool.and_eq_true_iff.mp this).2 q hq
  simpa [isNum] using this
theorem fit_len {r : Bool} {n : Str} {ps : List (Int × Pl)} (h : (Pl.lot r n ps).Fit) : 1 ≤ ps.length ∧ ps.length ≤ 6 := by
  have := h.1
  unfold arePartsB at this
  exact of_decide_eq_true (Bool.and_eq_true_iff.mp this).1
theorem wsum_le : ∀ {ps : List (Int × Pl)}, (∀ q ∈ ps, 1 ≤ q.1 ∧ q.1 ≤ 100) → ps.length ≤ wsum ps ∧ wsum ps ≤ 100 * ps.length
  | [], _ => by simp [wsum]
  | q :: ps, h => by
    have a := h q List.mem_cons_self
    have ih := wsum_le (ps := ps) fun z m => h z (List.mem_cons_of_mem _ m)
    simp only [wsum, List.map_cons, List.sum_cons, List.length_cons] at *
    omega
/-- a part's share put to the others' -/
theorem fr_add {f g : Rat} {W D P S i : Nat} (hW : 0 < W) (hf : Fr f D D) (hg : Fr g (S * P) (W * P)) : Fr ((i : Rat) / (W : Rat) * f + g) ((i + S) * (D * P)) (W * (D * P)) := by
  obtain ⟨N, h1, h2⟩ := hf
  obtain ⟨M, h3, h4⟩ := hg
  refine ⟨i * N * P + M * D, ?_, ?_⟩
  · have a : i * N * P ≤ i * D * P := Nat.mul_le_mul_right _ (Nat.mul_le_mul_left _ h1)
    have b : M * D ≤ S * P * D := Nat.mul_le_mul_right _ h3
    have e : (i + S) * (D * P) = i * D * P + S * P * D := by rw [Nat.add_mul, Nat.mul_assoc, Nat.mul_assoc, Nat.mul_comm P D]
    omega
  · have hw : (W : Rat) ≠ 0 := fun z => by have := Rat.natCast_eq_zero_iff.mp z; omega
    simp only [Rat.natCast_add, Rat.natCast_mul] at *
    grind
theorem fr_term {f : Rat} {W D i : Nat} (hW : 0 < W) (hf : Fr f D D) : Fr ((i : Rat) / (W : Rat) * f) (i * D) (W * D) := by
  obtain ⟨N, h1, h2⟩ := hf
  refine ⟨i * N, Nat.mul_le_mul_left _ h1, ?_⟩
  have hw : (W : Rat) ≠ 0 := fun z => by have := Rat.natCast_eq_zero_iff.mp z; omega
  simp only [Rat.natCast_mul] at *
  grind
theorem int_nat {i : Int} (h : 0 ≤ i) : (i : Rat) = (i.toNat : Rat) := by
  obtain ⟨k, rfl⟩ := Int.eq_ofNat_of_zero_le h
  rw [Int.toNat_natCast]
  exact Rat.intCast_natCast k
theorem fars_fr {did : List (Str × Int)} {W : Nat} (hW : 0 < W) : ∀ {l : List (Int × Pl)}, (∀ q ∈ l, 0 ≤ q.1 ∧ Fr (q.2.far did) q.2.den q.2.den) → Fr (Pl.fars (W : Int) l did) (wsum l * Pl.dens l) (W * Pl.dens l)
  | [], _ => ⟨0, Nat.zero_le _, by simp [Pl.fars]⟩
  | (i, w) :: l, h => by
    obtain ⟨a, b⟩ := h (i, w) List.mem_cons_self
    have ih := fars_fr hW (l := l) fun z m => h z (List.mem_cons_of_mem _ m)
    have z := fr_add (i := i.toNat) hW b ih
    simp only [Pl.fars, Pl.dens]
    have e : wsum ((i, w) :: l) = i.toNat + wsum l := by simp [wsum]
    rw [e, int_nat a, Rat.intCast_natCast]
    exact z
theorem far_fr {did : List (Str × Int)} : ∀ {w : Pl}, w.Fit → CntOk did w → Fr (w.far did) w.den w.den := fun {w} => by
  have key : ∀ (d : Nat) (w : Pl), w.depth ≤ d → w.Fit → CntOk did w → Fr (w.far did) w.den w.den := fun d => by
    induction d with
    | zero => intro w h; have := Pl.depth_pos w; omega
    | succ d ih =>
      intro w hd hf hc
      cases w with
      | leaf n s =>
        cases s with
        | none => exact ⟨0, Nat.zero_le _, by simp [Pl.far]⟩
        | some m =>
          have hm := fit_st hf
          have hcnt := hc n m (by simp [Pl.all])
          refine ⟨(dg did n).toNat, ?_, ?_⟩
          · simp only [Pl.den]; omega
          · simp only [Pl.far, Pl.den]
            rw [← int_nat (by omega), ← int_nat hcnt.1]
            have : (m : Rat) ≠ 0 := fun z => by have := Rat.intCast_eq_zero_iff.mp z; omega
            grind
      | lot r n ps =>
        have hp := fit_parts hf
        have hw := wsum_le fun q m => (hp q m).1
        have hl := fit_len hf
        have e := wsum_int (ps := ps) fun q m => by have := (hp q m).1; omega
        have z := fars_fr (did := did) (W := wsum ps) (by omega) (l := ps) fun q m => ⟨by have := (hp q m).1; omega, ih q.2 (by have := Pl.part_depth (w := .lot r n ps) m; omega) (hp q m).2 (hc.part (w := .lot r n ps) m)⟩
        simp only [Pl.far, Pl.den, e, Int.toNat_natCast]
        exact z
  exact key w.depth w (Nat.le_refl _)
theorem den_lt : ∀ {w : Pl}, w.Fit → w.den < 2 ^ (10 * w.names.length) := fun {w} => by
  have key : ∀ (d : Nat) (w : Pl), w.depth ≤ d → w.Fit → w.den < 2 ^ (10 * w.names.length) := fun d => by
    induction d with
    | zero => intro w h; have := Pl.depth_pos w; omega
    | succ d ih =>
      intro w hd hf
      cases w with
      | leaf n s =>
        cases s with
        | none => simp [Pl.den, Pl.names]
        | some m => have := fit_st hf; simp [Pl.den, Pl.names]; omega
      | lot r n ps =>
        have hp := fit_parts hf
        have hw := wsum_le fun q m => (hp q m).1
        have hl := fit_len hf
        have e := wsum_int (ps := ps) fun q m => by have := (hp q m).1; omega
        have k : ∀ l : List (Int × Pl), (∀ q ∈ l, q.2.den < 2 ^ (10 * q.2.names.length)) → Pl.dens l ≤ 2 ^ (10 * (Pl.namess l).length) := fun l => by
          induction l with
          | nil => intro _; simp [Pl.dens, Pl.namess]
          | cons q l ih2 =>
            intro h
            obtain ⟨i, v⟩ := q
            have a := h (i, v) List.mem_cons_self
            have b := ih2 fun z m => h z (List.mem_cons_of_mem _ m)
            simp only [Pl.dens, Pl.namess, List.length_append, Nat.mul_add, Nat.pow_add]
            exact Nat.mul_le_mul (Nat.le_of_lt a) b
        have b := k ps fun q m => ih q.2 (by have := Pl.part_depth (w := .lot r n ps) m; omega) (hp q m).2
        simp only [Pl.den, Pl.names, e, Int.toNat_natCast, List.length_cons]
        rw [show 10 * ((Pl.namess ps).length + 1) = 10 + 10 * (Pl.namess ps).length by omega, Nat.pow_add]
        refine Nat.lt_of_le_of_lt (Nat.mul_le_mul_left _ b) (Nat.mul_lt_mul_of_pos_right (show wsum ps < 2 ^ 10 by omega) (Nat.pow_pos (by decide)))
  exact key w.depth w (Nat.le_refl _)
theorem far_lim {did : List (Str × Int)} {w : Pl} (hf : w.Fit) (hc : CntOk did w) (hn : w.names.length ≤ 20) : Lim 200 (w.far did) :=
  fr_lim (far_fr hf hc) (den_pos' w hf) (Nat.lt_of_lt_of_le (den_lt hf) (Nat.pow_le_pow_right (by decide) (by omega)))
theorem far_bounds {did : List (Str × Int)} {w : Pl} (hf : w.Fit) (hc : CntOk did w) : 0 ≤ w.far did ∧ w.far did ≤ 1 :=
  ⟨fr_nonneg (far_fr hf hc) (den_pos' w hf), fr_le (far_fr hf hc) (den_pos' w hf) (Nat.le_refl _)⟩
theorem dens_take : ∀ (ps : List (Int × Pl)) (i : Nat), (∀ q ∈ ps, 0 < q.2.den) → Pl.dens (ps.take i) ≤ Pl.dens ps ∧ 0 < Pl.dens (ps.take i)
  | [], i, _ => by simp [Pl.dens]
  | (j, w) :: ps, 0, h => by
    refine ⟨?_, by simp [Pl.dens]⟩
    have a := h (j, w) List.mem_cons_self
    have b := dens_take ps 0 fun z m => h z (List.mem_cons_of_mem _ m)
    simp only [List.take_zero, Pl.dens] at *
    exact Nat.mul_pos a (by omega)
  | (j, w) :: ps, i + 1, h => by
    have a := h (j, w) List.mem_cons_self
    have b := dens_take ps i fun z m => h z (List.mem_cons_of_mem _ m)
    simp only [List.take_succ_cons, Pl.dens]
    exact ⟨Nat.mul_le_mul_left _ b.1, Nat.mul_pos a b.2⟩
theorem wsum_take (ps : List (Int × Pl)) (i : Nat) : wsum (ps.take i) ≤ wsum ps := by
  have e : wsum ps = wsum (ps.take i) + wsum (ps.drop i) := by
    conv => lhs; rw [← List.take_append_drop i ps]
    simp only [wsum, List.map_append, List.sum_append]
  omega
/-- for the walk of far: what is reckoned so far -/
theorem far_part {did : List (Str × Int)} {r : Bool} {n : Str} {ps : List (Int × Pl)} (hf : (Pl.lot r n ps).Fit) (hc : CntOk did (.lot r n ps)) (hn : (Pl.lot r n ps).names.length ≤ 20) (i : Nat) :
    Lim 200 (Pl.fars ((ps.map fun q : Int × Pl => q.1).sum) (ps.take i) did) := by
  have hp := fit_parts hf
  have hw := wsum_le fun q m => (hp q m).1
  have hl := fit_len hf
  have e := wsum_int (ps := ps) fun q m => by have := (hp q m).1; omega
  have mem : ∀ q ∈ ps.take i, q ∈ ps := fun q m => List.mem_of_mem_take m
  have z := fars_fr (did := did) (W := wsum ps) (by omega) (l := ps.take i) fun q m => ⟨by have := (hp q (mem q m)).1; omega, far_fr (hp q (mem q m)).2 (hc.part (w := .lot r n ps) (mem q m))⟩
  have dt := dens_take ps i fun q m => den_pos' q.2 (hp q m).2
  have hd := den_lt hf
  simp only [Pl.den, e, Int.toNat_natCast] at hd
  rw [e]
  refine fr_lim (fr_mono z (Nat.mul_le_mul_right _ (wsum_take ps i))) (Nat.mul_pos (by omega) dt.2) ?_
  exact Nat.lt_of_le_of_lt (Nat.mul_le_mul_left _ dt.1) (Nat.lt_of_lt_of_le hd (Nat.pow_le_pow_right (by decide) (by omega)))
theorem far_term {did : List (Str × Int)} {r : Bool} {n : Str} {ps : List (Int × Pl)} (hf : (Pl.lot r n ps).Fit) (hc : CntOk did (.lot r n ps)) (hn : (Pl.lot r n ps).names.length ≤ 20) {q : Int × Pl} (hq : q ∈ ps) :
    Lim 10 ((q.1 : Rat) / (((ps.map fun q : Int × Pl => q.1).sum : Int) : Rat)) ∧ Lim 210 ((q.1 : Rat) / (((ps.map fun q : Int × Pl => q.1).sum : Int) : Rat) * q.2.far did) := by
  have hp := fit_parts hf
  have hw := wsum_le fun q m => (hp q m).1
  have hl := fit_len hf
  have e := wsum_int (ps := ps) fun q m => by have := (hp q m).1; omega
  obtain ⟨i1, f1⟩ := hp q hq
  have le1 : q.1.toNat ≤ wsum ps := by
    obtain ⟨a, b, e2⟩ := List.append_of_mem hq
    rw [e2]
    simp only [wsum, List.map_append, List.map_cons, List.sum_append, List.sum_cons]
    omega
  have qn : q.2.names.length ≤ 20 := Nat.le_trans (names_sub (w := .lot r n ps) hq).length_le hn
  have hdq := den_lt f1
  rw [e, int_nat (by omega), Rat.intCast_natCast]
  constructor
  · have z := fr_term (f := 1) (W := wsum ps) (D := 1) (i := q.1.toNat) (by omega) ⟨1, Nat.le_refl _, by grind⟩
    rw [Rat.mul_one, Nat.mul_one, Nat.mul_one] at z
    exact fr_lim (fr_mono z le1) (by omega) (by omega)
  · have z := fr_term (W := wsum ps) (i := q.1.toNat) (by omega) (far_fr f1 (hc.part (w := .lot r n ps) hq))
    refine fr_lim (fr_mono z (Nat.mul_le_mul_right _ le1)) (Nat.mul_pos (by omega) (den_pos' _ f1)) ?_
    rw [show (210 : Nat) = 10 + 200 from rfl, Nat.pow_add]
    exact Nat.mul_lt_mul'' (by omega) (Nat.lt_of_lt_of_le hdq (Nat.pow_le_pow_right (by decide) (by omega)))
end Hf

namespace Hf
open PySem PySem.Spec PyProof.Rows L2 ClX
theorem thin_q {K : PySem.W.Frag} {q : Rat} : Thin (rQ K) q := fun G p o v n h => thin_T2 (K := K) (r := rInt) (s := rInt) (x := cn q) thin_int thin_int G p o v n h
theorem thin_tel {K : PySem.W.Frag} {t : Tel} : Thin (rTel K) t := fun G p o v n ⟨a, e, h⟩ => ⟨a, e, sqT_thin n h⟩
/-! ### virtual methods that leaves and lots have each by themselves -/
section
variable {P : Program} {w : World} {K : PySem.W.Frag} {mg : Str → Option Value} {base : Heap} {f g : Addr} {fd gd : FuncData} {ps qs : List Str} {k j : Nat} {c : WC} {m : Str}
theorem of_leaf {w : Pl} (h : w.isLeaf = true) : c.of w = c.L := by
  cases w with
  | leaf n s => rfl
  | lot r n ps => simp [Pl.isLeaf] at h
theorem of_lot {w : Pl} (h : w.isLeaf = false) {p : Addr → Prop} (h2 : p c.R) (h3 : p c.B) : p (c.of w) := by
  cases w with
  | leaf n s => simp [Pl.isLeaf] at h
  | lot r n ps =>
    cases r
    · exact h3
    · exact h2
theorem HasV.mk2 {ι α : Type} {self : ι → Pl} {Pre PreL PreW : ι → Prop} {args : ι → List Ty} {r : Rp α} {res : ι → α} (cl : ∀ w, Cls K (c.of w)) (hl : Meth K c.L m g) (bl : Binds K gd qs []) (G : FnOk P w K mg base (CXL P w) j g gd qs (PSp PreL (fun z => ⟨rWk K c, self z⟩ :: args z) r res)) (hj : j ≤ k)
    (h2 : Meth K c.R m f) (h3 : Meth K c.B m f) (hb : Binds K fd ps []) (F : FnOk P w K mg base (CXL P w) k f fd ps (PSp PreW (fun z => ⟨rWk K c, self z⟩ :: args z) r res)) (h : ∀ y, Pre y → ((self y).isLeaf = true → PreL y) ∧ ((self y).isLeaf = false → PreW y)) : HasV P w K mg base c m k self Pre args r res := fun y hp => by
  cases e : (self y).isLeaf with
  | true => exact (HasM.mk0 (cl _) ((of_leaf (c := c) e).symm ▸ hl) bl G).sub hj fun vs H Q ⟨z, G, e2, hh⟩ => ⟨z, G, e2 ▸ (h y hp).1 e, hh⟩
  | false => exact (HasM.mk0 (cl _) (of_lot (p := fun C => Meth K C m f) e h2 h3) hb F).sub (Nat.le_refl _) fun vs H Q ⟨z, G, e2, hh⟩ => ⟨z, G, e2 ▸ (h y hp).2 e, hh⟩
theorem HasVO.mk2 {ι : Type} {self : ι → Pl} {Pre PreL PreW : ι → Prop} {args : ι → List Ty} {oc : ι → Oc} (cl : ∀ w, Cls K (c.of w)) (hl : Meth K c.L m g) (bl : Binds K gd qs []) (G : FnOk P w K mg base (CXL P w) j g gd qs (OSp PreL (fun z => ⟨rWk K c, self z⟩ :: args z) oc)) (hj : j ≤ k)
    (h2 : Meth K c.R m f) (h3 : Meth K c.B m f) (hb : Binds K fd ps []) (F : FnOk P w K mg base (CXL P w) k f fd ps (OSp PreW (fun z => ⟨rWk K c, self z⟩ :: args z) oc)) (h : ∀ y, Pre y → ((self y).isLeaf = true → PreL y) ∧ ((self y).isLeaf = false → PreW y)) : HasVO P w K mg base c m k self Pre args oc := fun y hp => by
  cases e : (self y).isLeaf with
  | true => exact (HasM.mk0 (cl _) ((of_leaf (c := c) e).symm ▸ hl) bl G).sub hj fun vs H Q ⟨z, G, e2, hh⟩ => ⟨z, G, e2 ▸ (h y hp).1 e, hh⟩
  | false => exact (HasM.mk0 (cl _) (of_lot (p := fun C => Meth K C m f) e h2 h3) hb F).sub (Nat.le_refl _) fun vs H Q ⟨z, G, e2, hh⟩ => ⟨z, G, e2 ▸ (h y hp).2 e, hh⟩
/-- rows and bundles each by themselves -/
theorem HasV.mkRB {ι α : Type} {self : ι → Pl} {Pre PreR PreB : ι → Prop} {args : ι → List Ty} {r : Rp α} {res : ι → α} (cl : ∀ w, Cls K (c.of w)) (h2 : Meth K c.R m g) (bl : Binds K gd qs []) (G : FnOk P w K mg base (CXL P w) k g gd qs (PSp PreR (fun z => ⟨rWk K c, self z⟩ :: args z) r res))
    (h3 : Meth K c.B m f) (hb : Binds K fd ps []) (F : FnOk P w K mg base (CXL P w) k f fd ps (PSp PreB (fun z => ⟨rWk K c, self z⟩ :: args z) r res)) (h : ∀ y, Pre y → (self y).isLeaf = false ∧ ((self y).isRow = true → PreR y) ∧ ((self y).isBun = true → PreB y)) : HasV P w K mg base c m k self Pre args r res := fun y hp => by
  obtain ⟨h0, h1, h4⟩ := h y hp
  cases e : self y with
  | leaf n s => rw [e] at h0; simp [Pl.isLeaf] at h0
  | lot row n qs' =>
    cases row with
    | true => exact (HasM.mk0 (C := c.of (.lot true n qs')) (cl _) h2 bl G).sub (Nat.le_refl _) fun vs H Q ⟨z, G, e2, hh⟩ => ⟨z, G, e2 ▸ h1 (by rw [e]; rfl), hh⟩
    | false => exact (HasM.mk0 (C := c.of (.lot false n qs')) (cl _) h3 hb F).sub (Nat.le_refl _) fun vs H Q ⟨z, G, e2, hh⟩ => ⟨z, G, e2 ▸ h4 (by rw [e]; rfl), hh⟩
end
/-! ### find, leaves, new parts -/
theorem find_eq (w : Pl) (x : Str) : w.find x = if decide (w.name = x) = true then some w else Pl.finds w.parts x := by
  cases w with
  | leaf n s => simp only [Pl.find, Pl.name, Pl.parts, Pl.finds]; rfl
  | lot r n ps => simp only [Pl.find, Pl.name, Pl.parts]; rfl
theorem finds_snoc {x : Str} {q : Int × Pl} : ∀ {ps : List (Int × Pl)}, Pl.finds ps x = none → Pl.finds (ps ++ [q]) x = q.2.find x
  | [], _ => by
    obtain ⟨i, w⟩ := q
    simp only [List.nil_append, Pl.finds]
    cases w.find x <;> rfl
  | (i, w) :: ps, h => by
    simp only [List.cons_append, Pl.finds] at *
    cases e : w.find x with
    | some z => rw [e] at h; cases h
    | none =>
      rw [e] at h
      exact finds_snoc h
theorem finds_mid {x : Str} {q : Int × Pl} {z : Pl} (hz : q.2.find x = some z) : ∀ {a b : List (Int × Pl)}, Pl.finds a x = none → Pl.finds (a ++ q :: b) x = some z
  | [], b, _ => by
    obtain ⟨i, w⟩ := q
    simp only [List.nil_append, Pl.finds]
    have hz' : w.find x = some z := hz
    rw [hz']
  | (i, w) :: a, b, h => by
    simp only [List.cons_append, Pl.finds] at *
    cases e : w.find x with
    | some z => rw [e] at h; cases h
    | none =>
      rw [e] at h
      exact finds_mid hz h
theorem leaves_eq (w : Pl) (h : w.isLeaf = false) : w.leaves = Pl.leavess w.parts := by
  cases w with
  | leaf n s => simp [Pl.isLeaf] at h
  | lot r n ps => simp only [Pl.leaves, Pl.parts]
theorem leaves_leaf {w : Pl} (h : w.isLeaf = true) : w.leaves = [w] := by
  cases w with
  | leaf n s => rfl
  | lot r n ps => simp [Pl.isLeaf] at h
theorem leavess_foldl : ∀ (ps : List (Int × Pl)) (a : List Pl), ps.foldl (fun (a : List Pl) (q : Int × Pl) => a ++ q.2.leaves) a = a ++ Pl.leavess ps
  | [], a => by simp [Pl.leavess]
  | (i, w) :: ps, a => by
    rw [List.foldl_cons, leavess_foldl ps]
    simp [Pl.leavess]
theorem leaves_sub : ∀ (w : Pl), List.Sublist w.leaves w.all := fun w => by
  have key : ∀ (d : Nat) (w : Pl), w.depth ≤ d → List.Sublist w.leaves w.all := fun d => by
    induction d with
    | zero => intro w h; have := Pl.depth_pos w; omega
    | succ d ih =>
      intro w hd
      cases w with
      | leaf n s => simp [Pl.leaves, Pl.all]
      | lot r n ps =>
        simp only [Pl.leaves, Pl.all, Pl.leavess_eq, Pl.alls_eq]
        refine List.Sublist.cons _ ?_
        have k : ∀ l : List (Int × Pl), (∀ q ∈ l, q.2.depth ≤ d) → List.Sublist (l.flatMap fun q => q.2.leaves) (l.flatMap fun q => q.2.all) := fun l => by
          induction l with
          | nil => intro _; simp
          | cons q l ih2 =>
            intro h
            rw [List.flatMap_cons, List.flatMap_cons]
            exact (ih q.2 (h q List.mem_cons_self)).append (ih2 fun z m => h z (List.mem_cons_of_mem _ m))
        exact k ps fun q m => by have := Pl.part_depth (w := .lot r n ps) m; omega
  exact key w.depth w (Nat.le_refl _)
theorem leaves_isLeaf : ∀ (w : Pl), ∀ z ∈ w.leaves, z.isLeaf = true := fun w => by
  have key : ∀ (d : Nat) (w : Pl), w.depth ≤ d → ∀ z ∈ w.leaves, z.isLeaf = true := fun d => by
    induction d with
    | zero => intro w h; have := Pl.depth_pos w; omega
    | succ d ih =>
      intro w hd z hz
      cases w with
      | leaf n s =>
        simp only [Pl.leaves, List.mem_singleton] at hz
        subst hz
        rfl
      | lot r n ps =>
        simp only [Pl.leaves, Pl.leavess_eq, List.mem_flatMap] at hz
        obtain ⟨q, m, hz⟩ := hz
        exact ih q.2 (by have := Pl.part_depth (w := .lot r n ps) m; omega) z hz
  exact key w.depth w (Nat.le_refl _)
theorem leaves_len (w : Pl) : w.leaves.length ≤ w.names.length := by rw [← all_len]; exact (leaves_sub w).length_le
theorem leaves_part {q : Int × Pl} {w : Pl} (h : q ∈ w.parts) : q.2.names.length ≤ w.names.length := (names_sub h).length_le
theorem leaves_fold {w : Pl} {i : Nat} {s : List Pl} (hl : w.isLeaf = false) (h : s = (w.parts.take i).foldl (fun (a : List Pl) (q : Int × Pl) => a ++ q.2.leaves) []) : s.length ≤ w.names.length := by
  rw [h, leavess_foldl]
  refine Nat.le_trans ?_ (leaves_len w)
  rw [leaves_eq w hl, Pl.leavess_eq, Pl.leavess_eq, List.nil_append, List.length_flatMap, List.length_flatMap]
  conv => rhs; rw [← List.take_append_drop i w.parts]
  rw [List.map_append, List.sum_append]
  omega
end Hf

namespace Hf
open PySem PySem.Spec PyProof.Rows L2 ClX
def qd (t b : Int) : Rat := (t : Rat) / (b : Rat)
theorem plus_q {p q : Rat} : p + q = qd (p.num * (q.den : Int) + q.num * (p.den : Int)) ((p.den : Int) * (q.den : Int)) := cn_inj (by rw [← plus_cn]; exact share_cn (Int.mul_pos (den_pos p) (den_pos q)))
theorem less_q {p q : Rat} : p - q = qd (p.num * (q.den : Int) - q.num * (p.den : Int)) ((p.den : Int) * (q.den : Int)) := cn_inj (by rw [← less_cn]; exact share_cn (Int.mul_pos (den_pos p) (den_pos q)))
theorem ofit_q {p q : Rat} : p * q = qd (p.num * q.num) ((p.den : Int) * (q.den : Int)) := cn_inj (by rw [← ofit_cn]; exact share_cn (Int.mul_pos (den_pos p) (den_pos q)))
theorem parted_q {p q : Rat} (h : 0 < q) : p / q = qd (p.num * (q.den : Int)) ((p.den : Int) * q.num) := cn_inj (by rw [← parted_cn h]; exact share_cn (Int.mul_pos (den_pos p) (num_pos h)))
theorem more_q {p q : Rat} : decide (q < p) = decide (q.num * (p.den : Int) < p.num * (q.den : Int)) := more_cn.symm
theorem Two.cm11 {p q : Rat} (h : Two p q) : CMulW p.num (q.den : Int) := by
  obtain ⟨m, n, h, a, b⟩ := h
  exact cm (a.top1 (by omega)) (b.top2 (by omega))
theorem Two.cm12 {p q : Rat} (h : Two p q) : CMulW q.num (p.den : Int) := by
  obtain ⟨m, n, h, a, b⟩ := h
  exact cm (b.top1 (by omega)) (a.top2 (by omega))
theorem Two.cm22 {p q : Rat} (h : Two p q) : CMulW (p.den : Int) (q.den : Int) := by
  obtain ⟨m, n, h, a, b⟩ := h
  exact cm (a.top2 (by omega)) (b.top2 (by omega))
theorem Two.cmnn {p q : Rat} (h : Two p q) : CMulW p.num q.num := by
  obtain ⟨m, n, h, a, b⟩ := h
  exact cm (a.top1 (by omega)) (b.top1 (by omega))
theorem Two.cm21 {p q : Rat} (h : Two p q) : CMulW (p.den : Int) q.num := by
  obtain ⟨m, n, h, a, b⟩ := h
  exact cm (a.top2 (by omega)) (b.top1 (by omega))
theorem Two.bot {p q : Rat} (h : Two p q) : Bot ((p.den : Int) * (q.den : Int)) := by
  obtain ⟨m, n, h, a, b⟩ := h
  exact a.bot2 b h (by have := a.pos; omega)
theorem Two.botn {p q : Rat} (h : Two p q) (hq : 0 < q) : Bot ((p.den : Int) * q.num) := by
  obtain ⟨m, n, h, a, b⟩ := h
  exact a.bot1 b hq h (by have := a.pos; omega)
theorem kind_q {K : PySem.W.Frag} {q : Rat} : Kind K (rQ K) q "tuple" := fun G v h => kind_T2 (K := K) (r := rInt) (s := rInt) (a := cn q) G v h
/-- what far asks -/
structure FarOk (w : Pl) (did : List (Str × Int)) : Prop where
  fit : w.Fit
  cnt : CntOk did w
  few : w.names.length ≤ 20
theorem FarOk.part {w : Pl} {did : List (Str × Int)} {q : Int × Pl} (h : FarOk w did) (m : q ∈ w.parts) : FarOk q.2 did := by
  refine ⟨?_, h.cnt.part m, Nat.le_trans (names_sub m).length_le h.few⟩
  have f := h.fit
  cases w with
  | leaf n s => simp [Pl.parts] at m
  | lot r n ps => exact (fit_parts f q m).2
theorem lot_of {w : Pl} (h : w.isLeaf = false) : ∃ r n ps, w = .lot r n ps := by
  cases w with
  | leaf n s => simp [Pl.isLeaf] at h
  | lot r n ps => exact ⟨r, n, ps, rfl⟩
theorem FarOk.lim {w : Pl} {did : List (Str × Int)} (h : FarOk w did) : Lim 200 (w.far did) := far_lim h.fit h.cnt h.few
theorem far_leaf {w : Pl} {did : List (Str × Int)} (h : w.isLeaf = true) : w.far did = if w.steps.isNone = true then (0 : Rat) else qd ((dGet did w.name).getD 0) (w.steps.getD 0) := by
  cases w with
  | leaf n s => cases s <;> rfl
  | lot r n ps => simp [Pl.isLeaf] at h
theorem far_bot {w : Pl} {did : List (Str × Int)} (h : FarOk w did) (hl : w.isLeaf = true) (hs : w.steps.isNone = false) : Bot (w.steps.getD 0) := by
  cases w with
  | leaf n s =>
    cases s with
    | none => simp [Pl.steps] at hs
    | some m =>
      have := fit_st h.fit
      exact bot_of (k := 10) (by simp [Pl.steps]; omega) (by simp [Pl.steps]; omega) (by omega) (by omega)
  | lot r n ps => simp [Pl.isLeaf] at hl
theorem far_lot {w : Pl} {did : List (Str × Int)} (h : w.isLeaf = false) : w.far did = w.parts.foldl (fun (a : Rat) (q : Int × Pl) => a + qd q.1 w.weights * q.2.far did) 0 := by
  obtain ⟨r, n, ps, rfl⟩ := lot_of h
  show Pl.fars _ ps did = _
  have z := Pl.fars_foldl (W := (ps.map fun q => q.1).sum) (did := did) ps 0
  rw [Rat.zero_add] at z
  exact z.symm
theorem far_step {w : Pl} {did : List (Str × Int)} (h : FarOk w did) (hl : w.isLeaf = false) {i : Nat} {q : Int × Pl} (m : w.parts[i]? = some q) {s : Rat} (e : s = (w.parts.take i).foldl (fun (a : Rat) (q : Int × Pl) => a + qd q.1 w.weights * q.2.far did) 0) :
    Two (qd q.1 w.weights) (q.2.far did) ∧ Two s (qd q.1 w.weights * q.2.far did) ∧ Bot w.weights := by
  obtain ⟨r, n, ps, rfl⟩ := lot_of hl
  have mq : q ∈ ps := List.mem_of_getElem? m
  have t := far_term h.fit h.cnt h.few mq
  have p := far_part h.fit h.cnt h.few i
  have z := Pl.fars_foldl (W := (ps.map fun q => q.1).sum) (did := did) (ps.take i) 0
  rw [Rat.zero_add] at z
  have es : s = Pl.fars ((ps.map fun q : Int × Pl => q.1).sum) (ps.take i) did := e.trans z
  refine ⟨⟨10, 200, by omega, t.1, (h.part (w := .lot r n ps) mq).lim⟩, ⟨200, 210, by omega, by rw [es]; exact p, t.2⟩, ?_⟩
  have hw := wsum_le fun q m => (fit_parts h.fit q m).1
  have hl := fit_len h.fit
  have e2 := wsum_int (ps := ps) fun q m => by have := (fit_parts h.fit q m).1; omega
  show Bot (ps.map fun q : Int × Pl => q.1).sum
  rw [e2]
  exact bot_of (k := 10) (by omega) (by omega) (by omega) (by omega)
theorem weights_eq (w : Pl) : w.weights = (w.parts.map fun q : Int × Pl => q.1).sum := rfl
end Hf

namespace Hf
open PySem PySem.Spec PyProof.Rows L2 ClX
/-! ### a course: an instance and its dict, both one's own; the dict in the slot of a name that the def doesn't have -/
structure Cs where
  plan : Pl
  did : List (Str × Int)
  shown : Rat
def rAt (d : Addr) : Rp Unit := ⟨fun _ v _ => v = .ref d, fun _ h => h⟩
abbrev cNs : List Str := ["plan", "did", "shown"]
abbrev cCr (K : PySem.W.Frag) : Addr := He.ga K "Course"
abbrev cTs (K : PySem.W.Frag) (d : Addr) (plan : Pl) (shown : Rat) : List Ty := [⟨rWk K (cW K), plan⟩, ⟨rAt d, ()⟩, ⟨rQ K, shown⟩]
abbrev oCr (K : PySem.W.Frag) (d : Addr) (plan : Pl) (shown : Rat) : Oc := oIns (cCr K) cNs (cTs K d plan shown)
/-- a course that never changes any more -/
def rCs (K : PySem.W.Frag) : Rp Cs := ⟨fun G v c => ∃ a d dx v1 v3, v = .ref a ∧ G a = some (.ins (cCr K) dx (cNs.zip [v1, .ref d, v3])) ∧ (rWk K (cW K)).rel G v1 c.plan ∧ (rDic rInt).rel G (.ref d) c.did ∧ (rQ K).rel G v3 c.shown,
  fun e ⟨a, d, dx, v1, v3, h1, h2, h3, h4, h5⟩ => ⟨a, d, dx, v1, v3, h1, e _ _ h2, (rWk K (cW K)).mono e h3, (rDic rInt).mono e h4, (rQ K).mono e h5⟩⟩
theorem inv_ghost {X : Cx} {pins : List (Addr × Obj)} {σ : L2.St} {H : Hp} {s : Shared} {g : Nat} {x : Str} {v : Option V} (I : Inv X pins σ H s) (hN : X.N[g]? = some x) (hv : ¬ Vis X.env.scope x) : Inv X pins (σ.set g v) H s := by
  obtain ⟨m, hm, h⟩ := I.loc
  refine ⟨I.ok, I.os, I.bare, I.base, ⟨m, hm, fun i y w h1 h2 h3 => ?_⟩, I.cell, I.free, I.freeC, I.pin, I.hok, by rw [List.length_set]; exact I.len⟩
  by_cases e : i = g
  · subst e
    rw [hN] at h1
    cases h1
    exact absurd h3 hv
  · rw [List.getElem?_set_ne (fun z => e z.symm)] at h2
    exact h i y w h1 h2 h3
/-- a promise with one's own dict at d beside the arguments -/
def GSp {ι α : Type} (Pre : ι → Prop) (pars : Addr → ι → List Par) (r : Rp α) (res : ι → α) (post : Addr → ι → List Oc) : Sp := fun vs H Q E => ∃ d : Addr, MSp Pre (pars d) r res (post d) (vs ++ [.ref d]) H Q E
theorem fits_last {G H : Hp} {d : Addr} {c : Oc} : ∀ {vs : List V} {ps : List Par} {as : List Addr}, Fits G H (vs ++ [.ref d]) (ps ++ [.ow c]) as → ∃ bs, as = bs ++ [d]
  | [], [], [], h => h.elim
  | [], [], a :: as, ⟨⟨h1, _⟩, h2⟩ => by
    cases h1
    cases as with
    | nil => exact ⟨[], rfl⟩
    | cons b bs => exact h2.elim
  | [], .ty t :: ps, as, h => by
    have z := Fits.length h.2
    simp at z
  | [], .ow e :: ps, [], h => h.elim
  | [], .ow e :: ps, a :: as, h => by
    have z := Fits.length h.2
    simp at z
  | v :: vs, [], as, h => by
    have z := Fits.length h
    simp at z
  | v :: vs, .ty t :: ps, as, h => fits_last (vs := vs) (ps := ps) h.2
  | v :: vs, .ow e :: ps, [], h => h.elim
  | v :: vs, .ow e :: ps, a :: as, h => by
    obtain ⟨bs, e2⟩ := fits_last (vs := vs) (ps := ps) h.2
    exact ⟨a :: bs, by rw [e2]; rfl⟩
theorem set_last (vs : List V) (v : V) (n : Nat) : (vs.map some ++ List.replicate (n + 1) none).set vs.length (some v) = (vs.map some ++ [v].map some) ++ List.replicate n none := by
  induction vs with
  | nil => rfl
  | cons a vs ih => exact congrArg (some a :: ·) ih
section
variable {P : Program} {w : World} {K : PySem.W.Frag} {mg : Str → Option Value} {base : Heap} {x qual : Str} {params : Arguments} {body : List Stmt} {scope : Scope} {dvs : List V} {kws : List (Str × V)} {f : Addr} {fd : FuncData}
theorem fn_ghost {N ps : List Str} {k : Nat} {gn : Str} {ι α : Type} {Pre : ι → Prop} {pars : Addr → ι → List Par} {own : ι → Oc} {r : Rp α} {res : ι → α} {post : Addr → ι → List Oc} (F : FunD K x qual params body scope dvs kws f fd) (S : FnScope N ps scope) (hgn : N[ps.length]? = some gn) (hnv : ¬ Vis scope gn)
    (hl : ∀ d y, (pars d y).length = ps.length) (ho : ∀ d y, nOwn (pars d y) = 1)
    (hb : ∀ (d : Addr) (y : ι), Pre y → ∀ (cdv : Value) (A : Around) (outer : List Env) (s : Shared) (H : Hp) (E0 : XK) (G : Hp) (D : Ends) (p : Addr), Room k (A.deeper (envOfC qual scope s.heap.objs.size f cdv)) →
      RetN { G := G, H := H, M := fun q => q ∈ [p, d] } D [p, d] (post d y) r (res y) → (∀ σ G' H', LeE G H (fun q => q ∈ [p, d]) G' H' → Ows G' H' [p, d] (post d y) → r.rel G' .non (res y) → D.nx σ H') →
      Bk (cxOf (CXL P w) P w K mg base N qual scope f cdv A outer s H E0) { G := G, H := H, M := fun q => q ∈ [p, d] } (slotsP (pars d y ++ [.ow (own y)]) [p, d] ++ List.replicate (N.length - (ps.length + 1)) .no) body D) :
    FnOk P w K mg base (CXL P w) (k + 1) f fd ps (GSp Pre (fun d y => pars d y ++ [.ow (own y)]) r res post) := by
  refine F.ok S (fun vs H Q E ⟨d, y, G, as, _, _, _, fi, _⟩ => by have z := fi.length; rw [List.length_append, List.length_append, hl] at z; simpa using z) fun cdv A outer s H vs Q E hr ⟨d, y, G, as, hp, e, nd, fi, hq⟩ => ⟨fun D σ' H' => WB (cxOf (CXL P w) P w K mg base N qual scope f cdv A outer s H E) body (σ'.set ps.length (some (.ref d))) H' D, ?_, ?_⟩
  · exact ⟨fun pins s σ H D I h => h.run pins s (inv_ghost I hgn hnv)⟩
  have hvl : vs.length = ps.length := by have z := fi.length; rw [List.length_append, List.length_append, hl] at z; simpa using z
  have hlt : ps.length < N.length := (List.getElem?_eq_some_iff.mp hgn).1
  obtain ⟨bs, e2⟩ := fits_last fi
  have hn := fi.nOwn
  have no : ∀ (ps : List Par) (c : Oc), nOwn (ps ++ [.ow c]) = nOwn ps + 1 := fun ps c => by
    induction ps with
    | nil => rfl
    | cons a ps ih => cases a <;> simp [nOwn, ih]
  rw [no, ho, e2, List.length_append] at hn
  match bs, hn with
  | [p], _ =>
    subst e2
    have h := holds_startP (N := N) e nd fi (by rw [List.length_append, hl]; exact hlt)
    have es : (L2.start N vs).set ps.length (some (.ref d)) = L2.start N (vs ++ [.ref d]) := by
      unfold L2.start
      have : N.length - vs.length = (N.length - (vs ++ [V.ref d]).length) + 1 := by rw [List.length_append, List.length_singleton]; omega
      rw [this, List.map_append, ← hvl]
      exact set_last vs (.ref d) _
    rw [List.length_append, hl, List.length_singleton] at h
    show WB _ body ((L2.start N vs).set ps.length (some (.ref d))) H _
    rw [es]
    exact hb d y hp cdv A outer s H E G _ p hr (fun v G' H' l o rv => hq v G' H' l o rv) (fun σ G' H' l o rv => hq _ G' H' l o rv) G H _ h
end
/-! ### tests and values that change what is one's own -/
def EvTM (X : Cx) (Γ Γ' : List Slot) (e : Expr) (b : Bool) : Prop := ∀ (E : Ent) (G H : Hp) (σ : L2.St), Holds E G H σ Γ → ∀ Q : Bool → Hp → Prop, (∀ G' H', Ex G G' → Holds E G' H' σ Γ' → Q b H') → WT X e σ H Q
section
variable {X : Cx} {E : Ent} {Γ Γ' Γ1 Γ2 : List Slot} {D : Ends} {e f g o : Expr} {es : List Expr} {rest : List Stmt} {pos p p2 apos cpos : Pos} {α β γ ι : Type} {r : Rp α} {x : α} {s : Rp β} {y : β} {as : List α} {b c : Bool} {k j : Nat} {m : Str} {pl : Sem Bool}
theorem etm_val (h : EvM X Γ Γ' e rBool b) (he : ∀ whole, isTrue e X.env whole = (do let v ← whole; standAt e.pos; holding [v] (truthy v)) := by intro _; rfl) : EvTM X Γ Γ' e b := fun E G H σ hh Q k =>
  WT.of (pt_val WE.pe he) (h E G H σ hh _ fun a G1 H1 g1 h1 r1 => ⟨b, r1, k G1 H1 g1 h1⟩)
theorem etm_not (h : EvTM X Γ Γ' e b) : EvTM X Γ Γ' (.UnaryOp .Not e pos) (!b) := fun E G H σ hh Q k => WT.of (pt_not WT.pt) (h E G H σ hh _ fun G1 H1 g1 h1 => k G1 H1 g1 h1)
theorem etm_or2 (h : EvT X Γ e false) (h2 : EvTM X Γ Γ' f b) : EvTM X Γ Γ' (.BoolOp .Or [e, f] pos) b := fun E G H σ hh Q k =>
  WT.of (PW.pt (pw_or WT.pt (pw_or1 WT.pt))) (h E G H σ hh _ fun G1 H1 l1 => by
    rw [if_neg Bool.false_ne_true]
    exact h2 E G1 H1 σ (hh.step l1) _ fun G2 H2 g2 h2 => k G2 H2 (l1.g.trans g2) h2)
theorem em_and2 (h : Ev X Γ e rBool true) (h2 : EvM X Γ Γ' f rBool b) : EvM X Γ Γ' (.BoolOp .And [e, f] pos) rBool b := fun E G H σ hh Q k =>
  WE.of (pe_and WE.pe (pe_one WE.pe)) (h E G H σ hh _ fun a G1 H1 l1 r1 => ⟨true, r1, by
    rw [if_pos rfl]
    exact h2 E G1 H1 σ (hh.step l1) Q fun v G2 H2 g2 h2 r2 => k v G2 H2 (l1.g.trans g2) h2 r2⟩)
theorem bk_ifM {cc : Expr} {A B : List Stmt} (hc : EvTM X Γ Γ' cc b) (ha : b = true → Bk X E Γ' A (thenD X rest D)) (hb : b = false → Bk X E Γ' B (thenD X rest D)) : Bk X E Γ (.If cc A B pos :: rest) D :=
  bk_of (ps_if WT.pt WB.pss WB.pss) fun G H σ hh => hc E G H σ hh _ fun G1 H1 g1 h1 => by
    cases b with
    | true =>
      rw [if_pos rfl]
      exact ha rfl G1 H1 σ h1
    | false =>
      rw [if_neg Bool.false_ne_true]
      exact hb rfl G1 H1 σ h1
/-! ### a method of a course -/
theorem args3 {G : Hp} {t1 t2 t3 : Ty} : ∀ {vs : List V}, Args G vs [t1, t2, t3] → ∃ v1 v2 v3, vs = [v1, v2, v3] ∧ t1.r.rel G v1 t1.a ∧ t2.r.rel G v2 t2.a ∧ t3.r.rel G v3 t3.a
  | [v1, v2, v3], h => ⟨v1, v2, v3, rfl, h.1, h.2.1, h.2.2.1⟩
theorem ins3 {C : Addr} {ns : List Str} {t1 t2 t3 : Ty} {G : Hp} {ob : HO} (h : (oIns C ns [t1, t2, t3]).rel G ob) : ∃ dx v1 v2 v3, ob = .ins C dx (ns.zip [v1, v2, v3]) ∧ t1.r.rel G v1 t1.a ∧ t2.r.rel G v2 t2.a ∧ t3.r.rel G v3 t3.a := by
  obtain ⟨dx, vs, e, a, _⟩ := h
  obtain ⟨v1, v2, v3, e2, a1, a2, a3⟩ := args3 a
  exact ⟨dx, v1, v2, v3, by rw [e, e2], a1, a2, a3⟩
theorem cr_lookup {K : PySem.W.Frag} {G : Hp} {d : Addr} {plan : Pl} {shown : Rat} {ob : HO} (h : (oCr K d plan shown).rel G ob) : ∃ dx v1 v3, ob = .ins (cCr K) dx (cNs.zip [v1, .ref d, v3]) ∧ (rWk K (cW K)).rel G v1 plan ∧ (rQ K).rel G v3 shown :=
  Exists.elim (ins3 h) fun dx h => Exists.elim h fun v1 h => Exists.elim h fun v2 h => Exists.elim h fun v3 h =>
    ⟨dx, v1, v3, (congrArg (fun z => HO.ins (cCr K) dx (cNs.zip [v1, z, v3])) (show v2 = .ref d from h.2.2.1)) ▸ h.1, h.2.1, h.2.2.2⟩
theorem args_fits {G H : Hp} {d : Addr} {c : Oc} {ob : HO} (g : G d = none) (h : H d = some ob) (hc : c.rel G ob) : ∀ {vs : List V} {ts : List Ty}, Args G vs ts → Fits G H (vs ++ [.ref d]) (ts.map Par.ty ++ [.ow c]) [d]
  | [], [], _ => ⟨⟨rfl, g, ob, h, hc⟩, trivial⟩
  | _ :: _, _ :: _, k => ⟨k.1, args_fits g h hc k.2⟩
/-- what a method of a course promises -/
abbrev CSp (K : PySem.W.Frag) {ι α : Type} (Pre : ι → Prop) (st : ι → Cs) (args : ι → List Ty) (r : Rp α) (res : ι → α) (st' : ι → Cs) : Sp :=
  GSp Pre (fun d y => (Par.ow (oCr K d (st y).plan (st y).shown) :: (args y).map Par.ty) ++ [.ow (oDic rInt (st y).did)]) r res (fun d y => [oCr K d (st' y).plan (st' y).shown, oDic rInt (st' y).did])
theorem cs_call {Pre : ι → Prop} {st st' : ι → Cs} {args : ι → List Ty} {res : ι → α} {y : ι} (hp : Pre y) {G0 G H : Hp} {σ : L2.St} {i g : Nat} {d a : Addr} {q : Option Addr} {vs : List V} {Q : VK} (hh : Holds E G H σ Γ) (hig : i ≠ g)
    (hi : Γ[i]? = some (.ow (oCr X.K d (st y).plan (st y).shown) q)) (hg : Γ[g]? = some (.ow (oDic rInt (st y).did) (some d))) (hs : σ[i]? = some (some (.ref a))) (av : Args G vs (args y)) (gg : Ex G0 G)
    (k : ∀ v G' H', Ex G0 G' → Holds E G' H' σ (setOws Γ [i, g] [oCr X.K d (st' y).plan (st' y).shown, oDic rInt (st' y).did]) → r.rel G' v (res y) → Q v H') : CSp X.K Pre st args r res st' (.ref a :: vs) H Q E0 := by
  obtain ⟨a', ob, h1, h2, h3, h4, h5⟩ := hh.ow hi
  rw [hs] at h1
  cases h1
  obtain ⟨d', od, k1, k2, k3, k4, k5⟩ := hh.ow hg
  have ed : d' = d := k3.1
  subst ed
  have ne : a ≠ d' := fun z => by
    subst z
    exact hig (hh.sep i g _ _ hi hg rfl rfl (by rw [hs, k1]))
  refine ⟨d', y, G, [a, d'], hp, hh.le.gh, by simp [ne], ⟨⟨rfl, h2, ob, h4, h5⟩, args_fits k2 k4 k5 av⟩, fun v G' H' l o rv => ?_⟩
  refine k v G' H' (gg.trans l.g) ?_ rv
  exact hh.call (is := [i, g]) (os := [_, _]) (ps := [a, d']) (by simp [hig]) ⟨⟨q, hi⟩, ⟨some d', hg⟩, trivial⟩ ⟨hs, k1, trivial⟩ l o
theorem em_cm0 {Pre : ι → Prop} {st st' : ι → Cs} {args : ι → List Ty} {res : ι → α} {z : α} (h : HasM X.prog X.w X.K X.mg X.base (cCr X.K) m k (CSp X.K Pre st args r res st')) (hr : Room j X.A) (hk : k ≤ j) (y : ι) (hp : Pre y) (i g : Nat) {d : Addr} {q : Option Addr} {a : Str} (hig : i ≠ g)
    (hi : Γ[i]? = some (.ow (oCr X.K d (st y).plan (st y).shown) q)) (hg : Γ[g]? = some (.ow (oDic rInt (st y).did) (some d))) (ha : args y = []) (hz : res y = z := by rfl) (hΓ : setOws Γ [i, g] [oCr X.K d (st' y).plan (st' y).shown, oDic rInt (st' y).did] = Γ' := by rfl)
    (hf : ∀ v1 v2 v3 : V, (cNs.zip [v1, v2, v3] : List (Str × V)).lookup m = none := by intro _ _ _; rfl)
    (hN : X.N[i]? = some a := by rfl) (hv : Vis X.env.scope a := by first | exact Or.inl rfl | exact Or.inr (Or.inl rfl) | exact Or.inr (Or.inr rfl)) (hd : (a == ("__debug__" : Str)) = false := by decide) (hcd : (a == ("__classdict__" : Str)) = false := by decide)
    (ht : eval (.Call (.Attribute (.Name a p) m apos) [] [] pos) X.env = (do
      let ov ← eval (.Name a p) X.env
      standAt apos.atName
      let (f, first) ← holding [ov] (getMethod ov m pl)
      callWith pos f first (backTo pos (starEach [] X.env)) (backToKw pos (keywordEach [] X.env))) := by rfl) :
    EvM X Γ Γ' (.Call (.Attribute (.Name a p) m apos) [] [] pos) r z := fun E G H σ hh Q kk =>
  we_meth0 h hr hk (WE.of (pe_var hN hv hd hcd) (by
    obtain ⟨a', ob, h1, h2, h3, h4, h5⟩ := hh.ow hi
    obtain ⟨dx, v1, v3, e, _, _⟩ := cr_lookup h5
    subst e
    exact ⟨_, h1, a', dx, _, rfl, h4, hf _ _ _, cs_call (G0 := G) hp hh hig hi hg h1 (by rw [ha]; trivial) (.refl _) (by rw [hΓ, hz]; exact kk)⟩)) ht
theorem em_cm {Pre : ι → Prop} {st st' : ι → Cs} {args : ι → List Ty} {res : ι → α} {z : α} (h : HasM X.prog X.w X.K X.mg X.base (cCr X.K) m k (CSp X.K Pre st args r res st')) (hr : Room j X.A) (hk : k ≤ j) (y : ι) (hp : Pre y) (i g : Nat) {d : Addr} {q : Option Addr} {a : Str} (hig : i ≠ g)
    (hi : Γ[i]? = some (.ow (oCr X.K d (st y).plan (st y).shown) q)) (hg : Γ[g]? = some (.ow (oDic rInt (st y).did) (some d))) (ha : EvA X Γ (e :: es) (args y)) (hz : res y = z := by rfl) (hΓ : setOws Γ [i, g] [oCr X.K d (st' y).plan (st' y).shown, oDic rInt (st' y).did] = Γ' := by rfl)
    (hf : ∀ v1 v2 v3 : V, (cNs.zip [v1, v2, v3] : List (Str × V)).lookup m = none := by intro _ _ _; rfl)
    (hN : X.N[i]? = some a := by rfl) (hv : Vis X.env.scope a := by first | exact Or.inl rfl | exact Or.inr (Or.inl rfl) | exact Or.inr (Or.inr rfl)) (hd : (a == ("__debug__" : Str)) = false := by decide) (hcd : (a == ("__classdict__" : Str)) = false := by decide)
    (hst : starEach (e :: es) X.env = (false, eval e X.env) :: starEach es X.env := by rfl) (hpl : (backTo pos (starEach es X.env)).any (·.1) = false := by rfl)
    (ht : eval (.Call (.Attribute (.Name a p) m apos) (e :: es) [] pos) X.env = (do
      let ov ← eval (.Name a p) X.env
      standAt apos.atName
      let (f, first) ← holding [ov] (getMethod ov m pl)
      callWith pos f first (backTo pos (starEach (e :: es) X.env)) (backToKw pos (keywordEach [] X.env))) := by rfl) :
    EvM X Γ Γ' (.Call (.Attribute (.Name a p) m apos) (e :: es) [] pos) r z := fun E G H σ hh Q kk =>
  we_meth h hr hk (WE.of (pe_var hN hv hd hcd) (by
    obtain ⟨a', ob, h1, h2, h3, h4, h5⟩ := hh.ow hi
    obtain ⟨dx, v1, v3, e, _, _⟩ := cr_lookup h5
    subst e
    exact ⟨_, h1, a', dx, _, rfl, h4, hf _ _ _, ha E G H σ hh _ fun vs G1 H1 l1 a1 => cs_call (G0 := G) hp (hh.step l1) hig hi hg h1 a1 l1.g (by rw [hΓ, hz]; exact kk)⟩)) hst hpl ht
end
end Hf

namespace Hf
open PySem PySem.Spec PyProof.Rows L2 ClX
/-! ### a course that is only looked at -/
theorem LeE.re {G0 H0 G1 H1 G2 H2 : Hp} {M0 M1 : Addr → Prop} (a : LeE G0 H0 M0 G1 H1) (b : LeE G1 H1 M1 G2 H2) (hm : ∀ x, M1 x → M0 x ∨ H0 x = none) : LeE G0 H0 M0 G2 H2 := by
  refine ⟨a.g.trans b.g, fun x o e => ?_, b.gh, fun x o h1 h2 => ?_, a.m⟩
  · rcases a.h x o e with ⟨n, h⟩ | ⟨n, u, h⟩
    · rcases b.h x o h with ⟨n2, h2⟩ | ⟨n2, u, h2⟩
      · exact .inl ⟨n, h2⟩
      · rcases hm x n2 with z | z
        · exact absurd z n
        · rw [e] at z; cases z
    · rcases b.h x u h with ⟨n2, h2⟩ | ⟨n2, u', h2⟩
      · exact .inr ⟨n, u, h2⟩
      · exact .inr ⟨n, u', h2⟩
  · cases e : G1 x with
    | some u => exact a.new x u e h2
    | none =>
      have z := b.new x o h1 e
      cases w : H0 x with
      | none => rfl
      | some q =>
        rcases a.h x q w with ⟨_, k⟩ | ⟨_, u, k⟩
        · rw [z] at k; cases k
        · rw [z] at k; cases k
theorem LeE.addF {G0 H0 G H : Hp} {M : Addr → Prop} {a : Addr} {o : HO} (l : LeE G0 H0 M G H) (h : H a = some o) (n : H0 a = none) (g : G a = none) : LeE G0 H0 M (upd G a o) H :=
  ⟨l.g.trans (Evl.Ex.new g), l.h, fun b u z => by
    by_cases w : b = a
    · subst w; rw [upd_same] at z; cases z; exact h
    · rw [upd_ne w] at z; exact l.gh b u z, fun b u z1 z2 => by
    by_cases w : b = a
    · subst w; exact n
    · rw [upd_ne w] at z1; exact l.new b u z1 z2, l.m⟩
theorem look_none {E : Ent} {G H : Hp} {σ : L2.St} {Γ Γ1 : List Slot} {α : Type} {r : Rp α} {x : α} {i : Nat} {v : V} {G2 : Hp} (hh : Holds E G H σ Γ) (l : Γ1.length = Γ.length) (gx : Ex G G2) (gh : Ex G2 H) (hv : σ[i]? = some (some v)) (hr : r.rel G2 v x)
    (w : ∀ (j : Nat) (s : Slot), Γ1[j]? = some s → s = .no ∨ (j = i ∧ s = .sh r x) ∨ (s.isOw = false ∧ Γ[j]? = some s)) : Holds { G := G2, H := H } G2 H σ Γ1 := by
  refine ⟨LeE.start gh, (fun a u z => by cases z), by rw [l]; exact hh.len, fun j s e => ?_, fun j1 j2 s t e1 e2 o1 o2 z => ?_⟩
  · rcases w j s e with rfl | ⟨rfl, rfl⟩ | ⟨o1, e'⟩
    · trivial
    · exact ⟨_, hv, hr⟩
    · have z := hh.ok j s e'
      cases s with
      | no => trivial
      | sh r' a' =>
        obtain ⟨v, z1, z2⟩ := z
        exact ⟨v, z1, r'.mono gx z2⟩
      | ow c' q' => cases o1
  · rcases w j1 s e1 with rfl | ⟨rfl, rfl⟩ | ⟨n1, _⟩
    · cases o1
    · cases o1
    · rw [n1] at o1; cases o1
theorem lookC_holds {K : PySem.W.Frag} {E : Ent} {G H : Hp} {σ : L2.St} {Γ : List Slot} {d : Addr} {plan : Pl} {did : List (Str × Int)} {shown : Rat} {q : Option Addr} {i g : Nat} (hh : Holds E G H σ Γ) (hig : i ≠ g) (hi : Γ[i]? = some (.ow (oCr K d plan shown) q)) (hg : Γ[g]? = some (.ow (oDic rInt did) (some d))) :
    ∃ a oa od, H a = some oa ∧ H d = some od ∧ G d = none ∧ G a = none ∧ a ≠ d ∧ Pin E a q ∧ E.M d ∧ notTup oa ∧ notTup od ∧ Holds { G := upd (upd G d od) a oa, H := H } (upd (upd G d od) a oa) H σ (lookS Γ i (.sh (rCs K) ⟨plan, did, shown⟩)) := by
  obtain ⟨a, oa, h1, h2, h3, h4, h5⟩ := hh.ow hi
  obtain ⟨d', od, k1, k2, k3, k4, k5⟩ := hh.ow hg
  have ed : d' = d := k3.1
  subst ed
  have ne : a ≠ d' := fun z => by
    subst z
    exact hig (hh.sep i g _ _ hi hg rfl rfl (by rw [h1, k1]))
  obtain ⟨dx, v1, v3, e, r1, r3⟩ := cr_lookup h5
  obtain ⟨kvs, e2, ka⟩ := k5
  have ga : (upd G d' od) a = none := by rw [upd_ne ne]; exact h2
  have x1 : Ex G (upd G d' od) := Evl.Ex.new k2
  have x2 : Ex (upd G d' od) (upd (upd G d' od) a oa) := Evl.Ex.new ga
  refine ⟨a, oa, od, h4, k4, k2, h2, ne, h3, k3.2, by rw [e]; trivial, by rw [e2]; trivial, look_none hh lookS_len (x1.trans x2) (fun b u z => ?_) h1 ?_ lookS_ok⟩
  · by_cases e : b = a
    · subst e; rw [upd_same] at z; cases z; exact h4
    · rw [upd_ne e] at z
      by_cases e : b = d'
      · subst e; rw [upd_same] at z; cases z; exact k4
      · rw [upd_ne e] at z; exact hh.le.gh b u z
  · refine ⟨a, d', dx, v1, v3, rfl, by rw [upd_same, e], (rWk K (cW K)).mono (x1.trans x2) r1, ⟨d', kvs, rfl, ?_, ka.mono (x1.trans x2)⟩, (rQ K).mono (x1.trans x2) r3⟩
    rw [upd_ne (fun w => ne w.symm), upd_same, e2]
section
variable {X : Cx} {E : Ent} {Γ Γ' Γ1 Γ2 : List Slot} {D : Ends} {e f g o : Expr} {es : List Expr} {rest : List Stmt} {pos p p2 apos cpos : Pos} {α β γ ι : Type} {r : Rp α} {x : α} {s : Rp β} {y : β} {as : List α} {k j : Nat} {m : Str} {pl : Sem Bool}
  {d : Addr} {plan : Pl} {did : List (Str × Int)} {shown : Rat} {q : Option Addr} {i n : Nat} {c : Cs}
theorem ev_lookC (i n : Nat) (hi : Γ[i]? = some (.ow (oCr X.K d plan shown) q)) (hg : Γ[n]? = some (.ow (oDic rInt did) (some d))) (hig : i ≠ n) (th : Thin s y) (he : Ev X (lookS Γ i (.sh (rCs X.K) ⟨plan, did, shown⟩)) e s y) : Ev X Γ e s y := fun E G H σ hh Q k => by
  obtain ⟨a, oa, od, h1, h2, h3, h4, h5, _, _, h6, h7, h8⟩ := lookC_holds hh hig hi hg
  refine he _ _ _ σ h8 Q fun v G' H' l' r' => ?_
  obtain ⟨l2, gp⟩ := look_le h1 (by rw [upd_ne h5]; exact h4) l'
  obtain ⟨l3, gp3⟩ := look_le h2 h3 l2
  refine k v _ H' l3 (th _ d od v h7 ?_)
  rw [cutG_upd gp3]
  refine th _ a oa v h6 ?_
  rw [cutG_upd gp]
  exact r'
theorem et_lookC (i n : Nat) {b : Bool} (hi : Γ[i]? = some (.ow (oCr X.K d plan shown) q)) (hg : Γ[n]? = some (.ow (oDic rInt did) (some d))) (hig : i ≠ n) (he : EvT X (lookS Γ i (.sh (rCs X.K) ⟨plan, did, shown⟩)) e b) : EvT X Γ e b := fun E G H σ hh Q k => by
  obtain ⟨a, oa, od, h1, h2, h3, h4, h5, _, _, h6, h7, h8⟩ := lookC_holds hh hig hi hg
  exact he _ _ _ σ h8 Q fun G' H' l' => k _ H' (look_le h2 h3 (look_le h1 (by rw [upd_ne h5]; exact h4) l').1).1
/-- the course told, and for good -/
theorem bk_retC (i n : Nat) {E0 : Ent} {a : Addr} (hi : Γ[i]? = some (.ow (oCr X.K d plan shown) (some a))) (hg : Γ[n]? = some (.ow (oDic rInt did) (some d))) (hig : i ≠ n) (l0 : LeE E0.G E0.H E0.M E.G E.H) (na : E0.H a = none) (nd : E0.H d = none) (hm : ∀ b, E.M b → b = a ∨ b = d)
    (he : Ev X (lookS Γ i (.sh (rCs X.K) ⟨plan, did, shown⟩)) e r x) (k : RetOk E0 D r x) : Bk X E Γ (.Return (some e) pos :: rest) D :=
  bk_of (ps_ret WE.pe) fun G H σ hh => by
    obtain ⟨a', oa, od, h1, h2, h3, h4, h5, h9, _, h6, h7, h8⟩ := lookC_holds hh hig hi hg
    have ea : a' = a := h9.1
    subst ea
    refine he _ _ _ σ h8 _ fun v G' H' l' r' => k v G' H' ?_ r'
    obtain ⟨l2, gp⟩ := look_le h1 (by rw [upd_ne h5]; exact h4) l'
    obtain ⟨l3, gp3⟩ := look_le h2 h3 l2
    have z : LeE E0.G E0.H E0.M (cutG (cutG G' a') d) H' := LeE.re l0 (hh.le.step l3) fun b mb => by
      rcases hm b mb with rfl | rfl
      · exact .inr na
      · exact .inr nd
    have z2 := z.addF (l3.h _ _ h2) nd (by unfold cutG; rw [if_pos rfl])
    rw [cutG_upd gp3] at z2
    have z3 := z2.addF (l2.h _ _ h1) na (by unfold cutG; rw [if_pos rfl])
    rw [cutG_upd gp] at z3
    exact z3
/-! ### its fields -/
structure CrOk (K : PySem.W.Frag) : Prop where
  cls : Cls K (cCr K)
  plan : NoAttr K (cCr K) "plan"
  did : NoAttr K (cCr K) "did"
  shown : NoAttr K (cCr K) "shown"
theorem ev_csP (ok : CrOk X.K) (h : Ev X Γ e (rCs X.K) c) (hb : attributeBase e "plan" X.env (eval e X.env) = eval e X.env := by rfl) : Ev X Γ (.Attribute e "plan" pos) (rWk X.K (cW X.K)) c.plan := fun E G H σ hh Q q =>
  WE.of (pe_fld WE.pe hb) (h E G H σ hh _ fun v G1 H1 l1 r1 => by
    obtain ⟨a, d, dx, v1, v3, e1, h1, h2, h3, h4⟩ := r1
    exact ⟨a, _, dx, _, v1, e1, l1.gh _ _ h1, ok.cls, ok.plan, rfl, q _ G1 H1 l1 h2⟩)
theorem ev_csD (ok : CrOk X.K) (h : Ev X Γ e (rCs X.K) c) (hb : attributeBase e "did" X.env (eval e X.env) = eval e X.env := by rfl) : Ev X Γ (.Attribute e "did" pos) (rDic rInt) c.did := fun E G H σ hh Q q =>
  WE.of (pe_fld WE.pe hb) (h E G H σ hh _ fun v G1 H1 l1 r1 => by
    obtain ⟨a, d, dx, v1, v3, e1, h1, h2, h3, h4⟩ := r1
    exact ⟨a, _, dx, _, V.ref d, e1, l1.gh _ _ h1, ok.cls, ok.did, rfl, q _ G1 H1 l1 h3⟩)
theorem ev_csS (ok : CrOk X.K) (h : Ev X Γ e (rCs X.K) c) (hb : attributeBase e "shown" X.env (eval e X.env) = eval e X.env := by rfl) : Ev X Γ (.Attribute e "shown" pos) (rQ X.K) c.shown := fun E G H σ hh Q q =>
  WE.of (pe_fld WE.pe hb) (h E G H σ hh _ fun v G1 H1 l1 r1 => by
    obtain ⟨a, d, dx, v1, v3, e1, h1, h2, h3, h4⟩ := r1
    exact ⟨a, _, dx, _, v3, e1, l1.gh _ _ h1, ok.cls, ok.shown, rfl, q _ G1 H1 l1 h4⟩)
theorem Ev.atB {oc : Oc} {n : Nat} (ho : Ev X Γ o (rAt d) ()) (hg : Γ[n]? = some (.ow oc (some d))) : EvB X Γ o oc := fun E G H σ hh Q q => ho E G H σ hh Q fun v G' H' l e => by
  obtain ⟨p, ob, h1, h2, h3, h4, h5⟩ := (hh.step l).ow hg
  have ep : p = d := h3.1
  subst ep
  have ev : v = .ref p := e
  subst ev
  exact q p ob G' H' l h4 h5
/-- self.did[k] = v -/
theorem bk_dputC (hr : Room j X.A) (n : Nat) {t : Str} {ds : List (Str × α)} (hg : Γ[n]? = some (.ow (oDic r ds) (some d))) (ho : Ev X Γ o (rAt d) ()) (he : Ev X Γ e r x) (hk : Ev X Γ f rStr t) (hl : ds.length < sizeLine) (kk : Bk X E (Γ.set n (.ow (oDic r (dPut ds t x)) (some d))) rest D)
    (hps : PS X (.Assign [.Subscript o f p2] e pos) (sDPut (WE X o) (WE X f) (WE X e)) := by exact ps_dput (hu_of hr) WE.pe WE.pe WE.pe rfl) : Bk X E Γ (.Assign [.Subscript o f p2] e pos :: rest) D :=
  bk_of hps fun G H σ hh => he E G H σ hh _ fun v G1 H1 l1 r1 => ho E G1 H1 σ (hh.step l1) _ fun w0 G2 H2 l2 e0 => by
    have hh1 := (hh.step l1).step l2
    obtain ⟨q, ob, h1, h2, h3, h4, kvs, h5, h6⟩ := hh1.ow hg
    subst h5
    have eq : q = d := h3.1
    subst eq
    have e0' : w0 = .ref q := e0
    subst e0'
    refine hk E G2 H2 σ hh1 _ fun w G3 H3 l3 r3 => ?_
    have e2 : w = .str t := r3
    subst e2
    refine ⟨q, _, rfl, DPut.k (k := Sum.inr t) (l3.h _ _ h4) (by rw [h6.length]; exact hl), ?_⟩
    exact kk G3 _ σ ((hh1.step l3).mut hg h1 ⟨_, rfl, (h6.mono l3.g).put (r.mono (l2.g.trans l3.g) r1)⟩)
/-- c.far() of a course that is looked at -/
theorem ev_cm {Pre : ι → Prop} {args : ι → List Ty} {res : ι → α} {z : α} (h : HasM X.prog X.w X.K X.mg X.base (cCr X.K) m k (PSp Pre args r res)) (hr : Room j X.A) (hk : k ≤ j) (y : ι) (hp : Pre y) (ho : Ev X Γ o (rCs X.K) c) (ha : args y = [⟨rCs X.K, c⟩]) (hz : res y = z := by rfl)
    (hf : ∀ v1 v2 v3 : V, (cNs.zip [v1, v2, v3] : List (Str × V)).lookup m = none := by intro _ _ _; rfl)
    (ht : eval (.Call (.Attribute o m apos) [] [] pos) X.env = (do
      let ov ← eval o X.env
      standAt apos.atName
      let (f, first) ← holding [ov] (getMethod ov m pl)
      callWith pos f first (backTo pos (starEach [] X.env)) (backToKw pos (keywordEach [] X.env))) := by rfl) : Ev X Γ (.Call (.Attribute o m apos) [] [] pos) r z := fun E G H σ hh Q q =>
  we_meth0 h hr hk (ho E G H σ hh _ fun v G1 H1 l1 r1 => by
    have r0 := r1
    obtain ⟨a, d, dx, v1, v3, e1, h1, h2, h3, h4⟩ := r1
    subst e1
    exact ⟨a, dx, _, rfl, l1.gh _ _ h1, hf _ _ _, y, G1, hp, l1.gh, by rw [ha]; exact ⟨r0, trivial⟩, fun u G3 H3 l3 r3 => q u G3 H3 (l1.trans l3) (hz ▸ r3)⟩) ht
end
end Hf

namespace Hf
open PySem PySem.Spec PyProof.Rows L2 ClX
/-! ### a new course -/
/-- what __init__ of a course promises -/
def ISp (K : PySem.W.Frag) : Sp := fun vs H Q E => ∃ (plan : Pl) (G : Hp) (a : Addr) (v : V) (dx : Addr), vs = [.ref a, v] ∧ Ex G H ∧ G a = none ∧ H a = some (.ins (cCr K) dx []) ∧ (rWk K (cW K)).rel G v plan ∧
  ∀ w G' H' d, LeE G H (fun p => p = a) G' H' → d ≠ a → H d = none → Ows G' H' [a, d] [oCr K d plan 0, oDic rInt []] → rNon.rel G' w () → Q w H'
section
variable {P : Program} {w : World} {K : PySem.W.Frag} {mg : Str → Option Value} {base : Heap} {x qual : Str} {params : Arguments} {body : List Stmt} {scope : Scope} {dvs : List V} {kws : List (Str × V)} {f : Addr} {fd : FuncData}
theorem fn_initC {N ps : List Str} {k : Nat} (F : FunD K x qual params body scope dvs kws f fd) (S : FnScope N ps scope) (h2 : ps.length = 2)
    (hb : ∀ (plan : Pl) (cdv : Value) (A : Around) (outer : List Env) (s : Shared) (H : Hp) (E0 : XK) (G : Hp) (D : Ends) (a : Addr), Room k (A.deeper (envOfC qual scope s.heap.objs.size f cdv)) →
      (∀ σ G' H' d, LeE G H (fun p => p = a) G' H' → d ≠ a → H d = none → Ows G' H' [a, d] [oCr K d plan 0, oDic rInt []] → D.nx σ H') →
      Bk (cxOf (CXL P w) P w K mg base N qual scope f cdv A outer s H E0) { G := G, H := H, M := fun p => p = a } (.ow (oIns (cCr K) [] []) (some a) :: .sh (rWk K (cW K)) plan :: List.replicate (N.length - 2) .no) body D) :
    FnOk P w K mg base (CXL P w) (k + 1) f fd ps (ISp K) := by
  refine F.ok S (fun vs H Q E ⟨plan, G, a, v, dx, e, _⟩ => by rw [e, h2]; rfl) fun cdv A outer s H vs Q E hr ⟨plan, G, a, v, dx, e, gx, g1, g2, rv, hq⟩ => ⟨_, WB.pss, ?_⟩
  subst e
  have hN : 2 ≤ N.length := by
    have z := congrArg List.length S.pre
    rw [List.length_take] at z
    omega
  have h := holds_startP (N := N) (vs := [.ref a, v]) (ps := [.ow (oIns (cCr K) [] []), .ty ⟨rWk K (cW K), plan⟩]) (as := [a]) gx (by simp) ⟨⟨rfl, g1, _, g2, dx, [], rfl, trivial, rfl⟩, rv, trivial⟩ hN
  have hM : (fun p => p ∈ [a]) = (fun p => p = a) := by funext p; simp
  rw [hM] at h
  exact hb plan cdv A outer s H E G _ a hr (fun σ G' H' d l ne n o => hq _ G' H' d l ne n o rfl) G H _ h
end
section
variable {X : Cx} {E : Ent} {Γ Γ' Γ1 Γ2 : List Slot} {D : Ends} {e f g o : Expr} {es : List Expr} {body rest : List Stmt} {pos p p2 apos cpos : Pos} {α β γ ι : Type} {r : Rp α} {x : α} {s : Rp β} {y : β} {as : List α} {k j : Nat} {m : Str} {pl : Sem Bool}
  {d : Addr} {plan : Pl} {did : List (Str × Int)} {shown : Rat} {q : Option Addr} {i n : Nat} {c : Cs}
theorem wb_ghost {σ : L2.St} {H : Hp} {v : Option V} {gn : Str} (hN : X.N[n]? = some gn) (hv : ¬ Vis X.env.scope gn) (h : WB X body (σ.set n v) H D) : WB X body σ H D := ⟨fun pins s I => h.run pins s (inv_ghost I hN hv)⟩
/-- self.f = {}: the new dict goes to the slot of a name that isn't there; self is what was handed in -/
theorem bk_fldG (i n : Nat) {a f gn : Str} {C sa : Addr} {ns : List Str} {ts : List Ty} (cl : Cls X.K C) (na : NoAttr X.K C f) (hM : ∀ b, E.M b → b = sa) (hΓ : ∀ (u : Nat) (t : Slot), Γ[u]? = some t → u ≠ i → t.isOw = false) (hg : Γ[i]? = some (.ow (oIns C ns ts) (some sa))) (hgn : X.N[n]? = some gn) (hnv : ¬ Vis X.env.scope gn) (hnl : n < Γ.length) (hin : i ≠ n) {ds : List (Str × α)} (he : EvO X Γ e (oDic r ds)) (hn : f ∉ ns) (hl : ns.length < 1000)
    (k : ∀ (E1 : Ent) (d : Addr), (∀ b, E1.M b → b = sa ∨ b = d) → LeE E.G E.H E.M E1.G E1.H → d ≠ sa → E.H d = none → Bk X E1 ((Γ.set i (.ow (oIns C (ns ++ [f]) (ts ++ [⟨rAt d, ()⟩])) (some sa))).set n (.ow (oDic r ds) (some d))) rest D)
    (hN : X.N[i]? = some a := by rfl) (hv : Vis X.env.scope a := by first | exact Or.inl rfl | exact Or.inr (Or.inl rfl) | exact Or.inr (Or.inr rfl)) (hd : (a == ("__debug__" : Str)) = false := by decide) (hcd : (a == ("__classdict__" : Str)) = false := by decide)
    (hs : swapsWith e (some (.Attribute (.Name a p) f p2)) pos.line X.env = pure false := by rfl) : Bk X E Γ (.Assign [.Attribute (.Name a p) f p2] e pos :: rest) D :=
  bk_of (ps_fld (pe_var hN hv hd hcd) WE.pe hs) fun G H σ hh => he E G H σ hh _ fun d od G1 H1 hfr l1 g1 hd1 c1 => by
    have h1 := hh.step l1
    obtain ⟨q, ob, w1, w2, w3, w4, dx, vs, w5, w6, w7⟩ := h1.ow hg
    subst w5
    have eq : q = sa := w3.1
    subst eq
    refine ⟨_, w1, q, C, dx, _, rfl, w4, cl, na, by rw [List.length_zip]; omega, ?_⟩
    have lv : ns.length = vs.length := by rw [args_length w6]; exact w7
    have ne : d ≠ q := fun z => by
      subst z
      obtain ⟨q2, ob2, z1, _, _, z4, _⟩ := hh.ow hg
      rw [w1] at z1
      cases z1
      rw [hfr] at z4
      cases z4
    refine wb_ghost (v := some (.ref d)) hgn hnv ?_
    have e0 : E.H d = none := by
      cases z : E.H d with
      | none => rfl
      | some u =>
        rcases hh.le.h d u z with ⟨_, w⟩ | ⟨_, u', w⟩
        · rw [hfr] at w; cases w
        · rw [hfr] at w; cases w
    have hm := h1.mut hg w1 (c' := oIns C (ns ++ [f]) (ts ++ [⟨rAt d, ()⟩])) (o' := HO.ins C dx (putF f (.ref d) (ns.zip vs))) ⟨dx, vs ++ [.ref d], by rw [putF_new hn lv], args_app (t := ⟨rAt d, ()⟩) rfl w6, by simp [w7]⟩
    have ge : Ex G1 (upd H1 q (HO.ins C dx (putF f (.ref d) (ns.zip vs)))) := hm.le.gh
    refine k { G := G1, H := upd H1 q (HO.ins C dx (putF f (.ref d) (ns.zip vs))), M := fun b => b = q ∨ b = d } d (fun b z => z) hm.le ne e0 G1 _ _ ⟨⟨.refl _, fun b u z => ?_, ge, fun b u z1 z2 => absurd (z1.symm.trans z2) (by simp), fun b z => ?_⟩, (fun b u z => by cases z), ?_, fun u t z => ?_, fun u1 u2 t1 t2 z1 z2 o1 o2 z => ?_⟩
    · by_cases z2 : b = q ∨ b = d
      · exact .inr ⟨z2, u, z⟩
      · exact .inl ⟨z2, z⟩
    · rcases z with rfl | rfl
      · exact ⟨w2, _, upd_same⟩
      · exact ⟨g1, od, (upd_ne ne).trans hd1⟩
    · simp only [List.length_set]; exact hh.len
    · rcases get_set z with ⟨rfl, rfl⟩ | ⟨zn, z⟩
      · refine ⟨d, od, ?_, g1, ⟨rfl, .inr rfl⟩, (upd_ne ne).trans hd1, c1⟩
        rw [List.getElem?_set_self (by rw [hh.len]; exact hnl)]
      · rw [List.getElem?_set_ne zn]
        rcases get_set z with ⟨rfl, rfl⟩ | ⟨zi, z3⟩
        · exact ⟨q, _, w1, w2, ⟨rfl, .inl rfl⟩, upd_same, ⟨dx, vs ++ [.ref d], by rw [putF_new hn lv], args_app (t := ⟨rAt d, ()⟩) rfl w6, by simp [w7]⟩⟩
        · have zo := hΓ u t z3 (fun z => zi z.symm)
          have y := h1.ok u t z3
          cases t with
          | no => trivial
          | sh r' a' => exact y
          | ow c' q' => cases zo
    · have key : ∀ (u : Nat) (t : Slot), ((Γ.set i (.ow (oIns C (ns ++ [f]) (ts ++ [⟨rAt d, ()⟩])) (some q))).set n (.ow (oDic r ds) (some d)))[u]? = some t → t.isOw = true → u = n ∨ u = i := fun u t z o => by
        rcases get_set z with ⟨rfl, _⟩ | ⟨_, z⟩
        · exact .inl rfl
        · rcases get_set z with ⟨rfl, _⟩ | ⟨zi, z⟩
          · exact .inr rfl
          · rw [hΓ u t z (fun z => zi z.symm)] at o; cases o
      have sn : (σ.set n (some (V.ref d)))[n]? = some (some (.ref d)) := List.getElem?_set_self (by rw [hh.len]; exact hnl)
      have si : (σ.set n (some (V.ref d)))[i]? = some (some (.ref q)) := by rw [List.getElem?_set_ne (fun z => hin z.symm)]; exact w1
      rcases key u1 t1 z1 o1 with rfl | rfl <;> rcases key u2 t2 z2 o2 with rfl | rfl
      · rfl
      · rw [sn, si] at z; cases z; exact absurd rfl ne
      · rw [sn, si] at z; cases z; exact absurd rfl ne
      · rfl
/-- c = Course(plan) -/
theorem bk_course (i n : Nat) {a fn gn : Str} {pr : Pos} (h : HasI X.prog X.w X.K X.mg X.base fn (cCr X.K) k (ISp X.K)) (hr : Room j X.A) (hk : k + 1 ≤ j) (nd : X.N.Nodup) (hΓ : ∀ (u : Nat) (t : Slot), Γ[u]? = some t → t.isOw = false) (hm : ∀ b, ¬ E.M b) (hgn : X.N[n]? = some gn) (hnv : ¬ Vis X.env.scope gn) (hnl : n < Γ.length) (hil : i < Γ.length) (hin : i ≠ n)
    (ha : EvA X Γ [e] [⟨rWk X.K (cW X.K), plan⟩])
    (kk : ∀ (E1 : Ent) (a d : Addr), (∀ b, E1.M b → b = a ∨ b = d) → LeE E.G E.H E.M E1.G E1.H → E.H a = none → E.H d = none → Bk X E1 ((Γ.set i (.ow (oCr X.K d plan 0) (some a))).set n (.ow (oDic rInt []) (some d))) rest D)
    (hi : X.N[i]? = some a := by rfl) (hx : Loc X.env.scope a := by first | exact Or.inl rfl | exact Or.inr rfl)
    (hs : swapsWith (.Call (.Name fn p) [e] [] pos) (some (.Name a pr)) p2.line X.env = pure false := by rfl) (hf : X.fn a = true ∨ X.env.scope.names.lookup a = some .local := by first | exact .inl rfl | exact .inr rfl)
    (hg : Gl X fn := by rfl) (hdb : (fn == ("__debug__" : Str)) = false := by decide)
    (he : starEach (e :: []) X.env = (false, eval e X.env) :: starEach [] X.env := by rfl) (hpl : (backTo pos (starEach [] X.env)).any (·.1) = false := by rfl) : Bk X E Γ (.Assign [.Name a pr] (.Call (.Name fn p) [e] [] pos) p2 :: rest) D :=
  bk_of (ps_set nd hi hx WE.pe hs hf) fun G H σ hh => by
    obtain ⟨f0, fd, ps0, spF, dvs, ds, hmg, mk, hb, hd, F, hin2⟩ := h.ex
    refine WE.of (pe_make mk F (hr.mono hk) hg hmg hb hd passL WA.pa hdb he hpl) ?_
    refine ha E G H σ hh _ fun vs G1 H1 l1 a1 a0 dx na nx ne => hin2 (.ref a0 :: vs) _ _ ?_
    obtain ⟨v, rfl, rv⟩ : ∃ v, vs = [v] ∧ (rWk X.K (cW X.K)).rel G1 v plan := by
      match vs, a1 with
      | [v], a1 => exact ⟨v, rfl, a1.1⟩
    have hh1 := hh.step l1
    have g1a : G1 a0 = none := Evl.fresh_back l1.gh na
    have l2 : Le G1 H1 G1 (upd (upd H1 dx (.own a0)) a0 (.ins (cCr X.K) dx [])) := by
      have z1 : Le G1 H1 G1 (upd H1 dx (.own a0)) := (Le.refl l1.gh).addO nx
      exact z1.addO (by rw [upd_ne (fun w => ne w.symm)]; exact na)
    have hh2 := hh1.step l2
    refine ⟨plan, G1, a0, v, dx, rfl, l2.gh, g1a, upd_same, rv, fun w0 G3 H3 d l3 dn hdn ow rw0 => ⟨rw0, ?_⟩⟩
    obtain ⟨⟨ga, oa, ha3, ca⟩, ⟨gd, od, hd3, cd⟩, _⟩ := ow
    have ea : E.H a0 = none := hh1.le.fresh na
    have ed : E.H d = none := hh2.le.fresh hdn
    have le3 : LeE E.G E.H E.M G3 H3 := LeE.re hh2.le l3 fun b z => by subst z; exact .inr ea
    refine wb_ghost (v := some (.ref d)) hgn hnv ?_
    have sn : ((σ.set i (some (V.ref a0))).set n (some (V.ref d)))[n]? = some (some (.ref d)) := List.getElem?_set_self (by rw [List.length_set, hh.len]; exact hnl)
    have si : ((σ.set i (some (V.ref a0))).set n (some (V.ref d)))[i]? = some (some (.ref a0)) := by rw [List.getElem?_set_ne (fun z => hin z.symm), List.getElem?_set_self (by rw [hh.len]; exact hil)]
    refine kk { G := G3, H := H3, M := fun b => b = a0 ∨ b = d } a0 d (fun b z => z) le3 ea ed G3 H3 _ ⟨⟨.refl _, fun b u z => ?_, le3.gh, fun b u z1 z2 => absurd (z1.symm.trans z2) (by simp), fun b z => ?_⟩, (fun b u z => by cases z), ?_, fun u t z => ?_, fun u1 u2 t1 t2 z1 z2 o1 o2 z => ?_⟩
    · by_cases z2 : b = a0 ∨ b = d
      · exact .inr ⟨z2, u, z⟩
      · exact .inl ⟨z2, z⟩
    · rcases z with rfl | rfl
      · exact ⟨ga, oa, ha3⟩
      · exact ⟨gd, od, hd3⟩
    · simp only [List.length_set]; exact hh.len
    · rcases get_set z with ⟨rfl, rfl⟩ | ⟨zn, z⟩
      · exact ⟨d, od, sn, gd, ⟨rfl, .inr rfl⟩, hd3, cd⟩
      · rcases get_set z with ⟨rfl, rfl⟩ | ⟨zi, z3⟩
        · exact ⟨a0, oa, si, ga, ⟨rfl, .inl rfl⟩, ha3, ca⟩
        · rw [List.getElem?_set_ne zn, List.getElem?_set_ne zi]
          have zo := hΓ u t z3
          have y := hh1.ok u t z3
          cases t with
          | no => trivial
          | sh r' a' =>
            obtain ⟨v', y1, y2⟩ := y
            exact ⟨v', y1, r'.mono l3.g y2⟩
          | ow c' q' => cases zo
    · have key : ∀ (u : Nat) (t : Slot), ((Γ.set i (.ow (oCr X.K d plan 0) (some a0))).set n (.ow (oDic rInt []) (some d)))[u]? = some t → t.isOw = true → u = n ∨ u = i := fun u t z o => by
        rcases get_set z with ⟨rfl, _⟩ | ⟨_, z⟩
        · exact .inl rfl
        · rcases get_set z with ⟨rfl, _⟩ | ⟨zi, z⟩
          · exact .inr rfl
          · rw [hΓ u t z] at o; cases o
      rcases key u1 t1 z1 o1 with rfl | rfl <;> rcases key u2 t2 z2 o2 with rfl | rfl
      · rfl
      · rw [sn, si] at z; cases z; exact absurd rfl dn
      · rw [sn, si] at z; cases z; exact absurd rfl dn
      · rfl
end
end Hf

namespace Hf
open PySem PySem.Spec PyProof.Rows L2 ClX
/-! ### what a telling does: in plain words -/
structure TelOk (t : Tel) : Prop where
  name : isNameB t.name = true ∧ t.name.length ≤ 1000
  num : t.isAgain = false → isNum t.num 1 (if t.isFound = true then 100 else 1000) = true
  leaf : t.isFound = true → (isNameB t.leaf = true ∧ t.leaf.length ≤ 1000) ∧ StOk t.last
/-- a plan, and what its leaves did -/
structure CsOk (p : Pl) (d : List (Str × Int)) : Prop where
  plan : PlanOk p
  cnt : CntOk d p
  pos : ∀ n, 0 ≤ dg d n
  sub : ∀ n, n ∉ p.names → dGet d n = none
def zeroed (d : List (Str × Int)) (ls : List Pl) : List (Str × Int) := ls.foldl (fun (d : List (Str × Int)) (l : Pl) => dPut d l.name 0) d
/-- a telling that can be -/
inductive Took (p : Pl) (d : List (Str × Int)) : Tel → Pl → List (Str × Int) → Prop
  | again {n : Str} {w : Pl} (h : p.find n = some w) : Took p d (.again n) p (zeroed d w.leaves)
  | found {n ln : Str} {wt : Int} {st : Option Int} {w : Pl} (h : p.find n = some w) (hl : w.isLeaf = false) (ok : PlanOk (Pl.withLeaf n wt (.leaf ln st) p)) : Took p d (.found n wt ln st) (Pl.withLeaf n wt (.leaf ln st) p) d
  | knows {n : Str} {k : Int} {w : Pl} (h : p.find n = some w) (hl : w.isLeaf = true) (hs : w.steps = none) (hk : dg d n ≤ k) : Took p d (.knows n k) (Pl.withSteps n k p) d
  | did {n : Str} {k : Int} {w : Pl} (h : p.find n = some w) (hl : w.isLeaf = true) (hs : ∀ s, w.steps = some s → dg d n + k ≤ s) : Took p d (.did n k) p (dPut d n (dg d n + k))
theorem dGet_put {α : Type} {a : α} {k n : Str} : ∀ {ds : List (Str × α)}, dGet (dPut ds k a) n = if k = n then some a else dGet ds n := fun {ds} => by
  have hm : ∀ l : List (Str × α), (l.any fun q => decide (q.1 = k)) = true → dGet (l.map fun q => if q.1 = k then (q.1, a) else q) n = if k = n then some a else dGet l n := fun l => by
    induction l with
    | nil => intro h; simp at h
    | cons q l ih =>
      intro h
      by_cases e : q.1 = k
      · by_cases e2 : k = n
        · rw [if_pos e2, List.map_cons, if_pos e, dGet_pos (by rw [← e2]; exact e)]
        · rw [if_neg e2, List.map_cons, if_pos e, dGet_neg (by rw [e]; exact e2), dGet_neg (by rw [e]; exact e2)]
          have : ∀ l : List (Str × α), dGet (l.map fun q => if q.1 = k then (q.1, a) else q) n = dGet l n := fun l => by
            induction l with
            | nil => rfl
            | cons x l ih =>
              by_cases z : x.1 = k
              · rw [List.map_cons, if_pos z, dGet_neg (by rw [z]; exact e2), dGet_neg (by rw [z]; exact e2)]; exact ih
              · rw [List.map_cons, if_neg z]
                by_cases z2 : x.1 = n
                · rw [dGet_pos z2, dGet_pos z2]
                · rw [dGet_neg z2, dGet_neg z2]; exact ih
          exact this l
      · have h' : (l.any fun q => decide (q.1 = k)) = true := by
          rw [List.any_cons, decide_eq_false e, Bool.false_or] at h
          exact h
        rw [List.map_cons, if_neg e]
        by_cases z2 : q.1 = n
        · rw [dGet_pos z2, dGet_pos z2, if_neg (by rw [← z2]; exact fun z => e z.symm)]
        · rw [dGet_neg z2, dGet_neg z2]; exact ih h'
  have hs : ∀ l : List (Str × α), (l.any fun q => decide (q.1 = k)) = false → dGet (l ++ [(k, a)]) n = if k = n then some a else dGet l n := fun l => by
    induction l with
    | nil =>
      intro _
      by_cases e : k = n
      · rw [if_pos e]; exact dGet_pos e
      · rw [if_neg e]; exact dGet_neg e
    | cons q l ih =>
      intro h
      rw [List.any_cons, Bool.or_eq_false_iff] at h
      have e : ¬ q.1 = k := of_decide_eq_false h.1
      rw [List.cons_append]
      by_cases z2 : q.1 = n
      · rw [dGet_pos z2, dGet_pos z2, if_neg (by rw [← z2]; exact fun z => e z.symm)]
      · rw [dGet_neg z2, dGet_neg z2]; exact ih h.2
  unfold dPut
  split
  · rename_i h; exact hm ds h
  · rename_i h; exact hs ds ((Bool.not_eq_true _).mp h)
theorem dPut_len {α : Type} {a : α} {k : Str} {ds : List (Str × α)} : (dPut ds k a).length ≤ ds.length + 1 := by
  unfold dPut
  split <;> simp
theorem zeroed_len : ∀ (ls : List Pl) (d : List (Str × Int)), (zeroed d ls).length ≤ d.length + ls.length
  | [], d => by simp [zeroed]
  | l :: ls, d => by
    have z := zeroed_len ls (dPut d l.name 0)
    have := dPut_len (a := (0 : Int)) (k := l.name) (ds := d)
    show (zeroed (dPut d l.name 0) ls).length ≤ _
    rw [List.length_cons]
    omega
theorem Took.len {p p' : Pl} {d d' : List (Str × Int)} {t : Tel} (h : Took p d t p' d') (hc : PlanOk p) (hf : ∀ n w, p.find n = some w → w ∈ p.all) : d'.length ≤ d.length + 20 := by
  cases h with
  | again h =>
    rename_i n w
    have z := zeroed_len w.leaves d
    have z2 := leaves_len w
    have z3 : w.names.length ≤ p.names.length := by
      have := hf n w h
      have k : ∀ (m : Nat) (p : Pl), p.depth ≤ m → ∀ z ∈ p.all, z.names.length ≤ p.names.length := fun m => by
        induction m with
        | zero => intro p h; have := Pl.depth_pos p; omega
        | succ m ih =>
          intro p hd z hz
          rw [Pl.all_eq, Pl.alls_eq] at hz
          rcases List.mem_cons.mp hz with rfl | hz
          · exact Nat.le_refl _
          · obtain ⟨q, hq, hz⟩ := List.mem_flatMap.mp hz
            exact Nat.le_trans (ih q.2 (by have := Pl.part_depth hq; omega) z hz) (names_sub hq).length_le
      exact k p.depth p (Nat.le_refl _) w this
    have := hc.count
    omega
  | found => omega
  | knows => omega
  | did => have := dPut_len (a := dg d (by assumption) + (by assumption)) (k := by assumption) (ds := d); omega
theorem find_mem : ∀ (p : Pl) {n : Str} {w : Pl}, p.find n = some w → w ∈ p.all ∧ w.name = n := fun p => by
  have key : ∀ (m : Nat) (p : Pl), p.depth ≤ m → ∀ {n : Str} {w : Pl}, p.find n = some w → w ∈ p.all ∧ w.name = n := fun m => by
    induction m with
    | zero => intro p h; have := Pl.depth_pos p; omega
    | succ m ih =>
      intro p hd n w h
      rw [find_eq] at h
      by_cases e : decide (p.name = n) = true
      · rw [if_pos e] at h
        cases h
        exact ⟨by rw [Pl.all_eq]; exact List.mem_cons_self, of_decide_eq_true e⟩
      · rw [if_neg e] at h
        have hs : ∀ (ps : List (Int × Pl)), (∀ q ∈ ps, q.2.depth ≤ m) → Pl.finds ps n = some w → (∃ q ∈ ps, w ∈ q.2.all) ∧ w.name = n := fun ps => by
          induction ps with
          | nil => intro _ h; simp [Pl.finds] at h
          | cons q ps ihp =>
            intro hq h
            obtain ⟨i, x⟩ := q
            simp only [Pl.finds] at h
            cases z : x.find n with
            | some y =>
              rw [z] at h
              cases h
              have k := ih x (hq (i, x) List.mem_cons_self) z
              exact ⟨⟨(i, x), List.mem_cons_self, k.1⟩, k.2⟩
            | none =>
              rw [z] at h
              obtain ⟨⟨q, hm, k⟩, k2⟩ := ihp (fun q hm => hq q (List.mem_cons_of_mem _ hm)) h
              exact ⟨⟨q, List.mem_cons_of_mem _ hm, k⟩, k2⟩
        obtain ⟨⟨q, hm, k⟩, k2⟩ := hs p.parts (fun q hm => by have := Pl.part_depth hm; omega) h
        refine ⟨?_, k2⟩
        rw [Pl.all_eq, Pl.alls_eq]
        exact List.mem_cons_of_mem _ (List.mem_flatMap.mpr ⟨q, hm, k⟩)
  intro n w h
  exact key p.depth p (Nat.le_refl _) h
theorem map_inj {α β : Type} {f : α → β} : ∀ {l : List α}, (l.map f).Nodup → ∀ {a b : α}, a ∈ l → b ∈ l → f a = f b → a = b
  | [], _, a, _, h, _, _ => by simp at h
  | x :: l, nd, a, b, h1, h2, e => by
    rw [List.map_cons, List.nodup_cons] at nd
    rcases List.mem_cons.mp h1 with k1 | k1
    · rcases List.mem_cons.mp h2 with k2 | k2
      · rw [k1, k2]
      · rw [k1] at e
        exact absurd (List.mem_map.mpr ⟨b, k2, e.symm⟩) nd.1
    · rcases List.mem_cons.mp h2 with k2 | k2
      · rw [k2] at e
        exact absurd (List.mem_map.mpr ⟨a, k1, e⟩) nd.1
      · exact map_inj nd.2 k1 k2 e
theorem all_uniq {p a b : Pl} (nd : p.names.Nodup) (ha : a ∈ p.all) (hb : b ∈ p.all) (e : a.name = b.name) : a = b := map_inj (by rw [all_names]; exact nd) ha hb e
theorem mem_names {p w : Pl} (h : w ∈ p.all) : w.name ∈ p.names := by rw [← all_names]; exact List.mem_map.mpr ⟨w, h, rfl⟩
end Hf

namespace Hf
open PySem PySem.Spec PyProof.Rows L2 ClX
/-! ### a leaf more: names; steps known: names, depth -/
namespace Pl
def isL (x : Str) (z : Pl) : Bool := !z.isLeaf && decide (z.name = x)
def kL (x : Str) (l : List Pl) : Nat := (l.filter (isL x)).length
theorem kL_app {x : Str} {a b : List Pl} : kL x (a ++ b) = kL x a + kL x b := by simp [kL]
theorem namess_app : ∀ {a b : List (Int × Pl)}, namess (a ++ b) = namess a ++ namess b
  | [], b => by simp [namess]
  | (i, w) :: a, b => by simp [namess, namess_app (a := a)]
theorem alls_app : ∀ {a b : List (Int × Pl)}, alls (a ++ b) = alls a ++ alls b
  | [], b => by simp [alls]
  | (i, w) :: a, b => by simp [alls, alls_app (a := a)]
section
variable {x : Str} {wt : Int} {ln : Str} {st : Option Int} {k : Int}
mutual
theorem wl_cnt : ∀ (p : Pl) (n : Str), (withLeaf x wt (.leaf ln st) p).names.count n = p.names.count n + (if ln = n then kL x p.all else 0)
  | .leaf a s, n => by
    have e : kL x [Pl.leaf a s] = 0 := by simp [kL, isL, isLeaf]
    simp only [withLeaf, all, e]
    split <;> rfl
  | .lot r a ps, n => by
    have ih := wl_cnts ps n
    have e : kL x (Pl.lot r a ps :: alls ps) = (if decide (a = x) = true then 1 else 0) + kL x (alls ps) := by
      have e0 : isL x (Pl.lot r a ps) = decide (a = x) := by
        simp only [isL, isLeaf, name, Bool.not_false, Bool.true_and]
        exact decide_eq_decide.mpr Iff.rfl
      show (List.filter (isL x) (Pl.lot r a ps :: alls ps)).length = _ + (List.filter (isL x) (alls ps)).length
      rw [List.filter_cons, e0]
      by_cases h : decide (a = x) = true
      · rw [if_pos h, if_pos h, List.length_cons]; omega
      · rw [if_neg h, if_neg h]; omega
    simp only [withLeaf, names, all, e]
    by_cases h : decide (a = x) = true
    · rw [if_pos h, if_pos h, namess_app, List.count_cons, List.count_append, ih, List.count_cons]
      have z : (namess [(wt, Pl.leaf ln st)]).count n = if ln = n then 1 else 0 := by
        simp only [namess, names, List.append_nil, List.count_cons, List.count_nil, Nat.zero_add, beq_iff_eq]
      rw [z]
      split <;> split <;> omega
    · rw [if_neg h, if_neg h, List.count_cons, ih, List.count_cons]
      split <;> split <;> omega
theorem wl_cnts : ∀ (ps : List (Int × Pl)) (n : Str), (namess (withLeafs x wt (.leaf ln st) ps)).count n = (namess ps).count n + (if ln = n then kL x (alls ps) else 0)
  | [], n => by simp [withLeafs, namess, alls, kL]
  | (i, w) :: ps, n => by
    have h1 := wl_cnt w n
    have h2 := wl_cnts ps n
    simp only [withLeafs, namess, alls, List.count_append, kL_app, h1, h2]
    split <;> omega
end
mutual
theorem wl_all : ∀ (p z : Pl), z ∈ (withLeaf x wt (.leaf ln st) p).all → z.isLeaf = true → z ∈ p.all ∨ z = .leaf ln st
  | .leaf a s, z, h, hl => .inl (by simpa [withLeaf] using h)
  | .lot r a ps, z, h, hl => by
    simp only [withLeaf, all, List.mem_cons] at h
    rcases h with rfl | h
    · simp [isLeaf] at hl
    · have key : z ∈ alls (withLeafs x wt (.leaf ln st) ps) ∨ z = .leaf ln st := by
        split at h
        · rw [alls_app, List.mem_append] at h
          rcases h with h | h
          · exact .inl h
          · exact .inr (by simpa [alls, all] using h)
        · exact .inl h
      rcases key with h | h
      · rcases wl_alls ps z h hl with h | h
        · exact .inl (by simp only [all, List.mem_cons]; exact .inr h)
        · exact .inr h
      · exact .inr h
theorem wl_alls : ∀ (ps : List (Int × Pl)) (z : Pl), z ∈ alls (withLeafs x wt (.leaf ln st) ps) → z.isLeaf = true → z ∈ alls ps ∨ z = .leaf ln st
  | [], z, h, _ => .inl (by simpa [withLeafs] using h)
  | (i, w) :: ps, z, h, hl => by
    simp only [withLeafs, alls, List.mem_append] at h ⊢
    rcases h with h | h
    · rcases wl_all w z h hl with h | h
      · exact .inl (.inl h)
      · exact .inr h
    · rcases wl_alls ps z h hl with h | h
      · exact .inl (.inr h)
      · exact .inr h
end
mutual
theorem ws_names : ∀ (p : Pl), (withSteps x k p).names = p.names
  | .leaf a s => by
    simp only [withSteps]
    split
    · rename_i h; simp only [names, of_decide_eq_true h]
    · rfl
  | .lot r a ps => by simp only [withSteps, names, ws_namess ps]
theorem ws_namess : ∀ (ps : List (Int × Pl)), namess (withStepss x k ps) = namess ps
  | [] => by simp [withStepss]
  | (i, w) :: ps => by simp only [withStepss, namess, ws_names w, ws_namess ps]
end
mutual
theorem ws_depth : ∀ (p : Pl), (withSteps x k p).depth = p.depth
  | .leaf a s => by
    simp only [withSteps]
    split <;> simp only [depth]
  | .lot r a ps => by simp only [withSteps, depth, ws_depths ps]
theorem ws_depths : ∀ (ps : List (Int × Pl)), depths (withStepss x k ps) = depths ps
  | [] => by simp [withStepss]
  | (i, w) :: ps => by simp only [withStepss, depths, ws_depth w, ws_depths ps]
end
mutual
theorem ws_all : ∀ (p : Pl) {n : Str} {m : Int}, Pl.leaf n (some m) ∈ (withSteps x k p).all → (n = x ∧ m = k) ∨ Pl.leaf n (some m) ∈ p.all
  | .leaf a s, n, m, h => by
    simp only [withSteps] at h
    split at h
    · simp only [all, List.mem_singleton, Pl.leaf.injEq, Option.some.injEq] at h
      exact .inl h
    · exact .inr h
  | .lot r a ps, n, m, h => by
    simp only [withSteps, all, List.mem_cons, reduceCtorEq, false_or] at h
    rcases ws_alls ps h with h | h
    · exact .inl h
    · exact .inr (by simp only [all, List.mem_cons]; exact .inr h)
theorem ws_alls : ∀ (ps : List (Int × Pl)) {n : Str} {m : Int}, Pl.leaf n (some m) ∈ alls (withStepss x k ps) → (n = x ∧ m = k) ∨ Pl.leaf n (some m) ∈ alls ps
  | [], n, m, h => .inr (by simpa [withStepss] using h)
  | (i, w) :: ps, n, m, h => by
    simp only [withStepss, alls, List.mem_append] at h ⊢
    rcases h with h | h
    · rcases ws_all w h with h | h
      · exact .inl h
      · exact .inr (.inl h)
    · rcases ws_alls ps h with h | h
      · exact .inl h
      · exact .inr (.inr h)
end
mutual
theorem ws_fit (hk : StOk (some k)) : ∀ (p : Pl), p.Fit → (withSteps x k p).Fit
  | .leaf a s, h => by
    simp only [withSteps]
    split
    · exact hk
    · exact h
  | .lot r a ps, h => by
    simp only [withSteps]
    refine ⟨?_, ws_fits hk ps h.2⟩
    have e := h.1
    unfold arePartsB at e ⊢
    rw [withStepss_map, List.length_map, List.all_map]
    exact e
theorem ws_fits (hk : StOk (some k)) : ∀ (ps : List (Int × Pl)), Pl.Fits ps → Pl.Fits (withStepss x k ps)
  | [], h => by simp [withStepss, Fits]
  | (i, w) :: ps, h => by
    simp only [withStepss]
    exact ⟨ws_fit hk w h.1, ws_fits hk ps h.2⟩
end
end
end Pl
theorem ws_ok {p : Pl} {x : Str} {k : Int} (h : PlanOk p) (hk : StOk (some k)) : PlanOk (Pl.withSteps x k p) := ⟨Pl.ws_fit hk p h.fit, by rw [Pl.ws_names]; exact h.names, by rw [Pl.ws_names]; exact h.nodup, by rw [Pl.ws_names]; exact h.count, by rw [Pl.ws_depth]; exact h.deep⟩
theorem dg_put {d : List (Str × Int)} {k n : Str} {a : Int} : dg (dPut d k a) n = if k = n then a else dg d n := by
  unfold dg
  rw [dGet_put]
  split <;> rfl
theorem zeroed_get : ∀ (ls : List Pl) (d : List (Str × Int)) (n : Str), dGet (zeroed d ls) n = if n ∈ ls.map Pl.name then some 0 else dGet d n
  | [], d, n => by simp [zeroed]
  | l :: ls, d, n => by
    have z := zeroed_get ls (dPut d l.name 0) n
    show dGet (zeroed (dPut d l.name 0) ls) n = _
    rw [z, List.map_cons]
    by_cases h : n ∈ ls.map Pl.name
    · rw [if_pos h, if_pos (List.mem_cons_of_mem _ h)]
    · rw [if_neg h, dGet_put]
      by_cases e : l.name = n
      · rw [if_pos e, if_pos (by rw [e]; exact List.mem_cons_self)]
      · rw [if_neg e, if_neg (by simp only [List.mem_cons, not_or]; exact ⟨fun z => e z.symm, h⟩)]
theorem leaf_find {p w : Pl} {n m : Str} {s : Option Int} (hp : p.names.Nodup) (h : p.find n = some w) (hm : Pl.leaf n s ∈ p.all) : w = .leaf n s := by
  obtain ⟨k1, k2⟩ := find_mem p h
  exact all_uniq hp k1 hm k2
theorem Took.ok {p p' : Pl} {d d' : List (Str × Int)} {t : Tel} (c : CsOk p d) (to : TelOk t) (h : Took p d t p' d') : CsOk p' d' := by
  cases h with
  | again h =>
    rename_i n w
    obtain ⟨k1, k2⟩ := find_mem p h
    have kn : ∀ l ∈ w.leaves, l.name ∈ p.names := fun l hl => by
      have h1 := (leaves_sub w).subset hl
      have k : ∀ (m : Nat) (p : Pl), p.depth ≤ m → ∀ z ∈ p.all, ∀ y ∈ z.all, y ∈ p.all := fun m => by
        induction m with
        | zero => intro p h; have := Pl.depth_pos p; omega
        | succ m ih =>
          intro p hd z hz y hy
          rw [Pl.all_eq, Pl.alls_eq] at hz
          rcases List.mem_cons.mp hz with rfl | hz
          · exact hy
          · obtain ⟨q, hq, hz⟩ := List.mem_flatMap.mp hz
            rw [Pl.all_eq, Pl.alls_eq]
            exact List.mem_cons_of_mem _ (List.mem_flatMap.mpr ⟨q, hq, ih q.2 (by have := Pl.part_depth hq; omega) z hz y hy⟩)
      exact mem_names (k p.depth p (Nat.le_refl _) w k1 l h1)
    have hd : ∀ x, dg (zeroed d w.leaves) x = if x ∈ w.leaves.map Pl.name then 0 else dg d x := fun x => by
      unfold dg
      rw [zeroed_get]
      split <;> rfl
    refine ⟨c.plan, fun x m hx => ?_, fun x => ?_, fun x hx => ?_⟩
    · rw [hd]
      have z := c.cnt x m hx
      split
      · omega
      · exact z
    · rw [hd]
      have := c.pos x
      split
      · omega
      · exact this
    · rw [zeroed_get, if_neg (fun z => by
        obtain ⟨l, h1, h2⟩ := List.mem_map.mp z
        exact hx (h2 ▸ kn l h1))]
      exact c.sub x hx
  | found h hl ok =>
    rename_i n ln wt st w
    obtain ⟨k1, k2⟩ := find_mem p h
    have kp : 1 ≤ Pl.kL n p.all := by
      have : w ∈ p.all.filter (Pl.isL n) := List.mem_filter.mpr ⟨k1, by simp [Pl.isL, hl, k2]⟩
      exact List.length_pos_of_mem this
    have hln : ln ∉ p.names := fun z => by
      have e := Pl.wl_cnt (x := n) (wt := wt) (ln := ln) (st := st) p ln
      rw [if_pos rfl] at e
      have z1 : 1 ≤ p.names.count ln := List.count_pos_iff.mpr z
      have z2 := List.nodup_iff_count.mp ok.nodup ln
      omega
    refine ⟨ok, fun x m hx => ?_, c.pos, fun x hx => c.sub x fun z => hx ?_⟩
    · rcases Pl.wl_all p _ hx rfl with h | h
      · exact c.cnt x m h
      · cases h
        have z : dg d ln = 0 := by unfold dg; rw [c.sub ln hln]; rfl
        have z2 := (to.leaf rfl).2 m rfl
        simp only [isNum, Bool.and_eq_true, decide_eq_true_eq] at z2
        omega
    · have e := Pl.wl_cnt (x := n) (wt := wt) (ln := ln) (st := st) p x
      have z1 : 1 ≤ p.names.count x := List.count_pos_iff.mpr z
      exact List.count_pos_iff.mp (by omega)
  | knows h hl hs hk =>
    rename_i n k w
    have z := to.num rfl
    have z0 : isNum k 1 1000 = true := z
    have st : StOk (some k) := fun i e => by cases e; exact z0
    refine ⟨ws_ok c.plan st, fun x m hx => ?_, c.pos, fun x hx => c.sub x (by rw [Pl.ws_names] at hx; exact hx)⟩
    rcases Pl.ws_all p hx with ⟨h1, h2⟩ | h
    · subst h1 h2
      exact ⟨c.pos _, hk⟩
    · exact c.cnt x m h
  | did h hl hs =>
    rename_i n k w
    have z := to.num rfl
    have z0 : isNum k 1 1000 = true := z
    simp only [isNum, Bool.and_eq_true, decide_eq_true_eq] at z0
    obtain ⟨k1, k2⟩ := find_mem p h
    refine ⟨c.plan, fun x m hx => ?_, fun x => ?_, fun x hx => ?_⟩
    · rw [dg_put]
      split
      · rename_i e
        subst e
        have e2 := leaf_find (m := n) c.plan.nodup h hx
        subst e2
        exact ⟨by have := c.pos n; omega, hs m rfl⟩
      · exact c.cnt x m hx
    · rw [dg_put]
      have := c.pos n
      have := c.pos x
      split <;> omega
    · rw [dGet_put, if_neg (fun z => by subst z; exact hx (k2 ▸ mem_names k1))]
      exact c.sub x hx
end Hf

namespace Hf
open PySem PySem.Spec PyProof.Rows L2 ClX
/-! ### sizes of what is told -/
theorem lim_qd {k : Nat} {t b : Int} (hb : 0 < b) (h1 : t.natAbs < 2 ^ k) (h2 : b.natAbs < 2 ^ k) : Lim k (qd t b) := by
  have e := share_cn (t := t) hb
  unfold share cn at e
  injection e with e1 e2
  refine ⟨?_, ?_⟩
  · show ((t : Rat) / (b : Rat)).num.natAbs < _
    rw [← e1]
    refine Nat.lt_of_le_of_lt ?_ h1
    rw [Int.natAbs_ediv_of_dvd (Int.gcd_dvd_left ..)]
    exact Nat.div_le_self _ _
  · show ((t : Rat) / (b : Rat)).den < _
    have : ((t : Rat) / (b : Rat)).den = (b / (Int.gcd t b : Int)).natAbs := by rw [e2]; rfl
    rw [this]
    refine Nat.lt_of_le_of_lt ?_ h2
    rw [Int.natAbs_ediv_of_dvd (Int.gcd_dvd_right ..)]
    exact Nat.div_le_self _ _
theorem lim_mul {m n : Nat} {p q : Rat} (h : Lim m p) (k : Lim n q) : Lim (m + n) (p * q) := by
  rw [ofit_q]
  refine lim_qd (Int.mul_pos (den_pos p) (den_pos q)) ?_ ?_
  · rw [Int.natAbs_mul, Nat.pow_add]
    exact Nat.mul_lt_mul'' h.1 k.1
  · rw [Int.natAbs_mul, Nat.pow_add]
    exact Nat.mul_lt_mul'' (by simpa using h.2) (by simpa using k.2)
theorem lim_div {m n : Nat} {p q : Rat} (h : Lim m p) (k : Lim n q) (hq : 0 < q) : Lim (m + n) (p / q) := by
  rw [parted_q hq]
  refine lim_qd (Int.mul_pos (den_pos p) (num_pos hq)) ?_ ?_
  · rw [Int.natAbs_mul, Nat.pow_add]
    exact Nat.mul_lt_mul'' h.1 (by simpa using k.2)
  · rw [Int.natAbs_mul, Nat.pow_add]
    exact Nat.mul_lt_mul'' (by simpa using h.2) k.1
theorem num_bound {p : Rat} (h0 : 0 ≤ p) (h1 : p ≤ 1) : 0 ≤ p.num ∧ p.num ≤ (p.den : Int) := by
  refine ⟨Rat.num_nonneg.mpr h0, ?_⟩
  have := (Rat.le_iff p 1).mp h1
  have e1 : (1 : Rat).num = 1 := rfl
  have e2 : (1 : Rat).den = 1 := rfl
  rw [e1, e2] at this
  omega
theorem lim_one {n : Nat} {p : Rat} (h : Lim n p) (h0 : 0 ≤ p) (h1 : p ≤ 1) : Lim n (1 - p) := by
  rw [less_q]
  have e1 : (1 : Rat).num = 1 := rfl
  have e2 : (1 : Rat).den = 1 := rfl
  rw [e1, e2]
  obtain ⟨b0, b1⟩ := num_bound h0 h1
  have hd := h.2
  have dp := den_pos p
  refine lim_qd (by omega) ?_ ?_
  · refine Nat.lt_of_le_of_lt ?_ hd
    omega
  · refine Nat.lt_of_le_of_lt ?_ hd
    omega
theorem lim1 : Lim 1 1 := ⟨by decide, by decide⟩
theorem lim0 : Lim 1 0 := ⟨by decide, by decide⟩
/-- what is told next -/
def shownNext (shown last now : Rat) : Rat := if last < now then 1 - (1 - shown) * ((1 - now) / (1 - last)) else shown
structure ShOk (n : Nat) (q : Rat) : Prop where
  lim : Lim n q
  nn : 0 ≤ q
  le : q ≤ 1
theorem ratio_ok {last now : Rat} (h : last < now) (h0 : 0 ≤ last) (h1 : now ≤ 1) : 0 < 1 - last ∧ 0 ≤ (1 - now) / (1 - last) ∧ (1 - now) / (1 - last) ≤ 1 := by
  have a : 0 < 1 - last := by grind
  have b : (1 - now) / (1 - last) * (1 - last) = 1 - now := Rat.div_mul_cancel (by grind)
  refine ⟨a, ?_, ?_⟩
  · refine Rat.not_lt.mp fun z => ?_
    have := Rat.mul_lt_mul_of_pos_right z a
    grind
  · refine Rat.not_lt.mp fun z => ?_
    have := Rat.mul_lt_mul_of_pos_right z a
    grind
theorem prod_ok {p q : Rat} (hp : 0 ≤ p) (hp1 : p ≤ 1) (hq : 0 ≤ q) (hq1 : q ≤ 1) : 0 ≤ p * q ∧ p * q ≤ 1 := by
  refine ⟨Rat.mul_nonneg hp hq, ?_⟩
  have := Rat.mul_le_mul_of_nonneg_right hp1 hq
  grind
theorem shown_next {n : Nat} {shown last now : Rat} (s : ShOk n shown) (l : ShOk 200 last) (w : ShOk 200 now) : ShOk (n + 400) (shownNext shown last now) := by
  unfold shownNext
  split
  · rename_i h
    obtain ⟨a, b, c⟩ := ratio_ok h l.nn w.le
    have p := prod_ok (p := 1 - shown) (q := (1 - now) / (1 - last)) (by have := s.le; grind) (by have := s.nn; grind) b c
    refine ⟨?_, by have := p.2; grind, by have := p.1; grind⟩
    refine lim_one ?_ p.1 p.2
    exact lim_mul (lim_one s.lim s.nn s.le) (lim_div (m := 200) (n := 200) (lim_one w.lim w.nn w.le) (lim_one l.lim l.nn l.le) a)
  · exact ⟨s.lim.mono (by omega), s.nn, s.le⟩
theorem sh_mono {m n : Nat} {q : Rat} (h : ShOk m q) (k : m ≤ n) : ShOk n q := ⟨h.lim.mono k, h.nn, h.le⟩
theorem CsOk.far {p : Pl} {d : List (Str × Int)} (c : CsOk p d) : FarOk p d := ⟨c.plan.fit, c.cnt, c.plan.count⟩
theorem CsOk.sh {p : Pl} {d : List (Str × Int)} (c : CsOk p d) : ShOk 200 (p.far d) := ⟨c.far.lim, (far_bounds c.plan.fit c.cnt).1, (far_bounds c.plan.fit c.cnt).2⟩
/-! ### a run -/
def after (p : Pl) (d : List (Str × Int)) : Tel → Pl × List (Str × Int)
  | .again n => (p, zeroed d (match p.find n with | some w => w.leaves | none => []))
  | .found n wt ln st => (Pl.withLeaf n wt (.leaf ln st) p, d)
  | .knows n k => (Pl.withSteps n k p, d)
  | .did n k => (p, dPut d n (dg d n + k))
def Can (p : Pl) (d : List (Str × Int)) (t : Tel) : Prop := Took p d t (after p d t).1 (after p d t).2
theorem Took.can {p p' : Pl} {d d' : List (Str × Int)} {t : Tel} (h : Took p d t p' d') : Can p d t ∧ after p d t = (p', d') := by
  cases h with
  | again h => exact ⟨by unfold Can; simp only [after, h]; exact .again h, by simp only [after, h]⟩
  | found h hl ok => exact ⟨.found h hl ok, rfl⟩
  | knows h hl hs hk => exact ⟨.knows h hl hs hk, rfl⟩
  | did h hl hs => exact ⟨.did h hl hs, rfl⟩
def stepC (c : Cs) (t : Tel) : Cs := ⟨(after c.plan c.did t).1, (after c.plan c.did t).2, shownNext c.shown (c.plan.far c.did) ((after c.plan c.did t).1.far (after c.plan c.did t).2)⟩
def runC (p : Pl) (ts : List Tel) : Cs := ts.foldl stepC ⟨p, [], 0⟩
def shownL (p : Pl) (ts : List Tel) : List Rat := (List.range (ts.length + 1)).map fun i => (runC p (ts.take i)).shown
def farAt (p : Pl) (ts : List Tel) (i : Nat) : Rat := (runC p (ts.take i)).plan.far (runC p (ts.take i)).did
def fallsL (p : Pl) (ts : List Tel) : List Int := ((List.range ts.length).filter fun i => decide (farAt p ts (i + 1) < farAt p ts i)).map fun (i : Nat) => (i : Int)
/-- a run that can be, what is told of sizes that can be reckoned -/
structure RunOk (p : Pl) (ts : List Tel) : Prop where
  plan : PlanOk p
  can : ∀ i t, ts[i]? = some t → TelOk t ∧ Can (runC p (ts.take i)).plan (runC p (ts.take i)).did t
  sh : ∀ i, i ≤ ts.length → ShOk 8500 (runC p (ts.take i)).shown
  len : ts.length ≤ 1000
theorem runC_next {p : Pl} {ts : List Tel} {i : Nat} {t : Tel} (h : ts[i]? = some t) : runC p (ts.take (i + 1)) = stepC (runC p (ts.take i)) t := by
  unfold runC
  rw [List.take_add_one, h, List.foldl_append]
  rfl
theorem cs_ok {p : Pl} {ts : List Tel} (hp : PlanOk p) (hc : ∀ i t, ts[i]? = some t → TelOk t ∧ Can (runC p (ts.take i)).plan (runC p (ts.take i)).did t) : ∀ i, i ≤ ts.length → CsOk (runC p (ts.take i)).plan (runC p (ts.take i)).did ∧ (runC p (ts.take i)).did.length ≤ 20 * i := fun i => by
  induction i with
  | zero =>
    intro _
    exact ⟨⟨hp, fun n m h => by
      have z : dg [] n = 0 := rfl
      show 0 ≤ dg [] n ∧ dg [] n ≤ m
      rw [z]
      have key : ∀ (k : Nat) (p : Pl), p.depth ≤ k → p.Fit → ∀ w ∈ p.all, w.Fit := fun k => by
        induction k with
        | zero => intro p h; have := Pl.depth_pos p; omega
        | succ k ih =>
          intro p hd hf w hw
          rw [Pl.all_eq, Pl.alls_eq] at hw
          rcases List.mem_cons.mp hw with rfl | hw
          · exact hf
          · obtain ⟨q, hq, hw⟩ := List.mem_flatMap.mp hw
            refine ih q.2 (by have := Pl.part_depth hq; omega) ?_ w hw
            cases p with
            | leaf n s => simp [Pl.parts] at hq
            | lot r n ps => exact (fit_parts hf q hq).2
      have := fit_st (key p.depth p (Nat.le_refl _) hp.fit _ h)
      omega, fun n => (by show (0 : Int) ≤ dg [] n; exact Int.le_refl _), fun n _ => rfl⟩, by show ([] : List (Str × Int)).length ≤ _; simp⟩
  | succ i ih =>
    intro hi
    obtain ⟨t, ht⟩ : ∃ t, ts[i]? = some t := ⟨_, List.getElem?_eq_getElem (by omega)⟩
    obtain ⟨a, b⟩ := ih (by omega)
    obtain ⟨k1, k2⟩ := hc i t ht
    rw [runC_next ht]
    refine ⟨Took.ok a k1 k2, ?_⟩
    have := Took.len k2 a.plan (fun n w h => (find_mem _ h).1)
    show (after _ _ t).2.length ≤ _
    omega
theorem sh_all {p : Pl} {ts : List Tel} (hp : PlanOk p) (hc : ∀ i t, ts[i]? = some t → TelOk t ∧ Can (runC p (ts.take i)).plan (runC p (ts.take i)).did t) : ∀ i, i ≤ ts.length → ShOk (1 + 400 * i) (runC p (ts.take i)).shown := fun i => by
  induction i with
  | zero => intro _; exact (show ShOk 1 0 from ⟨lim0, by decide, by decide⟩)
  | succ i ih =>
    intro hi
    obtain ⟨t, ht⟩ : ∃ t, ts[i]? = some t := ⟨_, List.getElem?_eq_getElem (by omega)⟩
    have a := (cs_ok hp hc i (by omega)).1
    have b := (cs_ok hp hc (i + 1) hi).1
    rw [runC_next ht] at b ⊢
    exact sh_mono (shown_next (ih (by omega)) a.sh b.sh) (by omega)
theorem runOk_few {p : Pl} {ts : List Tel} (hp : PlanOk p) (hc : ∀ i t, ts[i]? = some t → TelOk t ∧ Can (runC p (ts.take i)).plan (runC p (ts.take i)).did t) (hl : ts.length ≤ 21) : RunOk p ts := ⟨hp, hc, fun i hi => sh_mono (sh_all hp hc i hi) (show 1 + 400 * i ≤ 8500 by omega), by omega⟩
end Hf

namespace Hf
open PySem PySem.Spec PyProof.Rows L2 ClX
section
variable {X : Cx} {E : Ent} {Γ Γ' Γ1 Γ2 : List Slot} {D : Ends} {e f g o : Expr} {es : List Expr} {body orelse rest : List Stmt} {pos p p2 : Pos} {α : Type} {r : Rp α} {x : α} {b : Bool}
/-- try whose body never raises, with an else -/
theorem bk_tryE {h₀ : ExceptHandler} {hs : List ExceptHandler} (hb : Bk X.nox E Γ body { thenD X rest D with nx := fun σ H => WB X orelse σ H (thenD X rest D) }) : Bk X E Γ (.Try body (h₀ :: hs) orelse [] pos :: rest) D :=
  bk_of (ps_try_thru WB.pss WB.pss) fun G H σ hh => hb G H σ hh
theorem em_one {op : BoolOp} (h : EvM X Γ Γ' e r x) : EvM X Γ Γ' (.BoolOp op [e] pos) r x := fun E G H σ hh Q k => WE.of (pe_one WE.pe) (h E G H σ hh Q k)
end
section
variable {X : Cx} {E : Ent} {Γ Γ' Γ1 Γ2 : List Slot} {D : Ends} {e f g o : Expr} {es : List Expr} {body orelse rest : List Stmt} {pos p p2 : Pos} {α : Type} {r : Rp α} {x : α} {b : Bool} {a : Str} {d : Addr} {plan plan' : Pl} {shown shown' : Rat} {q : Option Addr}
theorem cNs_nd : cNs.Nodup := by decide
theorem ev_crP (ok : CrOk X.K) (i : Nat) (hg : Γ[i]? = some (.ow (oCr X.K d plan shown) q)) (hN : X.N[i]? = some a := by rfl) (hv : Vis X.env.scope a := by first | exact Or.inl rfl | exact Or.inr (Or.inl rfl) | exact Or.inr (Or.inr rfl)) (hd : (a == ("__debug__" : Str)) = false := by decide) (hcd : (a == ("__classdict__" : Str)) = false := by decide)
    (hb : attributeBase (.Name a p) "plan" X.env (eval (.Name a p) X.env) = eval (.Name a p) X.env := by rfl) : Ev X Γ (.Attribute (.Name a p) "plan" pos) (rWk X.K (cW X.K)) plan := ev_fldO i 0 ok.cls ok.plan hg rfl cNs_nd rfl hN hv hd hcd hb
theorem ev_crD (ok : CrOk X.K) (i : Nat) (hg : Γ[i]? = some (.ow (oCr X.K d plan shown) q)) (hN : X.N[i]? = some a := by rfl) (hv : Vis X.env.scope a := by first | exact Or.inl rfl | exact Or.inr (Or.inl rfl) | exact Or.inr (Or.inr rfl)) (hd : (a == ("__debug__" : Str)) = false := by decide) (hcd : (a == ("__classdict__" : Str)) = false := by decide)
    (hb : attributeBase (.Name a p) "did" X.env (eval (.Name a p) X.env) = eval (.Name a p) X.env := by rfl) : Ev X Γ (.Attribute (.Name a p) "did" pos) (rAt d) () := ev_fldO i 1 ok.cls ok.did hg rfl cNs_nd rfl hN hv hd hcd hb
theorem ev_crS (ok : CrOk X.K) (i : Nat) (hg : Γ[i]? = some (.ow (oCr X.K d plan shown) q)) (hN : X.N[i]? = some a := by rfl) (hv : Vis X.env.scope a := by first | exact Or.inl rfl | exact Or.inr (Or.inl rfl) | exact Or.inr (Or.inr rfl)) (hd : (a == ("__debug__" : Str)) = false := by decide) (hcd : (a == ("__classdict__" : Str)) = false := by decide)
    (hb : attributeBase (.Name a p) "shown" X.env (eval (.Name a p) X.env) = eval (.Name a p) X.env := by rfl) : Ev X Γ (.Attribute (.Name a p) "shown" pos) (rQ X.K) shown := ev_fldO i 2 ok.cls ok.shown hg rfl cNs_nd rfl hN hv hd hcd hb
theorem bk_crP (ok : CrOk X.K) (i : Nat) (hg : Γ[i]? = some (.ow (oCr X.K d plan shown) q)) (he : Ev X Γ e (rWk X.K (cW X.K)) plan') (k : Bk X E (Γ.set i (.ow (oCr X.K d plan' shown) q)) rest D)
    (hN : X.N[i]? = some a := by rfl) (hv : Vis X.env.scope a := by first | exact Or.inl rfl | exact Or.inr (Or.inl rfl) | exact Or.inr (Or.inr rfl)) (hd : (a == ("__debug__" : Str)) = false := by decide) (hcd : (a == ("__classdict__" : Str)) = false := by decide)
    (hs : swapsWith e (some (.Attribute (.Name a p) "plan" p2)) pos.line X.env = pure false := by rfl) : Bk X E Γ (.Assign [.Attribute (.Name a p) "plan" p2] e pos :: rest) D := bk_fldO i 0 ok.cls ok.plan hg he rfl cNs_nd (by decide) k hN hv hd hcd hs
theorem bk_crS (ok : CrOk X.K) (i : Nat) (hg : Γ[i]? = some (.ow (oCr X.K d plan shown) q)) (he : Ev X Γ e (rQ X.K) shown') (k : Bk X E (Γ.set i (.ow (oCr X.K d plan shown') q)) rest D)
    (hN : X.N[i]? = some a := by rfl) (hv : Vis X.env.scope a := by first | exact Or.inl rfl | exact Or.inr (Or.inl rfl) | exact Or.inr (Or.inr rfl)) (hd : (a == ("__debug__" : Str)) = false := by decide) (hcd : (a == ("__classdict__" : Str)) = false := by decide)
    (hs : swapsWith e (some (.Attribute (.Name a p) "shown" p2)) pos.line X.env = pure false := by rfl) : Bk X E Γ (.Assign [.Attribute (.Name a p) "shown" p2] e pos :: rest) D := bk_fldO i 2 ok.cls ok.shown hg he rfl cNs_nd (by decide) k hN hv hd hcd hs
end
theorem etm_notT {X : Cx} {Γ Γ' : List Slot} {e : Expr} {pos : Pos} (h : EvTM X Γ Γ' e true) : EvTM X Γ Γ' (.UnaryOp .Not e pos) false := etm_not h
theorem Can.find {p : Pl} {d : List (Str × Int)} {t : Tel} (h : Can p d t) : ∃ w, p.find t.name = some w := by
  have h' : Took p d t (after p d t).1 (after p d t).2 := h
  clear h
  revert h'
  generalize (after p d t).1 = p', (after p d t).2 = d'
  intro h'
  cases h' with
  | again h => exact ⟨_, h⟩
  | found h => exact ⟨_, h⟩
  | knows h => exact ⟨_, h⟩
  | did h => exact ⟨_, h⟩
theorem again_is {t : Tel} (h : t.isAgain = true) : ∃ n, t = .again n := by
  cases t with
  | again n => exact ⟨n, rfl⟩
  | _ => simp [Tel.isAgain] at h
theorem Can.found {p : Pl} {d : List (Str × Int)} {t : Tel} (h : Can p d t) (ht : t.isFound = true) {w : Pl} (hf : p.find t.name = some w) : w.isLeaf = false ∧ PlanOk (Pl.withLeaf t.name t.num (.leaf t.leaf t.last) p) ∧ after p d t = (Pl.withLeaf t.name t.num (.leaf t.leaf t.last) p, d) := by
  cases t with
  | found n wt ln st =>
    have h' : Took p d (.found n wt ln st) (Pl.withLeaf n wt (.leaf ln st) p) d := h
    refine ⟨?_, ?_, rfl⟩
    · generalize e1 : Pl.withLeaf n wt (.leaf ln st) p = p' at h'
      cases h' with
      | found h1 h2 h3 =>
        rw [show p.find n = some w from hf] at h1
        cases h1
        exact h2
    · show PlanOk (Pl.withLeaf n wt (.leaf ln st) p)
      generalize e1 : Pl.withLeaf n wt (.leaf ln st) p = p' at h'
      cases h' with
      | found h1 h2 h3 => exact h3
  | _ => simp [Tel.isFound] at ht
theorem Can.leafy {p : Pl} {d : List (Str × Int)} {t : Tel} (h : Can p d t) (ha : t.isAgain = false) (hfo : t.isFound = false) {w : Pl} (hf : p.find t.name = some w) : w.isLeaf = true ∧
    ((t.isKnows = true → w.steps = none ∧ dg d t.name ≤ t.num ∧ after p d t = (Pl.withSteps t.name t.num p, d)) ∧ (t.isKnows = false → (∀ s, w.steps = some s → dg d t.name + t.num ≤ s) ∧ after p d t = (p, dPut d t.name (dg d t.name + t.num)))) := by
  cases t with
  | found => simp [Tel.isFound] at hfo
  | again => simp [Tel.isAgain] at ha
  | knows n k =>
    have h' : Took p d (.knows n k) (Pl.withSteps n k p) d := h
    generalize e1 : Pl.withSteps n k p = p' at h'
    cases h' with
    | knows h1 h2 h3 h4 =>
      rw [show p.find n = some w from hf] at h1
      cases h1
      exact ⟨h2, fun _ => ⟨h3, h4, rfl⟩, fun z => by simp [Tel.isKnows] at z⟩
  | did n k =>
    have h' : Took p d (.did n k) p (dPut d n (dg d n + k)) := h
    generalize e1 : dPut d n (dg d n + k) = d' at h'
    cases h' with
    | did h1 h2 h3 =>
      rw [show p.find n = some w from hf] at h1
      cases h1
      exact ⟨h2, fun z => by simp [Tel.isKnows] at z, fun _ => ⟨h3, rfl⟩⟩
theorem TelOk.steps {t : Tel} (h : TelOk t) (ha : t.isAgain = false) (hf : t.isFound = false) : StOk (some t.num) := fun i e => by
  cases e
  have z := h.num ha
  rw [hf] at z
  exact z
theorem all_small {p z : Pl} (h : z ∈ p.all) : z.names.length ≤ p.names.length := by
  have k : ∀ (m : Nat) (p : Pl), p.depth ≤ m → ∀ z ∈ p.all, z.names.length ≤ p.names.length := fun m => by
    induction m with
    | zero => intro p h; have := Pl.depth_pos p; omega
    | succ m ih =>
      intro p hd z hz
      rw [Pl.all_eq, Pl.alls_eq] at hz
      rcases List.mem_cons.mp hz with rfl | hz
      · exact Nat.le_refl _
      · obtain ⟨q, hq, hz⟩ := List.mem_flatMap.mp hz
        exact Nat.le_trans (ih q.2 (by have := Pl.part_depth hq; omega) z hz) (names_sub hq).length_le
  exact k p.depth p (Nat.le_refl _) z h
theorem all_depth {p z : Pl} (h : z ∈ p.all) : z.depth ≤ p.depth := by
  have k : ∀ (m : Nat) (p : Pl), p.depth ≤ m → ∀ z ∈ p.all, z.depth ≤ p.depth := fun m => by
    induction m with
    | zero => intro p h; have := Pl.depth_pos p; omega
    | succ m ih =>
      intro p hd z hz
      rw [Pl.all_eq, Pl.alls_eq] at hz
      rcases List.mem_cons.mp hz with rfl | hz
      · exact Nat.le_refl _
      · obtain ⟨q, hq, hz⟩ := List.mem_flatMap.mp hz
        have := ih q.2 (by have := Pl.part_depth hq; omega) z hz
        have := Pl.part_depth hq
        omega
  exact k p.depth p (Nat.le_refl _) z h
theorem one_all {α : Type} {r : Rp α} {a : α} : ∀ (G : Hp) (vs : List V), Args G vs [⟨r, a⟩] → All2 r G vs [a]
  | G, [v], h => .cons h.1 .nil
theorem enum_at {α : Type} {as : List α} {i : Nat} {q : Int × α} (h : (enumL as)[i]? = some q) : ∃ a, as[i]? = some a ∧ q = ((i : Int), a) := by
  rw [enumL_get] at h
  cases e : as[i]? with
  | none => rw [e] at h; cases h
  | some a => rw [e] at h; cases h; exact ⟨a, rfl, rfl⟩
theorem take_take' {α : Type} {ts : List α} {i j : Nat} (h : j ≤ i) : (ts.take i).take j = ts.take j := by rw [List.take_take, Nat.min_eq_left h]
theorem shown_snoc {p : Pl} {ts : List Tel} {i : Nat} {t : Tel} (h : ts[i]? = some t) : shownL p (ts.take (i + 1)) = shownL p (ts.take i) ++ [(stepC (runC p (ts.take i)) t).shown] := by
  have lt := (List.getElem?_eq_some_iff.mp h).1
  have l1 : (ts.take (i + 1)).length = i + 1 := by rw [List.length_take]; omega
  have l0 : (ts.take i).length = i := by rw [List.length_take]; omega
  unfold shownL
  rw [l1, l0, List.range_succ, List.map_append]
  congr 1
  · refine List.map_congr_left fun j hj => ?_
    have := List.mem_range.mp hj
    rw [take_take' (by omega), take_take' (by omega)]
  · show [(runC p ((ts.take (i + 1)).take (i + 1))).shown] = [_]
    rw [take_take' (Nat.le_refl _), runC_next h]
theorem falls_len (p : Pl) (ts : List Tel) : (fallsL p ts).length ≤ ts.length := by
  unfold fallsL
  rw [List.length_map]
  refine Nat.le_trans (List.length_filter_le _ _) ?_
  rw [List.length_range]
  exact Nat.le_refl _
theorem farAt_take {p : Pl} {ts : List Tel} {i j : Nat} (h : j ≤ i) : farAt p (ts.take i) j = farAt p ts j := by unfold farAt; rw [take_take' h]
theorem falls_snoc {p : Pl} {ts : List Tel} {i : Nat} {t : Tel} (h : ts[i]? = some t) : fallsL p (ts.take (i + 1)) = fallsL p (ts.take i) ++ (if farAt p ts (i + 1) < farAt p ts i then [(i : Int)] else []) := by
  have lt := (List.getElem?_eq_some_iff.mp h).1
  have l1 : (ts.take (i + 1)).length = i + 1 := by rw [List.length_take]; omega
  have l0 : (ts.take i).length = i := by rw [List.length_take]; omega
  unfold fallsL
  rw [l1, l0, List.range_succ, List.filter_append, List.map_append]
  congr 1
  · congr 1
    refine List.filter_congr fun j hj => ?_
    have := List.mem_range.mp hj
    rw [farAt_take (by omega), farAt_take (by omega), farAt_take (by omega), farAt_take (by omega)]
  · rw [List.filter_cons, farAt_take (Nat.le_refl _), farAt_take (by omega)]
    by_cases z : farAt p ts (i + 1) < farAt p ts i
    · rw [if_pos (decide_eq_true z), if_pos z]; rfl
    · rw [if_neg (by simpa using z), if_neg z]; rfl
end Hf

namespace Hf
open PySem PySem.Spec PyProof.Rows L2 ClX
/-! ### what a work is worth -/
namespace Pl
mutual
def worth : Pl → Str → Rat
  | .leaf _ _, _ => 1
  | .lot _ n ps, x => if decide (n = x) = true then 1 else worths ((ps.map fun q => q.1).sum) ps x
def worths : Int → List (Int × Pl) → Str → Rat
  | _, [], _ => 1
  | W, (i, w) :: ps, x => if (!(find w x).isNone) = true then qd i W * worth w x else worths W ps x
end
end Pl
theorem worth_eq (w : Pl) (x : Str) : w.worth x = if decide (w.name = x) = true then 1 else Pl.worths w.weights w.parts x := by
  cases w with
  | leaf n s => simp only [Pl.worth, Pl.parts, Pl.worths]; split <;> rfl
  | lot r n ps => simp only [Pl.worth, Pl.parts, Pl.weights]; rfl
theorem worths_in {W : Int} {ps : List (Int × Pl)} {i : Nat} {q : Int × Pl} {x : Str} (m : ps[i]? = some q) (c : (!(q.2.find x).isNone) = true) : Pl.worths W (ps.drop i) x = qd q.1 W * q.2.worth x := by
  obtain ⟨lt, e⟩ := List.getElem?_eq_some_iff.mp m
  rw [List.drop_eq_getElem_cons lt, e]
  obtain ⟨a, b⟩ := q
  simp only [Pl.worths]
  rw [if_pos c]
theorem worths_next {W : Int} {ps : List (Int × Pl)} {i : Nat} {q : Int × Pl} {x : Str} (m : ps[i]? = some q) (c : (!(q.2.find x).isNone) = false) : Pl.worths W (ps.drop i) x = Pl.worths W (ps.drop (i + 1)) x := by
  obtain ⟨lt, e⟩ := List.getElem?_eq_some_iff.mp m
  rw [List.drop_eq_getElem_cons lt, e]
  obtain ⟨a, b⟩ := q
  simp only [Pl.worths]
  rw [if_neg (by rw [c]; simp)]
theorem weights_lim {w : Pl} (h : w.Fit) (hl : w.isLeaf = false) : 1 ≤ w.weights ∧ w.weights ≤ 600 := by
  obtain ⟨r, n, ps, rfl⟩ := lot_of hl
  have l := fit_len h
  have hp := fit_parts h
  have e := wsum_int (ps := ps) (fun q hq => by have := (hp q hq).1; omega)
  have b := wsum_le (ps := ps) (fun q hq => (hp q hq).1)
  show 1 ≤ (ps.map fun q : Int × Pl => q.1).sum ∧ (ps.map fun q : Int × Pl => q.1).sum ≤ 600
  rw [e]
  omega
theorem part_lim {w : Pl} (h : w.Fit) {q : Int × Pl} (m : q ∈ w.parts) : w.isLeaf = false ∧ Bot w.weights ∧ Lim 10 (qd q.1 w.weights) ∧ q.2.Fit := by
  have hl : w.isLeaf = false := by
    cases w with
    | leaf n s => simp [Pl.parts] at m
    | lot r n ps => rfl
  have b := weights_lim h hl
  obtain ⟨r, n, ps, rfl⟩ := lot_of hl
  have hp := fit_parts h q m
  refine ⟨rfl, ?_, lim_qd (by omega) ?_ ?_, hp.2⟩
  · exact bot_of (k := 10) (by omega) (show _ < 2 ^ 10 by omega) (by decide) (by decide)
  · show _ < 1024
    have := hp.1
    omega
  · show _ < 1024
    omega
theorem worth_lim : ∀ (w : Pl) (x : Str), w.Fit → Lim (10 * w.depth) (w.worth x) := fun w => by
  have key : ∀ (m : Nat) (w : Pl), w.depth ≤ m → ∀ x, w.Fit → Lim (10 * w.depth) (w.worth x) := fun m => by
    induction m with
    | zero => intro w h; have := Pl.depth_pos w; omega
    | succ m ih =>
      intro w hd x hf
      rw [worth_eq]
      have dp := Pl.depth_pos w
      have l1 : Lim (10 * w.depth) 1 := lim1.mono (by omega)
      split
      · exact l1
      · have hs : ∀ (ps : List (Int × Pl)), (∀ q ∈ ps, q ∈ w.parts) → Lim (10 * w.depth) (Pl.worths w.weights ps x) := fun ps => by
          induction ps with
          | nil => intro _; simp only [Pl.worths]; exact l1
          | cons q ps ihp =>
            intro hq
            obtain ⟨i, v⟩ := q
            simp only [Pl.worths]
            have mm := hq (i, v) List.mem_cons_self
            have hv := Pl.part_depth mm
            obtain ⟨_, _, k2, k3⟩ := part_lim hf mm
            split
            · exact (lim_mul k2 (ih v (by simp only at hv; omega) x k3)).mono (by simp only at hv; omega)
            · exact ihp fun q hm => hq q (List.mem_cons_of_mem _ hm)
        exact hs w.parts fun q hq => hq
  exact fun x h => key w.depth w (Nat.le_refl _) x h
theorem fit_all {p z : Pl} (hf : p.Fit) (h : z ∈ p.all) : z.Fit := by
  have key : ∀ (k : Nat) (p : Pl), p.depth ≤ k → p.Fit → ∀ w ∈ p.all, w.Fit := fun k => by
    induction k with
    | zero => intro p h; have := Pl.depth_pos p; omega
    | succ k ih =>
      intro p hd hf w hw
      rw [Pl.all_eq, Pl.alls_eq] at hw
      rcases List.mem_cons.mp hw with rfl | hw
      · exact hf
      · obtain ⟨q, hq, hw⟩ := List.mem_flatMap.mp hw
        refine ih q.2 (by have := Pl.part_depth hq; omega) ?_ w hw
        cases p with
        | leaf n s => simp [Pl.parts] at hq
        | lot r n ps => exact (fit_parts hf q hq).2
  exact key p.depth p (Nat.le_refl _) hf z h
theorem all_all {p z y : Pl} (h : z ∈ p.all) (hy : y ∈ z.all) : y ∈ p.all := by
  have k : ∀ (m : Nat) (p : Pl), p.depth ≤ m → ∀ z ∈ p.all, ∀ y ∈ z.all, y ∈ p.all := fun m => by
    induction m with
    | zero => intro p h; have := Pl.depth_pos p; omega
    | succ m ih =>
      intro p hd z hz y hy
      rw [Pl.all_eq, Pl.alls_eq] at hz
      rcases List.mem_cons.mp hz with rfl | hz
      · exact hy
      · obtain ⟨q, hq, hz⟩ := List.mem_flatMap.mp hz
        rw [Pl.all_eq, Pl.alls_eq]
        exact List.mem_cons_of_mem _ (List.mem_flatMap.mpr ⟨q, hq, ih q.2 (by have := Pl.part_depth hq; omega) z hz y hy⟩)
  exact k p.depth p (Nat.le_refl _) z h y hy
theorem far_sub {p z : Pl} {d : List (Str × Int)} (f : FarOk p d) (h : z ∈ p.all) : FarOk z d := ⟨fit_all f.fit h, fun n m hm => f.cnt n m (all_all h hm), Nat.le_trans (all_small h) f.few⟩
theorem plan_sub {p z : Pl} (f : PlanOk p) (h : z ∈ p.all) : PlanOk z := by
  have k : ∀ (m : Nat) (p : Pl), p.depth ≤ m → PlanOk p → ∀ z ∈ p.all, PlanOk z := fun m => by
    induction m with
    | zero => intro p h; have := Pl.depth_pos p; omega
    | succ m ih =>
      intro p hd f z hz
      rw [Pl.all_eq, Pl.alls_eq] at hz
      rcases List.mem_cons.mp hz with rfl | hz
      · exact f
      · obtain ⟨q, hq, hz⟩ := List.mem_flatMap.mp hz
        exact ih q.2 (by have := Pl.part_depth hq; omega) (f.part hq) z hz
  exact k p.depth p (Nat.le_refl _) f z h
/-- behind a run all is well -/
theorem RunOk.last {p : Pl} {ts : List Tel} (h : RunOk p ts) : CsOk (runC p ts).plan (runC p ts).did := by
  have z := (cs_ok h.plan h.can ts.length (Nat.le_refl _)).1
  rwa [List.take_length] at z
end Hf

namespace Hf
open PySem PySem.Spec PyProof.Rows L2 ClX
theorem leaf_eta {w : Pl} (h : w.isLeaf = true) : w = .leaf w.name w.steps := by
  cases w with
  | leaf n s => rfl
  | lot r n ps => simp [Pl.isLeaf] at h
theorem map_eta (ps : List (Int × Pl)) : (ps.map fun q : Int × Pl => (q.1, q.2)) = ps := by
  induction ps with
  | nil => rfl
  | cons q ps ih => rw [List.map_cons, ih]
theorem row_eta {w : Pl} (h : w.isLeaf = false) : w = .lot (decide (w.kind = ("row" : Str))) w.name w.parts := by
  cases w with
  | leaf n s => simp [Pl.isLeaf] at h
  | lot r n ps =>
    have z := row_of (w := .lot r n ps) rfl
    rw [← z]
    cases r <;> rfl
theorem made_lot {w : Pl} (h : PlanOk w) (hl : w.isLeaf = false) {b : Bool} (hk : decide (w.kind = ("row" : Str)) = b) : LotOk b w.name (w.parts.map fun q : Int × Pl => (q.1, q.2)) ∧ w.name.length ≤ 1000 := by
  rw [map_eta]
  have e := row_eta hl
  rw [hk] at e
  exact h.lot e
theorem made_eq {w : Pl} (hl : w.isLeaf = false) : w = if decide (w.kind = ("row" : Str)) = true then Pl.lot true w.name (w.parts.map fun q : Int × Pl => (q.1, q.2)) else Pl.lot false w.name (w.parts.map fun q : Int × Pl => (q.1, q.2)) := by
  rw [map_eta]
  have e := row_eta hl
  cases hk : decide (w.kind = ("row" : Str)) with
  | true => rw [hk] at e; exact e
  | false => rw [hk] at e; exact e
theorem zz_ok : isNameB "zz" = true ∧ ("zz" : Str).length ≤ 1000 := by decide +kernel
theorem sorts_eq (w : Pl) : [w.isLeaf, w.isRow, w.isBun] = [decide (w.kind = ("leaf" : Str)), decide (w.kind = ("row" : Str)), decide (w.kind = ("bundle" : Str))] := by
  rw [leaf_of rfl, row_of rfl, bun_of rfl]
theorem leaf_steps {w : Pl} (h : w.isLeaf = true) : w.parts = [] := by
  cases w with
  | leaf n s => rfl
  | lot r n ps => simp [Pl.isLeaf] at h
theorem lot_steps {w : Pl} (h : w.isLeaf = false) : w.steps = none := by
  cases w with
  | leaf n s => simp [Pl.isLeaf] at h
  | lot r n ps => rfl
theorem zip_self {α : Type} {l : List α} {q : α × α} (h : q ∈ l.zip l) : q.1 = q.2 ∧ q.1 ∈ l := by
  induction l with
  | nil => simp at h
  | cons a l ih =>
    rw [List.zip_cons_cons] at h
    rcases List.mem_cons.mp h with rfl | h
    · exact ⟨rfl, List.mem_cons_self⟩
    · exact ⟨(ih h).1, List.mem_cons_of_mem _ (ih h).2⟩
theorem pdStrs_nil {l : List Str} : PyData.eqv (pdStrs l) (.list []) = decide (l = []) := by
  have z := pdStrs_eqv (a := l) (b := [])
  exact z
theorem names_ne (w : Pl) : w.names ≠ [] := by rw [Pl.names_eq]; simp
end Hf

namespace Hf
open PySem PySem.Spec PyProof.Rows L2 ClX
theorem leafB (w : Pl) : decide (w.kind = ("leaf" : Str)) = w.isLeaf := by
  cases h : decide (w.kind = ("leaf" : Str)) <;> exact (leaf_of h).symm
theorem leaves_filter : ∀ (w : Pl), w.leaves = (w.all.filter fun q : Pl => decide (q.kind = ("leaf" : Str))).map fun q : Pl => q := fun w => by
  have key : ∀ (m : Nat) (w : Pl), w.depth ≤ m → w.leaves = w.all.filter fun q : Pl => decide (q.kind = ("leaf" : Str)) := fun m => by
    induction m with
    | zero => intro w h; have := Pl.depth_pos w; omega
    | succ m ih =>
      intro w hd
      cases w with
      | leaf n s =>
        rw [leaves_leaf rfl, Pl.all_eq]
        simp only [Pl.parts, Pl.alls]
        rw [List.filter_cons, if_pos (by rw [leafB]; rfl)]
        rfl
      | lot r n ps =>
        rw [leaves_eq _ rfl, Pl.all_eq, List.filter_cons, if_neg (by rw [leafB]; simp [Pl.isLeaf])]
        have hs : ∀ (l : List (Int × Pl)), (∀ q ∈ l, q ∈ ps) → Pl.leavess l = (Pl.alls l).filter fun q : Pl => decide (q.kind = ("leaf" : Str)) := fun l => by
          induction l with
          | nil => intro _; simp [Pl.leavess, Pl.alls]
          | cons q l ihl =>
            intro hq
            obtain ⟨i, v⟩ := q
            have hv := Pl.part_depth (w := .lot r n ps) (hq (i, v) List.mem_cons_self)
            simp only [Pl.leavess, Pl.alls, List.filter_append]
            rw [ihl fun q hm => hq q (List.mem_cons_of_mem _ hm), ih v (by simp only at hv; omega)]
        exact hs ps fun q hq => hq
  rw [List.map_id', key w.depth w (Nat.le_refl _)]
/-! ### a work put in its place, sizes of what fits -/
namespace Pl
mutual
def put (x : Str) (m : Pl) : Pl → Pl
  | .leaf n s => if decide (n = x) = true then m else .leaf n s
  | .lot r n ps => if decide (n = x) = true then m else .lot r n (puts x m ps)
def puts (x : Str) (m : Pl) : List (Int × Pl) → List (Int × Pl)
  | [] => []
  | (i, w) :: ps => (i, put x m w) :: puts x m ps
end
end Pl
theorem puts_map {x : Str} {m : Pl} : ∀ (ps : List (Int × Pl)), Pl.puts x m ps = ps.map fun q : Int × Pl => (q.1, Pl.put x m q.2)
  | [] => by simp only [Pl.puts, List.map_nil]
  | (i, w) :: ps => by simp only [Pl.puts, List.map_cons]; rw [puts_map ps]
theorem put_here {w m : Pl} {x : Str} (c : decide (w.name = x) = true) : Pl.put x m w = m := by
  cases w with
  | leaf n s => simp only [Pl.put]; exact if_pos c
  | lot r n ps => simp only [Pl.put]; exact if_pos c
theorem put_leaf {w m : Pl} {x : Str} (c : decide (w.name = x) = false) (hl : w.isLeaf = true) : Pl.put x m w = w := by
  cases w with
  | leaf n s => simp only [Pl.put]; exact if_neg (by rw [show decide (n = x) = false from c]; simp)
  | lot r n ps => simp [Pl.isLeaf] at hl
theorem put_lot {w m : Pl} {x : Str} (c : decide (w.name = x) = false) (hl : w.isLeaf = false) : Pl.put x m w = .lot w.isRow w.name (w.parts.map fun q : Int × Pl => (q.1, Pl.put x m q.2)) := by
  cases w with
  | leaf n s => simp [Pl.isLeaf] at hl
  | lot r n ps =>
    simp only [Pl.put]
    rw [if_neg (by rw [show decide (n = x) = false from c]; simp), puts_map]
    cases r <;> rfl
theorem fit_part {w : Pl} {q : Int × Pl} (hf : w.Fit) (m : q ∈ w.parts) : q.2.Fit := by
  cases w with
  | leaf n s => simp [Pl.parts] at m
  | lot r n ps => exact (fit_parts hf q m).2
theorem fit_few {w : Pl} (hf : w.Fit) : w.parts.length ≤ 6 := by
  cases w with
  | leaf n s => show ([] : List (Int × Pl)).length ≤ 6; simp
  | lot r n ps => exact (fit_len hf).2
theorem fit_ne {w : Pl} (hf : w.Fit) (hl : w.isLeaf = false) : w.parts ≠ [] := by
  cases w with
  | leaf n s => simp [Pl.isLeaf] at hl
  | lot r n ps =>
    have := (fit_len hf).1
    intro e
    rw [show ps = [] from e] at this
    simp at this
theorem kind_lot {w : Pl} {n : Str} {ps : List (Int × Pl)} (hl : w.isLeaf = false) : w.kind = (Pl.lot w.isRow n ps).kind := by
  cases w with
  | leaf n s => simp [Pl.isLeaf] at hl
  | lot r n ps => cases r <;> rfl
theorem depth_leaf {w : Pl} (hl : w.isLeaf = true) : w.depth = 1 := by
  cases w with
  | leaf n s => simp only [Pl.depth]
  | lot r n ps => simp [Pl.isLeaf] at hl
theorem depths_in : ∀ {ps : List (Int × Pl)}, ps ≠ [] → ∃ q ∈ ps, q.2.depth = Pl.depths ps
  | [], h => absurd rfl h
  | (i, w) :: ps, _ => by
    simp only [Pl.depths]
    by_cases e : ps = []
    · subst e
      exact ⟨(i, w), List.mem_cons_self, by simp only [Pl.depths]; omega⟩
    · obtain ⟨q, hq, e2⟩ := depths_in e
      by_cases c : Pl.depths ps ≤ w.depth
      · exact ⟨(i, w), List.mem_cons_self, by show w.depth = _; omega⟩
      · exact ⟨q, List.mem_cons_of_mem _ hq, by omega⟩
theorem depth_law {w : Pl} (hf : w.Fit) (hl : w.isLeaf = false) : (w.depth : Int) = 1 + maxL (w.parts.map fun q : Int × Pl => (q.2.depth : Int)) := by
  obtain ⟨q, hq, e⟩ := depths_in (fit_ne hf hl)
  have e1 := Pl.depth_eq w
  have e2 : maxL (w.parts.map fun q : Int × Pl => (q.2.depth : Int)) = ((Pl.depths w.parts : Nat) : Int) := by
    refine maxL_eq (List.mem_map.mpr ⟨q, hq, by rw [e]⟩) fun y hy => ?_
    obtain ⟨q2, hq2, rfl⟩ := List.mem_map.mp hy
    have := Pl.depths_mem hq2
    omega
  rw [e1, e2]
  push_cast
  rfl
end Hf

namespace Hf
open PySem PySem.Spec PyProof.Rows L2 ClX
section
variable {X : Cx} {E : Ent} {Γ Γ' : List Slot} {D : Ends} {e tg : Expr} {rest : List Stmt} {pos : Pos} {α : Type} {r : Rp α} {x : α}
/-- a, b = e -/
theorem bk_asg {U : α → List Slot → List Slot} {vs : List Nat} (he : Ev X Γ e r x) (ht : TgOk X tg r U vs) (k : Bk X E (U x Γ) rest D) (hs : swapsWithSole [tg] e pos.line X.env = pure false := by rfl) (hw : swappedStores [tg] e X.env = pure none := by rfl)
    (h1 : (assignEach [tg] X.env).map (·.2) = [assign tg X.env] := by rfl) : Bk X E Γ (.Assign [tg] e pos :: rest) D :=
  bk_of (ps_asg WE.pe WG.pg hs hw h1) fun G H σ hh => he E G H σ hh _ fun v G1 H1 l1 r1 => ht E G1 H1 σ Γ v x (hh.step l1) r1 _ fun σ' _ hh' => k G1 H1 σ' hh'
end
/-! ### how far, by the law's reckoning -/
def sumF (ps : List (Int × Pl)) (did : List (Str × Int)) : Rat := ps.foldl (fun (a : Rat) (q : Int × Pl) => a + (q.1 : Rat) * q.2.far did) 0
theorem sumF_fars {did : List (Str × Int)} : ∀ (ps : List (Int × Pl)) (a : Rat), ps.foldl (fun (a : Rat) (q : Int × Pl) => a + (q.1 : Rat) * q.2.far did) a = a + Pl.fars 1 ps did
  | [], a => by simp only [Pl.fars, List.foldl_nil]; grind
  | (i, w) :: ps, a => by
    rw [List.foldl_cons, sumF_fars ps]
    simp only [Pl.fars]
    have : ((1 : Int) : Rat) = 1 := rfl
    rw [this]
    grind
theorem fars_mul {did : List (Str × Int)} {W : Int} (hW : (W : Rat) ≠ 0) : ∀ (ps : List (Int × Pl)), Pl.fars W ps did = Pl.fars 1 ps did / (W : Rat)
  | [] => by simp only [Pl.fars]; rw [Rat.div_def, Rat.zero_mul]
  | (i, w) :: ps => by
    simp only [Pl.fars]
    rw [fars_mul hW ps]
    have : ((1 : Int) : Rat) = 1 := rfl
    rw [this]
    grind
theorem qd_eq {x : Rat} {t b : Int} (hb : 0 < b) (h : x * (b : Rat) = (t : Rat)) : x = qd t b := by
  unfold qd
  have : (b : Rat) ≠ 0 := by
    have : (0 : Rat) < (b : Rat) := by exact_mod_cast hb
    grind
  grind
theorem far_sumF {w : Pl} {did : List (Str × Int)} (h : w.Fit) (hl : w.isLeaf = false) : w.far did = qd (sumF w.parts did).num (((sumF w.parts did).den : Int) * w.weights) := by
  have b := weights_lim h hl
  have d := den_pos (sumF w.parts did)
  refine qd_eq (Int.mul_pos d (by omega)) ?_
  have hW : ((w.weights : Int) : Rat) ≠ 0 := by
    have : (0 : Rat) < (w.weights : Rat) := by exact_mod_cast (show 0 < w.weights by omega)
    grind
  have e1 : w.far did = sumF w.parts did / (w.weights : Rat) := by
    obtain ⟨r, n, ps, rfl⟩ := lot_of hl
    have z := sumF_fars (did := did) ps 0
    show Pl.far (.lot r n ps) did = sumF ps did / ((Pl.lot r n ps).weights : Rat)
    simp only [Pl.far]
    rw [show sumF ps did = Pl.fars 1 ps did by unfold sumF; rw [z]; grind]
    exact fars_mul hW ps
  have e2 := q_mul (sumF w.parts did)
  rw [e1, e2]
  push_cast
  grind
theorem sumF_step {S f : Rat} {i : Int} : S + (i : Rat) * f = qd (S.num * (f.den : Int) + i * f.num * (S.den : Int)) ((S.den : Int) * (f.den : Int)) := by
  refine qd_eq (Int.mul_pos (den_pos S) (den_pos f)) ?_
  have e1 := q_mul S
  have e2 := q_mul f
  push_cast
  rw [e1, e2]
  push_cast
  grind
theorem sumF_lim {w : Pl} {did : List (Str × Int)} (f : FarOk w did) (hl : w.isLeaf = false) (i : Nat) : Lim 210 (sumF (w.parts.take i) did) := by
  have hd := den_lt f.fit
  have hfew := f.few
  have hc := f.cnt
  have hf := f.fit
  obtain ⟨r, n, ps, rfl⟩ := lot_of hl
  have hp := fit_parts hf
  have hpos : ∀ q ∈ ps, 0 < q.2.den := fun q hq => den_pos' q.2 (hp q hq).2
  have e : sumF (ps.take i) did = Pl.fars ((1 : Nat) : Int) (ps.take i) did := by
    have z := sumF_fars (did := did) (ps.take i) 0
    unfold sumF
    rw [z]
    have : (((1 : Nat) : Int)) = 1 := rfl
    rw [this]
    grind
  have fr := fars_fr (did := did) (W := 1) (by decide) (l := ps.take i) (fun q hq => by
    have hq' := List.mem_of_mem_take hq
    exact ⟨by have := (hp q hq').1; omega, far_fr (hp q hq').2 (hc.part (w := .lot r n ps) hq')⟩)
  rw [← e] at fr
  obtain ⟨N, hN, hS⟩ := fr
  have dt := dens_take ps i hpos
  have wt := wsum_take ps i
  have wl := wsum_le (ps := ps) (fun q hq => (hp q hq).1)
  have fl := fit_len hf
  have dW : Pl.dens ps ≤ (Pl.lot r n ps).den := by
    simp only [Pl.den]
    refine Nat.le_mul_of_pos_left _ ?_
    have := wl.1
    have e2 := wsum_int (ps := ps) (fun q hq => by have := (hp q hq).1; omega)
    omega
  have d2 : Pl.dens (ps.take i) < 2 ^ 200 := by
    refine Nat.lt_of_le_of_lt (Nat.le_trans dt.1 dW) (Nat.lt_of_lt_of_le hd ?_)
    exact Nat.pow_le_pow_right (by decide) (by omega)
  show Lim 210 (sumF (ps.take i) did)
  rw [Nat.one_mul] at hS
  have hS' : sumF (ps.take i) did = qd (N : Int) (Pl.dens (ps.take i) : Int) := qd_eq (by have := dt.2; omega) (by
    have : (((Pl.dens (ps.take i) : Nat) : Int) : Rat) = ((Pl.dens (ps.take i) : Nat) : Rat) := rfl
    rw [this, hS]
    rfl)
  rw [hS']
  refine lim_qd (by have := dt.2; omega) ?_ ?_
  · show N < 2 ^ 210
    have : wsum (ps.take i) * Pl.dens (ps.take i) ≤ 600 * Pl.dens (ps.take i) := Nat.mul_le_mul_right _ (by omega)
    have e3 : (2 : Nat) ^ 210 = 1024 * 2 ^ 200 := by rw [show (210 : Nat) = 10 + 200 from rfl, Nat.pow_add]
    omega
  · show Pl.dens (ps.take i) < 2 ^ 210
    have e3 : (2 : Nat) ^ 210 = 1024 * 2 ^ 200 := by rw [show (210 : Nat) = 10 + 200 from rfl, Nat.pow_add]
    omega
theorem part_wt {w : Pl} (h : w.Fit) {q : Int × Pl} (m : q ∈ w.parts) : 1 ≤ q.1 ∧ q.1 ≤ 100 := by
  cases w with
  | leaf n s => simp [Pl.parts] at m
  | lot r n ps => exact (fit_parts h q m).1
theorem wt_t {i : Int} (h : 1 ≤ i ∧ i ≤ 100) : Top i := top_of (k := 7) (show _ < 128 by omega) (by decide) (by decide)
theorem wt_t6 {i : Int} (h : 1 ≤ i ∧ i ≤ 600) : Top i := top_of (k := 10) (show _ < 1024 by omega) (by decide) (by decide)
theorem wt_top {i : Int} {n : Nat} {q : Rat} (h : 1 ≤ i ∧ i ≤ 100) (l : Lim n q) (hn : n ≤ 5000 := by decide) : Top (i * q.num) := by
  refine top_of (k := 7 + n) ?_ (by omega) (by omega)
  rw [Int.natAbs_mul, Nat.pow_add]
  exact Nat.mul_lt_mul'' (show _ < 128 by omega) l.1
theorem wt_bot {i : Int} {n : Nat} {q : Rat} (l : Lim n q) (h : 1 ≤ i ∧ i ≤ 600) (hn : n ≤ 5000 := by decide) : Bot ((q.den : Int) * i) := by
  refine bot_of (k := n + 10) (Int.mul_pos (den_pos q) (by omega)) ?_ (by omega) (by omega)
  rw [Int.natAbs_mul, Nat.pow_add]
  exact Nat.mul_lt_mul'' (by simpa using l.2) (show _ < 1024 by omega)
end Hf

namespace Hf
open PySem PySem.Spec PyProof.Rows L2 ClX
/-! ### what a telling does, by the law's reckoning -/
def tookL (p : Pl) (d : List (Str × Int)) (t : Tel) : Option Pl × List (Str × Int) :=
  match p.find t.name with
  | none => (none, d)
  | some w => match t with
    | .again _ => (some p, zeroed d w.leaves)
    | .found _ wt ln st => if (w.isLeaf || (decide ((w.parts.length : Int) = 6) || decide (ln ∈ p.names))) = true then (none, d) else
        if (decide (((Pl.put w.name (.lot w.isRow w.name (w.parts ++ [(wt, .leaf ln st)])) p).names.length : Int) ≤ 20) && decide (((Pl.put w.name (.lot w.isRow w.name (w.parts ++ [(wt, .leaf ln st)])) p).depth : Int) ≤ 5)) = true then (some (Pl.put w.name (.lot w.isRow w.name (w.parts ++ [(wt, .leaf ln st)])) p), d) else (none, d)
    | .knows _ k => if w.isLeaf = true then (if (w.steps.isNone && decide (dg d w.name ≤ k)) = true then (some (Pl.put w.name (.leaf w.name (some k)) p), d) else (none, d)) else (none, d)
    | .did _ k => if w.isLeaf = true then (if (!w.steps.isNone && decide (w.steps.getD 0 < dg d w.name + k)) = true then (none, d) else (some p, dPut d w.name (dg d w.name + k))) else (none, d)
namespace Pl
mutual
theorem find_none' : ∀ (p : Pl) {x : Str}, p.find x = none → x ∉ p.names
  | .leaf n s, x, h => by
    simp only [find] at h
    split at h
    · cases h
    · rename_i e
      simp only [names, List.mem_singleton]
      exact fun z => e (decide_eq_true z.symm)
  | .lot r n ps, x, h => by
    simp only [find] at h
    split at h
    · cases h
    · rename_i e
      simp only [names, List.mem_cons, not_or]
      exact ⟨fun z => e (decide_eq_true z.symm), finds_none' ps h⟩
theorem finds_none' : ∀ (ps : List (Int × Pl)) {x : Str}, finds ps x = none → x ∉ namess ps
  | [], x, h => by simp [namess]
  | (i, w) :: ps, x, h => by
    simp only [finds] at h
    simp only [namess, List.mem_append, not_or]
    cases z : find w x with
    | some y => rw [z] at h; cases h
    | none => rw [z] at h; exact ⟨find_none' w z, finds_none' ps h⟩
end
theorem find_none {p : Pl} {x : Str} (h : p.find x = none) : x ∉ p.names := find_none' p h
section
variable {x : Str} {wt : Int} {lf m : Pl} {k : Int}
mutual
theorem put_not : ∀ (p : Pl), x ∉ p.names → put x m p = p
  | .leaf n s, h => by
    simp only [names, List.mem_singleton] at h
    simp only [put]
    rw [if_neg (by simpa using fun e => h e.symm)]
  | .lot r n ps, h => by
    simp only [names, List.mem_cons, not_or] at h
    simp only [put]
    rw [if_neg (by simpa using fun e => h.1 e.symm), puts_not ps h.2]
theorem puts_not : ∀ (ps : List (Int × Pl)), x ∉ namess ps → puts x m ps = ps
  | [], h => by simp [puts]
  | (i, w) :: ps, h => by
    simp only [namess, List.mem_append, not_or] at h
    simp only [puts]
    rw [put_not w h.1, puts_not ps h.2]
end
mutual
theorem wl_not : ∀ (p : Pl), x ∉ p.names → withLeaf x wt lf p = p
  | .leaf n s, h => by simp only [withLeaf]
  | .lot r n ps, h => by
    simp only [names, List.mem_cons, not_or] at h
    simp only [withLeaf]
    rw [if_neg (by simpa using fun e => h.1 e.symm), wls_not ps h.2]
theorem wls_not : ∀ (ps : List (Int × Pl)), x ∉ namess ps → withLeafs x wt lf ps = ps
  | [], h => by simp [withLeafs]
  | (i, w) :: ps, h => by
    simp only [namess, List.mem_append, not_or] at h
    simp only [withLeafs]
    rw [wl_not w h.1, wls_not ps h.2]
end
mutual
theorem ws_not : ∀ (p : Pl), x ∉ p.names → withSteps x k p = p
  | .leaf n s, h => by
    simp only [names, List.mem_singleton] at h
    simp only [withSteps]
    rw [if_neg (by simpa using fun e => h e.symm)]
  | .lot r n ps, h => by
    simp only [names, List.mem_cons, not_or] at h
    simp only [withSteps]
    rw [wss_not ps h.2]
theorem wss_not : ∀ (ps : List (Int × Pl)), x ∉ namess ps → withStepss x k ps = ps
  | [], h => by simp [withStepss]
  | (i, w) :: ps, h => by
    simp only [namess, List.mem_append, not_or] at h
    simp only [withStepss]
    rw [ws_not w h.1, wss_not ps h.2]
end
mutual
/-- a work put in its place is what the package makes of it -/
theorem put_wl : ∀ (p : Pl) {w : Pl}, p.names.Nodup → p.find x = some w → w.isLeaf = false → put x (.lot w.isRow w.name (w.parts ++ [(wt, lf)])) p = withLeaf x wt lf p
  | .leaf n s, w, nd, h, hl => by
    simp only [find] at h
    split at h
    · cases h; simp [isLeaf] at hl
    · cases h
  | .lot r n ps, w, nd, h, hl => by
    simp only [names, List.nodup_cons] at nd
    simp only [find] at h
    simp only [put, withLeaf]
    by_cases e : decide (n = x) = true
    · rw [if_pos e] at h ⊢
      cases h
      rw [if_pos e]
      have hx : x ∉ namess ps := by rw [← of_decide_eq_true e]; exact nd.1
      rw [wls_not ps hx]
      have e2 : (Pl.lot r n ps).isRow = r := by cases r <;> rfl
      rw [e2]
      rfl
    · rw [if_neg e] at h ⊢
      rw [if_neg e, puts_wl ps nd.2 h hl]
theorem puts_wl : ∀ (ps : List (Int × Pl)) {w : Pl}, (namess ps).Nodup → finds ps x = some w → w.isLeaf = false → puts x (.lot w.isRow w.name (w.parts ++ [(wt, lf)])) ps = withLeafs x wt lf ps
  | [], w, nd, h, hl => by simp [finds] at h
  | (i, v) :: ps, w, nd, h, hl => by
    simp only [namess, List.nodup_append] at nd
    simp only [finds] at h
    simp only [puts, withLeafs]
    cases z : find v x with
    | some y =>
      rw [z] at h
      cases h
      have k1 := find_mem v z
      have hx : x ∉ namess ps := fun q => nd.2.2 _ (mem_names k1.1) _ q k1.2
      rw [put_wl v nd.1 z hl, puts_not ps hx, wls_not ps hx]
    | none =>
      rw [z] at h
      have hx : x ∉ v.names := fun q => find_none z q
      rw [put_not v hx, wl_not v hx, puts_wl ps nd.2.1 h hl]
end
mutual
theorem put_ws : ∀ (p : Pl) {w : Pl}, p.names.Nodup → p.find x = some w → w.isLeaf = true → put x (.leaf x (some k)) p = withSteps x k p
  | .leaf n s, w, nd, h, hl => by
    simp only [find] at h
    split at h
    · simp only [put, withSteps]
    · cases h
  | .lot r n ps, w, nd, h, hl => by
    simp only [names, List.nodup_cons] at nd
    simp only [find] at h
    simp only [put, withSteps]
    by_cases e : decide (n = x) = true
    · rw [if_pos e] at h
      cases h
      simp [isLeaf] at hl
    · rw [if_neg e] at h ⊢
      rw [puts_ws ps nd.2 h hl]
theorem puts_ws : ∀ (ps : List (Int × Pl)) {w : Pl}, (namess ps).Nodup → finds ps x = some w → w.isLeaf = true → puts x (.leaf x (some k)) ps = withStepss x k ps
  | [], w, nd, h, hl => by simp [finds] at h
  | (i, v) :: ps, w, nd, h, hl => by
    simp only [namess, List.nodup_append] at nd
    simp only [finds] at h
    simp only [puts, withStepss]
    cases z : find v x with
    | some y =>
      rw [z] at h
      cases h
      have k1 := find_mem v z
      have hx : x ∉ namess ps := fun q => nd.2.2 _ (mem_names k1.1) _ q k1.2
      rw [put_ws v nd.1 z hl, puts_not ps hx, wss_not ps hx]
    | none =>
      rw [z] at h
      have hx : x ∉ v.names := fun q => find_none z q
      rw [put_not v hx, ws_not v hx, puts_ws ps nd.2.1 h hl]
end
end
end Pl
theorem isRow_lot {r : Bool} {n : Str} {ps : List (Int × Pl)} : (Pl.lot r n ps).isRow = r := by cases r <;> rfl
theorem kL_one {p w : Pl} {x : Str} (nd : p.names.Nodup) (h : w ∈ p.all) (hx : w.name = x) (hl : w.isLeaf = false) : Pl.kL x p.all = 1 := by
  have nd2 : (p.all.map Pl.name).Nodup := by rw [all_names]; exact nd
  have key : ∀ l : List Pl, (l.map Pl.name).Nodup → (l.filter (Pl.isL x)).length ≤ 1 := fun l => by
    induction l with
    | nil => intro _; simp
    | cons a l ih =>
      intro nd
      rw [List.map_cons, List.nodup_cons] at nd
      rw [List.filter_cons]
      split
      · rename_i c
        have ha : a.name = x := by
          simp only [Pl.isL, Bool.and_eq_true, decide_eq_true_eq] at c
          exact c.2
        have : l.filter (Pl.isL x) = [] := List.filter_eq_nil_iff.mpr fun b hb c2 => by
          simp only [Pl.isL, Bool.and_eq_true, decide_eq_true_eq] at c2
          exact nd.1 (List.mem_map.mpr ⟨b, hb, c2.2.trans ha.symm⟩)
        rw [this]
        simp
      · exact ih nd.2
  have h1 : 1 ≤ Pl.kL x p.all := by
    have : w ∈ p.all.filter (Pl.isL x) := List.mem_filter.mpr ⟨h, by simp [Pl.isL, hl, hx]⟩
    exact List.length_pos_of_mem this
  have h2 : Pl.kL x p.all ≤ 1 := key _ nd2
  omega
namespace Pl
section
variable {x : Str} {wt : Int} {lf : Pl}
mutual
theorem wl_fit (hw : 1 ≤ wt ∧ wt ≤ 100) (hlf : lf.Fit) : ∀ (p : Pl) {w : Pl}, p.names.Nodup → p.find x = some w → w.isLeaf = false → w.parts.length ≤ 5 → p.Fit → (withLeaf x wt lf p).Fit
  | .leaf n s, w, nd, h, hl, h5, hf => by simp only [withLeaf]; exact hf
  | .lot r n ps, w, nd, h, hl, h5, hf => by
    simp only [names, List.nodup_cons] at nd
    simp only [find] at h
    simp only [withLeaf]
    by_cases e : decide (n = x) = true
    · rw [if_pos e] at h ⊢
      cases h
      have hx : x ∉ namess ps := by rw [← of_decide_eq_true e]; exact nd.1
      rw [wls_not ps hx]
      have h5' : ps.length ≤ 5 := h5
      have ha := hf.1
      refine ⟨?_, ?_⟩
      · unfold arePartsB at ha ⊢
        rw [Bool.and_eq_true] at ha ⊢
        refine ⟨?_, ?_⟩
        · rw [decide_eq_true_eq, List.length_append, List.length_singleton]
          omega
        · rw [List.all_append, Bool.and_eq_true]
          refine ⟨ha.2, ?_⟩
          simp [isNum, hw]
      · rw [fits_mem]
        intro q hq
        rcases List.mem_append.mp hq with hq | hq
        · exact fits_mem.mp hf.2 q hq
        · rw [List.mem_singleton] at hq
          rw [hq]
          exact hlf
    · rw [if_neg e] at h ⊢
      refine ⟨?_, wls_fit hw hlf ps nd.2 h hl h5 hf.2⟩
      have ha := hf.1
      unfold arePartsB at ha ⊢
      rw [withLeafs_map, List.length_map, List.all_map]
      exact ha
theorem wls_fit (hw : 1 ≤ wt ∧ wt ≤ 100) (hlf : lf.Fit) : ∀ (ps : List (Int × Pl)) {w : Pl}, (namess ps).Nodup → finds ps x = some w → w.isLeaf = false → w.parts.length ≤ 5 → Fits ps → Fits (withLeafs x wt lf ps)
  | [], w, nd, h, hl, h5, hf => by simp [withLeafs, Fits]
  | (i, v) :: ps, w, nd, h, hl, h5, hf => by
    simp only [namess, List.nodup_append] at nd
    simp only [finds] at h
    simp only [withLeafs]
    cases z : find v x with
    | some y =>
      rw [z] at h
      cases h
      have k1 := find_mem v z
      have hx : x ∉ namess ps := fun q => nd.2.2 _ (mem_names k1.1) _ q k1.2
      rw [wls_not ps hx]
      exact ⟨wl_fit hw hlf v nd.1 z hl h5 hf.1, hf.2⟩
    | none =>
      rw [z] at h
      have hx : x ∉ v.names := fun q => find_none z q
      rw [wl_not v hx]
      exact ⟨hf.1, wls_fit hw hlf ps nd.2.1 h hl h5 hf.2⟩
end
end
end Pl
theorem wl_ok {p w : Pl} {x ln : Str} {wt : Int} {st : Option Int} (hp : PlanOk p) (h : p.find x = some w) (hl : w.isLeaf = false) (h6 : w.parts.length ≠ 6) (hln : ln ∉ p.names) (hw : 1 ≤ wt ∧ wt ≤ 100) (hn : NameOk ln) (hst : StOk st)
    (hc : (Pl.withLeaf x wt (.leaf ln st) p).names.length ≤ 20) (hd : (Pl.withLeaf x wt (.leaf ln st) p).depth ≤ 5) : PlanOk (Pl.withLeaf x wt (.leaf ln st) p) := by
  obtain ⟨m, hx⟩ := find_mem p h
  have k1 := kL_one hp.nodup m hx hl
  have hf6 := fit_few (fit_all hp.fit m)
  have cnt := Pl.wl_cnt (x := x) (wt := wt) (ln := ln) (st := st) p
  refine ⟨Pl.wl_fit (lf := .leaf ln st) hw (show (Pl.leaf ln st).Fit from hst) p hp.nodup h hl (by omega) hp.fit, fun n hm => ?_, ?_, hc, hd⟩
  · have z : 0 < (Pl.withLeaf x wt (.leaf ln st) p).names.count n := List.count_pos_iff.mpr hm
    rw [cnt] at z
    by_cases e : ln = n
    · subst e; exact hn
    · rw [if_neg e] at z
      exact hp.names n (List.count_pos_iff.mp (by omega))
  · rw [List.nodup_iff_count]
    intro n
    rw [cnt]
    have z := List.nodup_iff_count.mp hp.nodup n
    by_cases e : ln = n
    · subst e
      have : p.names.count ln = 0 := List.count_eq_zero.mpr hln
      rw [if_pos rfl]
      omega
    · rw [if_neg e]
      omega
/-- what the law takes, the package takes -/
theorem tookL_some {p q : Pl} {d d' : List (Str × Int)} {t : Tel} (c : CsOk p d) (to : TelOk t) (hn : t.isFound = true → NameOk t.leaf) (h : tookL p d t = (some q, d')) : Took p d t q d' := by
  unfold tookL at h
  cases hf : p.find t.name with
  | none => rw [hf] at h; cases h
  | some w =>
    rw [hf] at h
    obtain ⟨m, hx⟩ := find_mem p hf
    cases t with
    | again n =>
      cases h
      exact .again hf
    | found e wt ln st =>
      dsimp only at h
      split at h
      · cases h
      · rename_i c1
        split at h
        · rename_i c2
          cases h
          simp only [Bool.or_eq_true, not_or, decide_eq_true_eq, Bool.not_eq_true] at c1
          obtain ⟨hl, h6, hln⟩ := c1
          have hx' : w.name = e := hx
          have hf' : p.find e = some w := hf
          have e3 := Pl.put_wl (x := e) (wt := wt) (lf := .leaf ln st) p c.plan.nodup hf' hl
          rw [hx'] at e3
          rw [hx', e3] at c2 ⊢
          simp only [Bool.and_eq_true, decide_eq_true_eq] at c2
          have hnum := to.num rfl
          have hnum2 : isNum wt 1 100 = true := hnum
          simp only [isNum, Bool.and_eq_true, decide_eq_true_eq] at hnum2
          exact .found hf' hl (wl_ok c.plan hf' hl (by omega) hln hnum2 (hn rfl) (to.leaf rfl).2 (by omega) (by omega))
        · cases h
    | knows n k =>
      dsimp only at h
      split at h
      · rename_i hl
        split at h
        · rename_i c2
          cases h
          simp only [Bool.and_eq_true, decide_eq_true_eq] at c2
          have hx' : w.name = n := hx
          have hf' : p.find n = some w := hf
          rw [hx', Pl.put_ws p c.plan.nodup hf' hl]
          exact .knows hf' hl (by simpa using c2.1) (by rw [← hx']; exact c2.2)
        · cases h
      · cases h
    | did n k =>
      dsimp only at h
      split at h
      · rename_i hl
        split at h
        · cases h
        · rename_i c2
          cases h
          have hx' : w.name = n := hx
          have hf' : p.find n = some w := hf
          rw [hx'] at c2 ⊢
          refine .did hf' hl fun s hs => ?_
          rw [hs] at c2
          simpa using c2
      · cases h
theorem tookL_none {p : Pl} {d d' : List (Str × Int)} {t : Tel} (h : tookL p d t = (none, d')) : d' = d := by
  unfold tookL at h
  cases hf : p.find t.name with
  | none => rw [hf] at h; cases h; rfl
  | some w =>
    rw [hf] at h
    cases t with
    | again n => cases h
    | found e wt ln st =>
      dsimp only at h
      split at h
      · cases h; rfl
      · split at h
        · cases h
        · cases h; rfl
    | knows n k =>
      dsimp only at h
      split at h
      · split at h
        · cases h
        · cases h; rfl
      · cases h; rfl
    | did n k =>
      dsimp only at h
      split at h
      · split at h
        · cases h; rfl
        · cases h
      · cases h; rfl
end Hf

namespace Hf
open PySem PySem.Spec PyProof.Rows L2 ClX
theorem dp_works {K : PySem.W.Frag} {G : Hp} : ∀ {vs : List V} {l : List Pl}, All2 (rPl K) G vs l → DpAll K G vs (l.map pdPl)
  | _, _, .nil => .nil
  | _, _, .cons (a := w) h t => .cons (dp_pl w _ h) (dp_works t)
theorem eqv_works {K : PySem.W.Frag} {l : List Pl} (h : ∀ w ∈ l, w.Ok) (hd : ∀ w ∈ l, w.depth ≤ 6) : Eqv K (rLst (rPl K)) l (.list (l.map pdPl)) := ⟨fun G v ⟨p, vs, e, k, a⟩ => by
  subst e
  exact .lst (.inl (.inl k)) (dp_works a), by
  have z : ∀ l : List Pl, (∀ w ∈ l, w.Ok) → PyData.canLayAll0 (l.map pdPl) = true := fun l => by
    induction l with
    | nil => intro _; rfl
    | cons a l ih =>
      intro h
      have h1 := (pdPl_lay a (h a List.mem_cons_self)).1
      simp [PyData.canLayAll0, ih (fun w m => h w (List.mem_cons_of_mem _ m)), h1]
  have d : ∀ l : List Pl, (∀ w ∈ l, w.Ok) → (∀ w ∈ l, w.depth ≤ 6) → PyData.depthAll (l.map pdPl) ≤ 40 := fun l => by
    induction l with
    | nil => intro _ _; simp [PyData.depthAll]
    | cons a l ih =>
      intro h hd
      have h1 := (pdPl_lay a (h a List.mem_cons_self)).2
      have h2 := hd a List.mem_cons_self
      have h3 := ih (fun w m => h w (List.mem_cons_of_mem _ m)) (fun w m => hd w (List.mem_cons_of_mem _ m))
      simp only [List.map_cons, PyData.depthAll]
      omega
  unfold SeqAt.shaped
  have := d l h hd
  simp only [PyData.canLay0, z l h, PyData.depth, Bool.true_and]
  exact decide_eq_true (by omega)⟩
theorem works_nil {l : List Pl} : PyData.eqv (.list (l.map pdPl)) (.list []) = l.isEmpty := by
  cases l <;> simp [PyData.eqv, PyData.eqvAll]
theorem find_filter {p : Pl} (nd : p.names.Nodup) (x : Str) : (p.all.filter fun q : Pl => decide (q.name = x)).map (fun q : Pl => q) = (p.find x).toList := by
  rw [List.map_id']
  cases h : p.find x with
  | none =>
    have hx := Pl.find_none h
    exact List.filter_eq_nil_iff.mpr fun w hw c => hx (by rw [← of_decide_eq_true c]; exact mem_names hw)
  | some w =>
    obtain ⟨m, e⟩ := find_mem p h
    have nd2 : (p.all.map Pl.name).Nodup := by rw [all_names]; exact nd
    have key : ∀ l : List Pl, (l.map Pl.name).Nodup → w ∈ l → l.filter (fun q : Pl => decide (q.name = x)) = [w] := fun l => by
      induction l with
      | nil => intro _ h; simp at h
      | cons a l ih =>
        intro nd hw
        rw [List.map_cons, List.nodup_cons] at nd
        rcases List.mem_cons.mp hw with e2 | hw
        · subst e2
          rw [List.filter_cons, if_pos (decide_eq_true e)]
          have : l.filter (fun q : Pl => decide (q.name = x)) = [] := List.filter_eq_nil_iff.mpr fun b hb c => nd.1 (List.mem_map.mpr ⟨b, hb, (of_decide_eq_true c).trans e.symm⟩)
          rw [this]
        · rw [List.filter_cons, if_neg (by
            intro c
            exact nd.1 (List.mem_map.mpr ⟨w, hw, e.trans (of_decide_eq_true c).symm⟩))]
          exact ih nd.2 hw
    exact key _ nd2 m
theorem plan_oks {p : Pl} (h : PlanOk p) : ∀ w ∈ p.all, w.Ok ∧ w.depth ≤ 6 := fun w hw => by
  have h2 := plan_sub h hw
  exact ⟨all_ok fun n hn => (h2.names n hn).2.2, Nat.le_trans h2.deep (by decide)⟩
theorem put_fit {x : Str} {m : Pl} (hm : m.Fit) : ∀ (p : Pl), p.Fit → (Pl.put x m p).Fit := fun p => by
  have key : ∀ (k : Nat) (p : Pl), p.depth ≤ k → p.Fit → (Pl.put x m p).Fit := fun k => by
    induction k with
    | zero => intro p h; have := Pl.depth_pos p; omega
    | succ k ih =>
      intro p hd hf
      by_cases c : decide (p.name = x) = true
      · rw [put_here c]; exact hm
      · have c' := (Bool.not_eq_true _).mp c
        cases hl : p.isLeaf with
        | true => rw [put_leaf c' hl]; exact hf
        | false =>
          rw [put_lot c' hl]
          obtain ⟨r, n, ps, rfl⟩ := lot_of hl
          refine ⟨?_, ?_⟩
          · have ha := hf.1
            unfold arePartsB at ha ⊢
            rw [List.length_map, List.all_map]
            exact ha
          · rw [Pl.fits_mem]
            intro q hq
            obtain ⟨q0, hq0, rfl⟩ := List.mem_map.mp hq
            exact ih q0.2 (by have := Pl.part_depth (w := .lot r n ps) hq0; omega) (fit_part (w := .lot r n ps) hf hq0)
  exact fun h => key p.depth p (Nat.le_refl _) h
theorem lot_fit {w : Pl} {wt : Int} {lf : Pl} (hf : w.Fit) (hl : w.isLeaf = false) (h6 : (w.parts.length : Int) ≠ 6) (hw : 1 ≤ wt ∧ wt ≤ 100) (hlf : lf.Fit) : (Pl.lot w.isRow w.name (w.parts ++ [(wt, lf)])).Fit := by
  have few := fit_few hf
  obtain ⟨r, n, ps, rfl⟩ := lot_of hl
  have h6' : (ps.length : Int) ≠ 6 := h6
  have few' : ps.length ≤ 6 := few
  have ha := hf.1
  refine ⟨?_, ?_⟩
  · show arePartsB (ps ++ [(wt, lf)]) = true
    unfold arePartsB at ha ⊢
    rw [Bool.and_eq_true] at ha ⊢
    refine ⟨?_, ?_⟩
    · rw [decide_eq_true_eq, List.length_append, List.length_singleton]
      omega
    · rw [List.all_append, Bool.and_eq_true]
      exact ⟨ha.2, by simp [isNum, hw]⟩
  · show Pl.Fits (ps ++ [(wt, lf)])
    rw [Pl.fits_mem]
    intro q hq
    rcases List.mem_append.mp hq with hq | hq
    · exact Pl.fits_mem.mp hf.2 q hq
    · rw [List.mem_singleton] at hq
      rw [hq]
      exact hlf
/-- with a leaf more: names, depth -/
theorem wl_size {p w : Pl} {x ln : Str} {wt : Int} {st : Option Int} (hp : PlanOk p) (h : p.find x = some w) (hl : w.isLeaf = false) : (Pl.withLeaf x wt (.leaf ln st) p).names.length ≤ 1000 ∧ (Pl.withLeaf x wt (.leaf ln st) p).depth ≤ 6 := by
  have key : ∀ (k : Nat) (p : Pl), p.depth ≤ k → (Pl.withLeaf x wt (.leaf ln st) p).depth ≤ p.depth + 1 ∧ (Pl.withLeaf x wt (.leaf ln st) p).names.length ≤ 2 * p.names.length := fun k => by
    induction k with
    | zero => intro p h; have := Pl.depth_pos p; omega
    | succ k ih =>
      intro p hd
      cases p with
      | leaf n s => simp only [Pl.withLeaf, Pl.names, List.length_singleton]; omega
      | lot r n ps =>
        have hs : ∀ l : List (Int × Pl), (∀ q ∈ l, q.2.depth ≤ k) → Pl.depths (Pl.withLeafs x wt (.leaf ln st) l) ≤ Pl.depths l + 1 ∧ (Pl.namess (Pl.withLeafs x wt (.leaf ln st) l)).length ≤ 2 * (Pl.namess l).length := fun l => by
          induction l with
          | nil => intro _; simp [Pl.withLeafs, Pl.depths, Pl.namess]
          | cons q l ihl =>
            intro hq
            obtain ⟨i, v⟩ := q
            have a := ih v (hq (i, v) List.mem_cons_self)
            have b := ihl fun q hm => hq q (List.mem_cons_of_mem _ hm)
            simp only [Pl.withLeafs, Pl.depths, Pl.namess, List.length_append]
            omega
        have b := hs ps fun q hq => by have := Pl.part_depth (w := .lot r n ps) hq; omega
        have dapp : ∀ (a b : List (Int × Pl)), Pl.depths (a ++ b) = max (Pl.depths a) (Pl.depths b) := fun a b => by
          induction a with
          | nil => simp [Pl.depths]
          | cons q a ih2 =>
            obtain ⟨i, v⟩ := q
            simp only [List.cons_append, Pl.depths, ih2]
            omega
        simp only [Pl.withLeaf, Pl.depth, Pl.names, List.length_cons]
        split
        · rw [dapp, Pl.namess_app, List.length_append]
          simp only [Pl.depths, Pl.depth, Pl.namess, Pl.names, List.append_nil, List.length_singleton]
          omega
        · omega
  have z := key p.depth p (Nat.le_refl _)
  have := hp.count
  have := hp.deep
  omega
end Hf

namespace Hf
open PySem PySem.Spec PyProof.Rows L2 ClX
/-! ### a telling, drawn -/
def cut (c : Int) (k : Nat) : Int := (numbersL c [8, 20, 9, 12, 8, 20]).getD k 0
theorem cut_at (c : Int) : numbersL c [8, 20, 9, 12, 8, 20] = [restOf c % 8, restOf c / 8 % 20, restOf c / 8 / 20 % 9, restOf c / 8 / 20 / 9 % 12, restOf c / 8 / 20 / 9 / 12 % 8, restOf c / 8 / 20 / 9 / 12 / 8 % 20] := rfl
theorem cut_len (c : Int) : (numbersL c [8, 20, 9, 12, 8, 20]).length = 6 := rfl
theorem cut_in (c : Int) : (0 ≤ cut c 0 ∧ cut c 0 < 8) ∧ (0 ≤ cut c 1 ∧ cut c 1 < 20) ∧ (0 ≤ cut c 2 ∧ cut c 2 < 9) ∧ (0 ≤ cut c 3 ∧ cut c 3 < 12) ∧ (0 ≤ cut c 4 ∧ cut c 4 < 8) ∧ (0 ≤ cut c 5 ∧ cut c 5 < 20) := by
  have m : ∀ (i n : Int), 0 < n → 0 ≤ i % n ∧ i % n < n := fun i n h => ⟨Int.emod_nonneg _ (by omega), Int.emod_lt_of_pos _ h⟩
  exact ⟨m _ _ (by decide), m _ _ (by decide), m _ _ (by decide), m _ _ (by decide), m _ _ (by decide), m _ _ (by decide)⟩
def pick (l : List Pl) (k : Int) (p : Pl) : Pl := l.getD (k % (l.length : Int)).toNat p
def unkL (p : Pl) : List Pl := (p.leaves.filter fun q : Pl => q.steps.isNone).map fun q : Pl => q
def lotsL (p : Pl) : List Pl := (p.all.filter fun q : Pl => !q.isLeaf).map fun q : Pl => q
def leafL (p : Pl) (c : Int) : Pl := pick p.leaves (cut c 1) p
def sizeL (l : Pl) : Int := if (!l.steps.isNone) = true then l.steps.getD 0 else 9
def nameL (p : Pl) (c : Int) : Str := if (!(unkL p).isEmpty) = true then (pick (unkL p) (cut c 5) p).name else (leafL p c).name
def elderL (p : Pl) (c : Int) : Pl := if (!(lotsL p).isEmpty) = true then pick (lotsL p) (cut c 1) p else pick p.all (cut c 1) p
def stepsL : List (Option Int) := [none, some 1, some 2, some 3, some 5, some 7, some 12, some 40]
def restL (p : Pl) (d : List (Str × Int)) (c : Int) : Int := if decide (6 < cut c 2) = true then sizeL (leafL p c) - dg d (leafL p c).name else min (sizeL (leafL p c) - dg d (leafL p c).name) (1 + cut c 2)
def tellL (p : Pl) (d : List (Str × Int)) (c : Int) : Tel :=
  if decide (cut c 0 < 4) = true then .did (leafL p c).name (max 1 (restL p d c))
  else if decide (cut c 0 = 4) = true then .knows (nameL p c) (max 1 (min 1000 (dg d (nameL p c) + cut c 3)))
  else if decide (cut c 0 < 7) = true then .found (elderL p c).name (1 + cut c 2) (namesL.getD (cut c 5).toNat Str.empty) (stepsL.getD (cut c 4).toNat none)
  else .again (pick p.all (cut c 1) p).name
theorem pick_in {l : List Pl} {k : Int} {p : Pl} (h : l ≠ []) (h0 : 0 ≤ k) : pick l k p ∈ l ∧ 0 ≤ k % (l.length : Int) ∧ k % (l.length : Int) < (l.length : Int) := by
  have hl : 0 < l.length := List.length_pos_iff.mpr h
  have a := Int.emod_nonneg k (b := (l.length : Int)) (by omega)
  have b := Int.emod_lt_of_pos k (b := (l.length : Int)) (by omega)
  refine ⟨?_, a, b⟩
  unfold pick
  rw [List.getD_eq_getElem?_getD, List.getElem?_eq_getElem (by omega)]
  exact List.getElem_mem _
theorem leaves_ne : ∀ {p : Pl}, p.Fit → p.leaves ≠ [] := fun {p} => by
  have key : ∀ (k : Nat) (p : Pl), p.depth ≤ k → p.Fit → p.leaves ≠ [] := fun k => by
    induction k with
    | zero => intro p h; have := Pl.depth_pos p; omega
    | succ k ih =>
      intro p hd hf
      cases hl : p.isLeaf with
      | true => rw [leaves_leaf hl]; simp
      | false =>
        rw [leaves_eq p hl]
        have ne := fit_ne hf hl
        cases e : p.parts with
        | nil => exact absurd e ne
        | cons q ps =>
          obtain ⟨i, v⟩ := q
          have mm : (i, v) ∈ p.parts := by rw [e]; exact List.mem_cons_self
          have hv := Pl.part_depth mm
          have z := ih v (by simp only at hv; omega) (fit_part hf mm)
          simp only [Pl.leavess]
          intro w
          exact z (List.append_eq_nil_iff.mp w).1
  exact fun h => key p.depth p (Nat.le_refl _) h
theorem all_ne (p : Pl) : p.all ≠ [] := by rw [Pl.all_eq]; simp
theorem steps_leaf {w : Pl} (h : PlanOk w) {i : Int} (e : w.steps = some i) : 1 ≤ i ∧ i ≤ 1000 := by
  have z := h.steps i e
  simp only [isNum, Bool.and_eq_true, decide_eq_true_eq] at z
  exact z
theorem unk_sub {p : Pl} : ∀ w ∈ unkL p, w ∈ p.leaves := fun w h => by
  unfold unkL at h
  rw [List.map_id'] at h
  exact (List.mem_filter.mp h).1
theorem lots_sub {p : Pl} : ∀ w ∈ lotsL p, w ∈ p.all := fun w h => by
  unfold lotsL at h
  rw [List.map_id'] at h
  exact (List.mem_filter.mp h).1
theorem tell_ok {p : Pl} {d : List (Str × Int)} (c : Int) (h : CsOk p d) : TelOk (tellL p d c) ∧ ((tellL p d c).isFound = true → NameOk (tellL p d c).leaf) := by
  obtain ⟨b0, b1, b2, b3, b4, b5⟩ := cut_in c
  have nm : ∀ w ∈ p.all, isNameB w.name = true ∧ w.name.length ≤ 1000 := fun w hw => by
    have z := (plan_sub h.plan hw).name
    exact ⟨z.1, z.2.1⟩
  have la : ∀ w ∈ p.leaves, w ∈ p.all := fun w hw => (leaves_sub p).subset hw
  have lf := (pick_in (p := p) (leaves_ne h.plan.fit) b1.1).1
  have al := (pick_in (p := p) (all_ne p) b1.1).1
  unfold tellL
  split
  · refine ⟨⟨nm _ (la _ lf), fun _ => ?_, fun z => by simp [Tel.isFound] at z⟩, fun z => by simp [Tel.isFound] at z⟩
    show isNum (max 1 _) 1 1000 = true
    have hp := h.pos (leafL p c).name
    have hs : sizeL (leafL p c) ≤ 1000 := by
      unfold sizeL
      split
      · rename_i q
        cases e : (leafL p c).steps with
        | none => rw [e] at q; simp at q
        | some i => exact (steps_leaf (plan_sub h.plan (la _ lf)) e).2
      · omega
    have hr : restL p d c ≤ 1000 := by
      unfold restL
      split <;> omega
    show isNum (max 1 (restL p d c)) 1 1000 = true
    simp only [isNum, Bool.and_eq_true, decide_eq_true_eq]
    omega
  · split
    · have hn : isNameB (nameL p c) = true ∧ (nameL p c).length ≤ 1000 := by
        unfold nameL
        split
        · rename_i q
          have z := (pick_in (l := unkL p) (k := cut c 5) (p := p) (by intro e; rw [e] at q; simp at q) b5.1).1
          exact nm _ (la _ (unk_sub _ z))
        · exact nm _ (la _ lf)
      refine ⟨⟨hn, fun _ => ?_, fun z => by simp [Tel.isFound] at z⟩, fun z => by simp [Tel.isFound] at z⟩
      show isNum (max 1 (min 1000 _)) 1 1000 = true
      simp only [isNum, Bool.and_eq_true, decide_eq_true_eq]
      omega
    · split
      · have he : isNameB (elderL p c).name = true ∧ (elderL p c).name.length ≤ 1000 := by
          unfold elderL
          split
          · rename_i q
            have z := (pick_in (l := lotsL p) (k := cut c 1) (p := p) (by intro e; rw [e] at q; simp at q) b1.1).1
            exact nm _ (lots_sub _ z)
          · exact nm _ al
        have hl : NameOk (namesL.getD (cut c 5).toNat Str.empty) := by
          refine namesL_ok _ ?_
          have l20 : namesL.length = 20 := by decide
          rw [List.getD_eq_getElem?_getD, List.getElem?_eq_getElem (by omega)]
          exact List.getElem_mem _
        have hst : StOk (stepsL.getD (cut c 4).toNat none) := by
          have key : ∀ k : Fin 8, ∀ i, stepsL.getD k none = some i → isNum i 1 1000 = true := by
            intro k
            match k with
            | 0 => intro i e; cases e
            | 1 => intro i e; cases e; decide
            | 2 => intro i e; cases e; decide
            | 3 => intro i e; cases e; decide
            | 4 => intro i e; cases e; decide
            | 5 => intro i e; cases e; decide
            | 6 => intro i e; cases e; decide
            | 7 => intro i e; cases e; decide
          exact key ⟨(cut c 4).toNat, by omega⟩
        refine ⟨⟨he, fun _ => ?_, fun _ => ⟨⟨hl.1, hl.2.1⟩, hst⟩⟩, fun _ => hl⟩
        show isNum (1 + cut c 2) 1 100 = true
        simp only [isNum, Bool.and_eq_true, decide_eq_true_eq]
        omega
      · exact ⟨⟨nm _ al, fun z => by simp [Tel.isAgain] at z, fun z => by simp [Tel.isFound] at z⟩, fun z => by simp [Tel.isFound] at z⟩
theorem ev_ifE_eq {X : Cx} {Γ : List Slot} {e f g : Expr} {pos : Pos} {α : Type} {r : Rp α} {x x' y : α} {p : Bool} (q : (if p = true then x else x') = y) (h : EvT X Γ e p) (h1 : p = true → Ev X Γ f r x) (h2 : p = false → Ev X Γ g r x') : Ev X Γ (.IfExp e f g pos) r y := Ev.eq (ev_ifE h h1 h2) q
end Hf

namespace Hf
open PySem PySem.Spec PyProof.Rows L2 ClX
/-! ### a run, drawn -/
def stepR (s : Pl × List (Str × Int) × List Tel) (c : Int) : Pl × List (Str × Int) × List Tel :=
  match (tookL s.1 s.2.1 (tellL s.1 s.2.1 c)).1 with
  | some q => (q, (tookL s.1 s.2.1 (tellL s.1 s.2.1 c)).2, s.2.2 ++ [tellL s.1 s.2.1 c])
  | none => (s.1, (tookL s.1 s.2.1 (tellL s.1 s.2.1 c)).2, s.2.2)
def runS (p : Pl) (cs : List Int) : Pl × List (Str × Int) × List Tel := cs.foldl stepR (p, [], [])
/-- what holds of a run that is drawn -/
structure Drawn (p : Pl) (n : Nat) (s : Pl × List (Str × Int) × List Tel) : Prop where
  co : CsOk s.1 s.2.1
  plan : (runC p s.2.2).plan = s.1
  did : (runC p s.2.2).did = s.2.1
  can : ∀ i t, s.2.2[i]? = some t → TelOk t ∧ Can (runC p (s.2.2.take i)).plan (runC p (s.2.2.take i)).did t
  len : s.2.1.length ≤ 20 * n
  few : s.2.2.length ≤ n
theorem drawn_0 {p : Pl} (h : PlanOk p) : Drawn p 0 (p, [], []) := by
  have z := (cs_ok (ts := []) h (fun i t e => by simp at e) 0 (Nat.le_refl _)).1
  exact ⟨z, rfl, rfl, fun i t e => by simp at e, by simp, by simp⟩
theorem drawn_step {p : Pl} {n : Nat} {s : Pl × List (Str × Int) × List Tel} (h : Drawn p n s) (c : Int) : Drawn p (n + 1) (stepR s c) := by
  obtain ⟨to, hn⟩ := tell_ok c h.co
  unfold stepR
  cases e : tookL s.1 s.2.1 (tellL s.1 s.2.1 c) with
  | mk a b =>
    cases a with
    | none =>
      have e2 := tookL_none e
      dsimp only
      rw [e2]
      exact ⟨h.co, h.plan, h.did, h.can, by have := h.len; show s.2.1.length ≤ _; omega, by have := h.few; show s.2.2.length ≤ _; omega⟩
    | some q =>
      dsimp only
      have tk := tookL_some h.co to hn e
      obtain ⟨cn, ea⟩ := tk.can
      have co2 := Took.ok h.co to tk
      have hl := Took.len tk h.co.plan (fun n w z => (find_mem _ z).1)
      have er : runC p (s.2.2 ++ [tellL s.1 s.2.1 c]) = stepC (runC p s.2.2) (tellL s.1 s.2.1 c) := by
        unfold runC
        rw [List.foldl_append]
        rfl
      have e3 : after (runC p s.2.2).plan (runC p s.2.2).did (tellL s.1 s.2.1 c) = (q, b) := by rw [h.plan, h.did]; exact ea
      refine ⟨co2, ?_, ?_, fun i t ht => ?_, by have := h.len; show b.length ≤ _; omega, by have := h.few; simp only [List.length_append, List.length_singleton]; omega⟩
      · show (runC p (s.2.2 ++ [tellL s.1 s.2.1 c])).plan = q
        rw [er]
        show (after _ _ _).1 = q
        rw [e3]
      · show (runC p (s.2.2 ++ [tellL s.1 s.2.1 c])).did = b
        rw [er]
        show (after _ _ _).2 = b
        rw [e3]
      · have ht' : (s.2.2 ++ [tellL s.1 s.2.1 c])[i]? = some t := ht
        show TelOk t ∧ Can (runC p ((s.2.2 ++ [tellL s.1 s.2.1 c]).take i)).plan (runC p ((s.2.2 ++ [tellL s.1 s.2.1 c]).take i)).did t
        by_cases lt : i < s.2.2.length
        · rw [List.getElem?_append_left lt] at ht'
          rw [List.take_append_of_le_length (by omega)]
          exact h.can i t ht'
        · rw [List.getElem?_append_right (by omega)] at ht'
          have hi : i = s.2.2.length := by
            cases z : i - s.2.2.length with
            | zero => omega
            | succ k => rw [z] at ht'; simp at ht'
          subst hi
          rw [Nat.sub_self] at ht'
          simp only [List.getElem?_cons_zero, Option.some.injEq] at ht'
          subst ht'
          rw [List.take_left']
          · rw [h.plan, h.did]
            exact ⟨to, cn⟩
          · rfl
theorem drawn_run {p : Pl} (h : PlanOk p) (cs : List Int) : ∀ i, i ≤ cs.length → Drawn p i (runS p (cs.take i)) := fun i => by
  induction i with
  | zero => intro _; exact drawn_0 h
  | succ i ih =>
    intro hi
    obtain ⟨c, hc⟩ : ∃ c, cs[i]? = some c := ⟨_, List.getElem?_eq_getElem (by omega)⟩
    have e : runS p (cs.take (i + 1)) = stepR (runS p (cs.take i)) c := by
      unfold runS
      rw [List.take_add_one, hc, List.foldl_append]
      rfl
    rw [e]
    exact drawn_step (ih (by omega)) c
end Hf

namespace Hf
open PySem PySem.Spec PyProof.Rows L2 ClX
/-! ### the plan and what was done, at first and behind each telling -/
def standsL (p : Pl) (ts : List Tel) : List (Pl × List (Str × Int)) := (List.range (ts.length + 1)).map fun i => ((runC p (ts.take i)).plan, (runC p (ts.take i)).did)
theorem stands_snoc {p : Pl} {ts : List Tel} {i : Nat} {t : Tel} (h : ts[i]? = some t) : standsL p (ts.take (i + 1)) = standsL p (ts.take i) ++ [((runC p (ts.take (i + 1))).plan, (runC p (ts.take (i + 1))).did)] := by
  have lt := (List.getElem?_eq_some_iff.mp h).1
  have l1 : (ts.take (i + 1)).length = i + 1 := by rw [List.length_take]; omega
  have l0 : (ts.take i).length = i := by rw [List.length_take]; omega
  unfold standsL
  rw [l1, l0, List.range_succ, List.map_append]
  congr 1
  · refine List.map_congr_left fun j hj => ?_
    have := List.mem_range.mp hj
    rw [take_take' (by omega), take_take' (by omega)]
  · show [((runC p ((ts.take (i + 1)).take (i + 1))).plan, (runC p ((ts.take (i + 1)).take (i + 1))).did)] = _
    rw [take_take' (Nat.le_refl _)]
/-- a value that isn't None, seen as itself -/
theorem holds_unopt {E : Ent} {G H : Hp} {σ : L2.St} {Γ : List Slot} {α : Type} {r : Rp α} {x : α} (i : Nat) (hg : Γ[i]? = some (.sh (rOpt r) (some x))) (h : Holds E G H σ Γ) : Holds E G H σ (Γ.set i (.sh r x)) := by
  refine ⟨h.le, h.fl, by rw [List.length_set]; exact h.len, fun j s e => ?_, fun j1 j2 s t e1 e2 o1 o2 z => ?_⟩
  · rcases get_set e with ⟨rfl, rfl⟩ | ⟨n, e⟩
    · obtain ⟨v, h1, h2⟩ := h.sh hg
      exact ⟨v, h1, h2⟩
    · exact h.ok j s e
  · rcases get_set e1 with ⟨rfl, rfl⟩ | ⟨n1, e1⟩
    · cases o1
    · rcases get_set e2 with ⟨rfl, rfl⟩ | ⟨n2, e2⟩
      · cases o2
      · exact h.sep j1 j2 s t e1 e2 o1 o2 z
end Hf

namespace Hf
open PySem PySem.Spec PyProof.Rows L2 ClX
/-! ### the worth of each work, by the law's reckoning -/
namespace Pl
mutual
def worthsD : Pl → Rat → List (Str × Rat) → List (Str × Rat)
  | .leaf n _, x, d => dPut d n x
  | .lot _ n ps, x, d => worthsDs ((ps.map fun q => q.1).sum) ps x (dPut d n x)
def worthsDs : Int → List (Int × Pl) → Rat → List (Str × Rat) → List (Str × Rat)
  | _, [], _, d => d
  | W, (i, w) :: ps, x, d => worthsDs W ps x (worthsD w (x * qd i W) d)
end
theorem find_isN : ∀ (w : Pl) (n : Str), (!(w.find n).isNone) = decide (n ∈ w.names) := fun w n => by
  cases h : w.find n with
  | none =>
    have := find_none h
    simp [this]
  | some z =>
    obtain ⟨m, e⟩ := find_mem w h
    have : n ∈ w.names := e ▸ mem_names m
    simp [this]
mutual
theorem worthsD_get : ∀ (p : Pl) (x : Rat) (d : List (Str × Rat)) (n : Str), p.names.Nodup → dGet (worthsD p x d) n = if n ∈ p.names then some (x * p.worth n) else dGet d n
  | .leaf a s, x, d, n, nd => by
    simp only [worthsD, names, List.mem_singleton, worth, dGet_put]
    by_cases e : a = n
    · rw [if_pos e, if_pos e.symm]
      grind
    · rw [if_neg e, if_neg (fun z => e z.symm)]
  | .lot r a ps, x, d, n, nd => by
    simp only [names, List.nodup_cons] at nd
    simp only [worthsD, names, List.mem_cons, worth]
    rw [worthsDs_get ps ((ps.map fun q => q.1).sum) x (dPut d a x) n nd.2]
    by_cases e : a = n
    · subst e
      rw [if_neg nd.1, if_pos (.inl rfl), if_pos (decide_eq_true rfl), dGet_put, if_pos rfl]
      grind
    · have e2 : ¬ n = a := fun z => e z.symm
      rw [dGet_put, if_neg e, if_neg (show ¬ decide (a = n) = true by simpa using e)]
      by_cases m : n ∈ namess ps
      · rw [if_pos m, if_pos (.inr m)]
      · rw [if_neg m, if_neg (by simp [e2, m])]
theorem worthsDs_get : ∀ (ps : List (Int × Pl)) (W : Int) (x : Rat) (d : List (Str × Rat)) (n : Str), (namess ps).Nodup → dGet (worthsDs W ps x d) n = if n ∈ namess ps then some (x * worths W ps n) else dGet d n
  | [], W, x, d, n, nd => by simp [worthsDs, namess]
  | (i, w) :: ps, W, x, d, n, nd => by
    simp only [namess, List.nodup_append] at nd
    simp only [worthsDs, namess, List.mem_append, worths]
    rw [worthsDs_get ps W x _ n nd.2.1, worthsD_get w _ d n nd.1, find_isN]
    by_cases m1 : n ∈ w.names
    · have m2 : n ∉ namess ps := fun z => nd.2.2 _ m1 _ z rfl
      rw [if_neg m2, if_pos m1, if_pos (.inl m1), if_pos (decide_eq_true m1)]
      grind
    · rw [if_neg m1, if_neg (show ¬ decide (n ∈ w.names) = true by simpa using m1)]
      by_cases m2 : n ∈ namess ps
      · rw [if_pos m2, if_pos (.inr m2)]
      · rw [if_neg m2, if_neg (by simp [m1, m2])]
end
mutual
theorem worthsD_len : ∀ (p : Pl) (x : Rat) (d : List (Str × Rat)), (worthsD p x d).length ≤ d.length + p.names.length
  | .leaf a s, x, d => by
    have := dPut_len (a := x) (k := a) (ds := d)
    simp only [worthsD, names, List.length_singleton]
    exact this
  | .lot r a ps, x, d => by
    have h1 := dPut_len (a := x) (k := a) (ds := d)
    have h2 := worthsDs_len ps ((ps.map fun q => q.1).sum) x (dPut d a x)
    simp only [worthsD, names, List.length_cons]
    omega
theorem worthsDs_len : ∀ (ps : List (Int × Pl)) (W : Int) (x : Rat) (d : List (Str × Rat)), (worthsDs W ps x d).length ≤ d.length + (namess ps).length
  | [], W, x, d => by simp [worthsDs, namess]
  | (i, w) :: ps, W, x, d => by
    have h1 := worthsD_len w (x * qd i W) d
    have h2 := worthsDs_len ps W x (worthsD w (x * qd i W) d)
    simp only [worthsDs, namess, List.length_append]
    omega
end
theorem worthsDs_fold {W : Int} {x : Rat} : ∀ (ps : List (Int × Pl)) (d : List (Str × Rat)), worthsDs W ps x d = ps.foldl (fun (d : List (Str × Rat)) (q : Int × Pl) => worthsD q.2 (x * qd q.1 W) d) d
  | [], d => by simp [worthsDs]
  | (i, w) :: ps, d => by
    simp only [worthsDs, List.foldl_cons]
    exact worthsDs_fold ps _
end Pl
theorem worthsD_lot {p : Pl} {x : Rat} {d : List (Str × Rat)} (h : p.isLeaf = false) : p.worthsD x d = p.parts.foldl (fun (d : List (Str × Rat)) (q : Int × Pl) => Pl.worthsD q.2 (x * qd q.1 p.weights) d) (dPut d p.name x) := by
  cases p with
  | leaf n s => simp [Pl.isLeaf] at h
  | lot r n ps =>
    simp only [Pl.worthsD]
    exact Pl.worthsDs_fold ps _
theorem worthsD_leaf {p : Pl} {x : Rat} {d : List (Str × Rat)} (h : p.isLeaf = true) : p.worthsD x d = dPut d p.name x := by
  cases p with
  | leaf n s => simp only [Pl.worthsD]; rfl
  | lot r n ps => simp [Pl.isLeaf] at h
theorem mul_qd {x : Rat} {i W : Int} (h : 0 < W) : x * qd i W = qd (x.num * i) ((x.den : Int) * W) := by
  refine qd_eq (Int.mul_pos (den_pos x) h) ?_
  have hW : (W : Rat) ≠ 0 := by
    have : (0 : Rat) < (W : Rat) := by exact_mod_cast h
    grind
  have e := q_mul x
  unfold qd
  push_cast
  rw [e]
  push_cast
  grind
end Hf

namespace Hf
open PySem PySem.Spec PyProof.Rows L2 ClX
/-! ### worths within one another -/
theorem worths_at {W : Int} {n : Str} {q : Int × Pl} : ∀ {ps : List (Int × Pl)}, (Pl.namess ps).Nodup → q ∈ ps → n ∈ q.2.names → Pl.worths W ps n = qd q.1 W * q.2.worth n
  | (i, w) :: ps, nd, h, hn => by
    simp only [Pl.namess, List.nodup_append] at nd
    simp only [Pl.worths]
    rcases List.mem_cons.mp h with rfl | h
    · rw [Pl.find_isN, if_pos (decide_eq_true hn)]
    · have hn2 : n ∈ Pl.namess ps := by rw [Pl.namess_eq]; exact List.mem_flatMap.mpr ⟨q, h, hn⟩
      have : n ∉ w.names := fun z => nd.2.2 _ z _ hn2 rfl
      rw [Pl.find_isN, if_neg (by simpa using this)]
      exact worths_at nd.2.1 h hn
theorem worth_part {p : Pl} {q : Int × Pl} {n : Str} (nd : p.names.Nodup) (h : q ∈ p.parts) (hn : n ∈ q.2.names) : p.worth n = qd q.1 p.weights * q.2.worth n := by
  rw [Pl.names_eq, List.nodup_cons] at nd
  have hn2 : n ∈ Pl.namess p.parts := by rw [Pl.namess_eq]; exact List.mem_flatMap.mpr ⟨q, h, hn⟩
  rw [worth_eq, if_neg (by
    intro c
    rw [of_decide_eq_true c] at nd
    exact nd.1 hn2)]
  exact worths_at nd.2 h hn
theorem worth_self (p : Pl) : p.worth p.name = 1 := by rw [worth_eq, if_pos (decide_eq_true rfl)]
theorem worth_in {p z : Pl} (nd : p.names.Nodup) (h : z ∈ p.all) {n : Str} (hn : n ∈ z.names) : p.worth n = p.worth z.name * z.worth n := by
  have key : ∀ (k : Nat) (p : Pl), p.depth ≤ k → p.names.Nodup → ∀ z ∈ p.all, n ∈ z.names → p.worth n = p.worth z.name * z.worth n := fun k => by
    induction k with
    | zero => intro p h; have := Pl.depth_pos p; omega
    | succ k ih =>
      intro p hd nd z hz hn
      rw [Pl.all_eq, Pl.alls_eq] at hz
      rcases List.mem_cons.mp hz with rfl | hz
      · rw [worth_self]; grind
      · obtain ⟨q, hq, hz⟩ := List.mem_flatMap.mp hz
        have nq : q.2.names.Nodup := nd.sublist (names_sub hq)
        have e := ih q.2 (by have := Pl.part_depth hq; omega) nq z hz hn
        have hz2 : z.name ∈ q.2.names := mem_names hz
        have hn2 : n ∈ q.2.names := by
          rw [← all_names] at hn ⊢
          obtain ⟨y, hy, e⟩ := List.mem_map.mp hn
          exact List.mem_map.mpr ⟨y, all_all hz hy, e⟩
        rw [worth_part nd hq hn2, worth_part nd hq hz2, e]
        grind
  exact key p.depth p (Nat.le_refl _) nd z h hn
theorem foldl_sum {α : Type} {f : α → Rat} : ∀ (l : List α) (a : Rat), l.foldl (fun (a : Rat) (x : α) => a + f x) a = a + (l.map f).sum
  | [], a => by simp only [List.foldl_nil, List.map_nil, List.sum_nil]; grind
  | x :: l, a => by
    rw [List.foldl_cons, foldl_sum l, List.map_cons, List.sum_cons]
    grind
theorem sum_mul {α : Type} {f : α → Rat} {c : Rat} : ∀ (l : List α), (l.map fun x => c * f x).sum = c * (l.map f).sum
  | [] => by simp only [List.map_nil, List.sum_nil]; grind
  | x :: l => by
    rw [List.map_cons, List.sum_cons, List.map_cons, List.sum_cons, sum_mul l]
    grind
theorem sum_qd {W : Int} (hW : (W : Rat) ≠ 0) : ∀ (l : List (Int × Pl)), (l.map fun q : Int × Pl => qd q.1 W).sum = (((l.map fun q : Int × Pl => q.1).sum : Int) : Rat) / (W : Rat)
  | [] => by simp only [List.map_nil, List.sum_nil]; rw [Rat.div_def]; grind
  | x :: l => by
    rw [List.map_cons, List.sum_cons, List.map_cons, List.sum_cons, sum_qd hW l]
    unfold qd
    push_cast
    grind
/-- the parts of each come together to their elder's -/
theorem parts_worth {p z : Pl} (nd : p.names.Nodup) (hf : p.Fit) (h : z ∈ p.all) (hl : z.isLeaf = false) : (z.parts.map fun q : Int × Pl => p.worth q.2.name).sum = p.worth z.name := by
  have hz := fit_all hf h
  have nz : z.names.Nodup := nd.sublist (by
    have key : ∀ (k : Nat) (p : Pl), p.depth ≤ k → ∀ z ∈ p.all, List.Sublist z.names p.names := fun k => by
      induction k with
      | zero => intro p h; have := Pl.depth_pos p; omega
      | succ k ih =>
        intro p hd z hz
        rw [Pl.all_eq, Pl.alls_eq] at hz
        rcases List.mem_cons.mp hz with rfl | hz
        · exact List.Sublist.refl _
        · obtain ⟨q, hq, hz⟩ := List.mem_flatMap.mp hz
          exact (ih q.2 (by have := Pl.part_depth hq; omega) z hz).trans (names_sub hq)
    exact key p.depth p (Nat.le_refl _) z h)
  have e : (z.parts.map fun q : Int × Pl => p.worth q.2.name) = z.parts.map fun q : Int × Pl => p.worth z.name * qd q.1 z.weights := List.map_congr_left fun q hq => by
    have m : q.2.name ∈ q.2.names := by rw [Pl.names_eq]; exact List.mem_cons_self
    have m2 : q.2.name ∈ z.names := (names_sub hq).subset m
    rw [worth_in nd h m2, worth_part nz hq m, worth_self]
    grind
  have w := weights_lim hz hl
  have hW : ((z.weights : Int) : Rat) ≠ 0 := by
    have : (0 : Rat) < (z.weights : Rat) := by exact_mod_cast (show 0 < z.weights by omega)
    grind
  rw [e, sum_mul, sum_qd hW]
  show p.worth z.name * ((z.weights : Rat) / (z.weights : Rat)) = _
  grind
theorem sum_app {l m : List Rat} : (l ++ m).sum = l.sum + m.sum := by
  induction l with
  | nil => simp only [List.nil_append, List.sum_nil]; grind
  | cons a l ih => rw [List.cons_append, List.sum_cons, List.sum_cons, ih]; grind
/-- how far it is: how far each leaf is, times its worth -/
theorem far_worth {d : List (Str × Int)} : ∀ {p : Pl}, p.names.Nodup → (p.leaves.map fun l : Pl => l.far d * p.worth l.name).sum = p.far d := fun {p} => by
  have key : ∀ (k : Nat) (p : Pl), p.depth ≤ k → p.names.Nodup → (p.leaves.map fun l : Pl => l.far d * p.worth l.name).sum = p.far d := fun k => by
    induction k with
    | zero => intro p h; have := Pl.depth_pos p; omega
    | succ k ih =>
      intro p hd nd
      cases hl : p.isLeaf with
      | true =>
        rw [leaves_leaf hl, List.map_cons, List.map_nil, List.sum_cons, List.sum_nil, worth_self]
        grind
      | false =>
        rw [leaves_eq p hl]
        have hs : ∀ (l : List (Int × Pl)), (∀ q ∈ l, q ∈ p.parts) → ((Pl.leavess l).map fun z : Pl => z.far d * p.worth z.name).sum = Pl.fars p.weights l d := fun l => by
          induction l with
          | nil => intro _; simp only [Pl.leavess, Pl.fars, List.map_nil, List.sum_nil]
          | cons q l ihl =>
            intro hq
            obtain ⟨i, v⟩ := q
            have mm := hq (i, v) List.mem_cons_self
            have hv := Pl.part_depth mm
            have e := ih v (by simp only at hv; omega) (nd.sublist (names_sub mm))
            simp only [Pl.leavess, Pl.fars]
            rw [List.map_append, sum_app, ihl fun q hm => hq q (List.mem_cons_of_mem _ hm), ← e]
            have e2 : (v.leaves.map fun z : Pl => z.far d * p.worth z.name) = v.leaves.map fun z : Pl => qd i p.weights * (z.far d * v.worth z.name) := List.map_congr_left fun z hz => by
              have m : z.name ∈ v.names := mem_names ((leaves_sub v).subset hz)
              rw [worth_part nd mm m]
              grind
            rw [e2, sum_mul]
            rfl
        rw [hs p.parts fun q hq => hq]
        obtain ⟨r, n, ps, rfl⟩ := lot_of hl
        simp only [Pl.far]
        rfl
  exact key p.depth p (Nat.le_refl _)
end Hf

namespace Hf
open PySem PySem.Spec PyProof.Rows L2 ClX
/-! ### a list of tellings that == reads -/
def pdTel : Tel → PyData
  | .did n k => .tuple [.str "did", .str n, .int k]
  | .knows n k => .tuple [.str "knows", .str n, .int k]
  | .found e w n s => .tuple [.str "found", .str e, .int w, .str n, pdOpt s]
  | .again n => .tuple [.str "again", .str n]
def TelLay (t : Tel) : Prop := NOk t.name ∧ (t.isFound = true → NOk t.leaf)
theorem dp_tel {K : PySem.W.Frag} {G : Hp} {v : V} {t : Tel} (h : (rTel K).rel G v t) : Dp K G v (pdTel t) := by
  obtain ⟨p, rfl, h⟩ := h
  cases t with
  | did n k => exact .tup h (.cons (.str _) (.cons (.str _) (.cons (.int _) .nil)))
  | knows n k => exact .tup h (.cons (.str _) (.cons (.str _) (.cons (.int _) .nil)))
  | again n => exact .tup h (.cons (.str _) (.cons (.str _) .nil))
  | found e w n s =>
    refine .tup h (.cons (.str _) (.cons (.str _) (.cons (.int _) (.cons (.str _) (.cons ?_ .nil)))))
    cases s with
    | none => exact .non
    | some i => exact .int i
theorem dp_tels {K : PySem.W.Frag} {G : Hp} : ∀ {vs : List V} {l : List Tel}, All2 (rTel K) G vs l → DpAll K G vs (l.map pdTel)
  | _, _, .nil => .nil
  | _, _, .cons h t => .cons (dp_tel h) (dp_tels t)
theorem pdTel_lay {t : Tel} (h : TelLay t) : PyData.canLay0 (pdTel t) = true ∧ PyData.depth (pdTel t) ≤ 4 := by
  have k1 : PyData.strOk "did" = true := by decide +kernel
  have k2 : PyData.strOk "knows" = true := by decide +kernel
  have k3 : PyData.strOk "found" = true := by decide +kernel
  have k4 : PyData.strOk "again" = true := by decide +kernel
  cases t with
  | did n k =>
    have hn : PyData.strOk n = true := h.1
    simp [pdTel, PyData.canLay0, PyData.canLayAll0, PyData.depth, PyData.depthAll, k1, hn]
  | knows n k =>
    have hn : PyData.strOk n = true := h.1
    simp [pdTel, PyData.canLay0, PyData.canLayAll0, PyData.depth, PyData.depthAll, k2, hn]
  | again n =>
    have hn : PyData.strOk n = true := h.1
    simp [pdTel, PyData.canLay0, PyData.canLayAll0, PyData.depth, PyData.depthAll, k4, hn]
  | found e w n s =>
    have hn : PyData.strOk e = true := h.1
    have hl : PyData.strOk n = true := h.2 rfl
    cases s <;> simp [pdTel, pdOpt, PyData.canLay0, PyData.canLayAll0, PyData.depth, PyData.depthAll, k3, hn, hl]
theorem eqv_tels {K : PySem.W.Frag} {l : List Tel} (h : ∀ t ∈ l, TelLay t) : Eqv K (rLst (rTel K)) l (.list (l.map pdTel)) := ⟨fun G v ⟨p, vs, e, k, a⟩ => by
  subst e
  exact .lst (.inl (.inl k)) (dp_tels a), by
  have z : ∀ l : List Tel, (∀ t ∈ l, TelLay t) → PyData.canLayAll0 (l.map pdTel) = true ∧ PyData.depthAll (l.map pdTel) ≤ 6 := fun l => by
    induction l with
    | nil => intro _; simp [PyData.canLayAll0, PyData.depthAll]
    | cons a l ih =>
      intro h
      have h1 := pdTel_lay (h a List.mem_cons_self)
      have h2 := ih fun t m => h t (List.mem_cons_of_mem _ m)
      refine ⟨by simp [PyData.canLayAll0, h1.1, h2.1], ?_⟩
      simp only [List.map_cons, PyData.depthAll]
      omega
  obtain ⟨h1, h2⟩ := z l h
  unfold SeqAt.shaped
  simp only [PyData.canLay0, h1, PyData.depth, Bool.true_and]
  exact decide_eq_true (by omega)⟩
theorem tels_nil {l : List Tel} : PyData.eqv (.list (l.map pdTel)) (.list []) = l.isEmpty := by
  cases l <;> simp [PyData.eqv, PyData.eqvAll]
end Hf

namespace Hf
open PySem PySem.Spec PyProof.Rows L2 ClX
/-! ### sums that are reckoned one behind another; fractions that == reads -/
theorem lim_add {m n : Nat} {p q : Rat} (h : Lim m p) (k : Lim n q) : Lim (m + n + 1) (p + q) := by
  rw [plus_q]
  have a1 : (p.num * (q.den : Int)).natAbs < 2 ^ (m + n) := by
    rw [Int.natAbs_mul, Nat.pow_add]
    exact Nat.mul_lt_mul'' h.1 (by simpa using k.2)
  have a2 : (q.num * (p.den : Int)).natAbs < 2 ^ (m + n) := by
    rw [Int.natAbs_mul, Nat.pow_add, Nat.mul_comm (2 ^ m)]
    exact Nat.mul_lt_mul'' k.1 (by simpa using h.2)
  have a3 : ((p.den : Int) * (q.den : Int)).natAbs < 2 ^ (m + n) := by
    rw [Int.natAbs_mul, Nat.pow_add]
    exact Nat.mul_lt_mul'' (by simpa using h.2) (by simpa using k.2)
  have e : (2 : Nat) ^ (m + n + 1) = 2 * 2 ^ (m + n) := by rw [Nat.pow_succ]; omega
  refine lim_qd (Int.mul_pos (den_pos p) (den_pos q)) ?_ ?_
  · rw [e]
    have := Int.natAbs_add_le (p.num * (q.den : Int)) (q.num * (p.den : Int))
    omega
  · rw [e]; omega
theorem eqv_q {K : PySem.W.Frag} {q : Rat} : Eqv K (rQ K) q (pdPair (cn q)) := ⟨fun G v h => (eqv_pair (K := K) (a := cn q)).dp G v h, (eqv_pair (K := K) (a := cn q)).sh⟩
theorem q_eqv {p q : Rat} : PyData.eqv (pdPair (cn p)) (pdPair (cn q)) = decide (p = q) := by
  rw [pdPair_eqv]
  exact decide_eq_decide.mpr ⟨cn_inj, fun e => by rw [e]⟩
theorem stands_last {p : Pl} {ts : List Tel} {d : Pl × List (Str × Int)} : (standsL p ts).getLastD d = ((runC p ts).plan, (runC p ts).did) := by
  unfold standsL
  rw [List.range_succ, List.map_append, List.map_singleton, List.take_length]
  simp
theorem stands_ne {p : Pl} {ts : List Tel} : standsL p ts ≠ [] := by
  unfold standsL
  rw [List.range_succ]
  simp
theorem fold_lim {α : Type} {f : α → Rat} {k : Nat} {l : List α} (h : ∀ x ∈ l, Lim k (f x)) : ∀ i, Lim (1 + (k + 1) * i) ((l.take i).foldl (fun (a : Rat) (x : α) => a + f x) 0) := fun i => by
  induction i with
  | zero => rw [List.take_zero]; exact lim0.mono (by omega)
  | succ i ih =>
    cases e : l[i]? with
    | none =>
      have : l.take (i + 1) = l.take i := by rw [List.take_add_one, e]; simp
      rw [this]
      exact ih.mono (by rw [Nat.mul_add]; omega)
    | some x =>
      rw [List.take_add_one, e, List.foldl_append]
      exact (lim_add ih (h x (List.mem_of_getElem? e))).mono (by rw [Nat.mul_add]; omega)
end Hf

namespace Hf
open PySem PySem.Spec PyProof.Rows L2 ClX
/-! ### what the law got -/
def gotL (p : Pl) (l : List Pl) : List (Str × Rat) := l.foldl (fun (d : List (Str × Rat)) (w : Pl) => dPut d w.name (p.worth w.name)) []
theorem got_fold {p : Pl} {n : Str} : ∀ (l : List Pl) (d : List (Str × Rat)), dGet (l.foldl (fun (d : List (Str × Rat)) (w : Pl) => dPut d w.name (p.worth w.name)) d) n = if n ∈ l.map Pl.name then some (p.worth n) else dGet d n
  | [], d => by simp
  | w :: l, d => by
    rw [List.foldl_cons, got_fold l, dGet_put, List.map_cons]
    by_cases m : n ∈ l.map Pl.name
    · rw [if_pos m, if_pos (List.mem_cons_of_mem _ m)]
    · rw [if_neg m]
      by_cases e : w.name = n
      · rw [if_pos e, if_pos (by rw [e]; exact List.mem_cons_self), e]
      · rw [if_neg e, if_neg (by simp only [List.mem_cons, not_or]; exact ⟨fun z => e z.symm, m⟩)]
theorem got_all {p : Pl} {n : Str} (h : n ∈ p.names) : dGet (gotL p p.all) n = some (p.worth n) := by
  unfold gotL
  rw [got_fold, if_pos (by rw [all_names]; exact h)]
theorem got_len (p : Pl) : ∀ (l : List Pl) (d : List (Str × Rat)), (l.foldl (fun (d : List (Str × Rat)) (w : Pl) => dPut d w.name (p.worth w.name)) d).length ≤ d.length + l.length
  | [], d => by simp
  | w :: l, d => by
    have a := got_len p l (dPut d w.name (p.worth w.name))
    have b := dPut_len (a := p.worth w.name) (k := w.name) (ds := d)
    rw [List.foldl_cons, List.length_cons]
    omega
theorem due_all {p : Pl} {n : Str} (nd : p.names.Nodup) (h : n ∈ p.names) : dGet (p.worthsD 1 []) n = some (p.worth n) := by
  rw [Pl.worthsD_get p 1 [] n nd, if_pos h]
  congr 1
  grind
end Hf

namespace Hf
open PySem PySem.Spec PyProof.Rows L2 ClX
/-! ### what the package takes, the law takes -/
theorem finds_in {x : Str} {w : Pl} : ∀ {ps : List (Int × Pl)}, Pl.finds ps x = some w → ∃ q ∈ ps, q.2.find x = some w
  | [], h => by simp [Pl.finds] at h
  | (i, v) :: ps, h => by
    simp only [Pl.finds] at h
    cases z : v.find x with
    | some y =>
      rw [z] at h
      cases h
      exact ⟨(i, v), List.mem_cons_self, z⟩
    | none =>
      rw [z] at h
      obtain ⟨q, hq, e⟩ := finds_in h
      exact ⟨q, List.mem_cons_of_mem _ hq, e⟩
theorem put_mem {x : Str} {m : Pl} : ∀ {p w : Pl}, p.find x = some w → m ∈ (Pl.put x m p).all := fun {p w} => by
  have key : ∀ (k : Nat) (p : Pl), p.depth ≤ k → p.find x = some w → m ∈ (Pl.put x m p).all := fun k => by
    induction k with
    | zero => intro p h; have := Pl.depth_pos p; omega
    | succ k ih =>
      intro p hd hf
      by_cases c : decide (p.name = x) = true
      · rw [put_here c, Pl.all_eq]
        exact List.mem_cons_self
      · have c' := (Bool.not_eq_true _).mp c
        rw [find_eq, if_neg c] at hf
        obtain ⟨q, hq, e⟩ := finds_in hf
        have hl : p.isLeaf = false := by
          cases p with
          | leaf n s => simp [Pl.parts] at hq
          | lot r n ps => rfl
        have z := ih q.2 (by have := Pl.part_depth hq; omega) e
        rw [put_lot c' hl, Pl.all_eq, Pl.alls_eq]
        refine List.mem_cons_of_mem _ (List.mem_flatMap.mpr ⟨(q.1, Pl.put x m q.2), List.mem_map.mpr ⟨q, hq, rfl⟩, z⟩)
  exact fun h => key p.depth p (Nat.le_refl _) h
theorem can_took {p : Pl} {d : List (Str × Int)} {t : Tel} (c : CsOk p d) (h : Can p d t) : tookL p d t = (some (after p d t).1, (after p d t).2) := by
  obtain ⟨w, hf⟩ := h.find
  obtain ⟨hwm, hwx⟩ := find_mem p hf
  cases t with
  | again n =>
    have hf' : p.find n = some w := hf
    unfold tookL
    simp only [Tel.name, hf', after]
  | found e wt ln st =>
    have hf' : p.find e = some w := hf
    have hwx' : w.name = e := hwx
    obtain ⟨hl, ok, haf⟩ := h.found rfl hf
    have ok' : PlanOk (Pl.withLeaf e wt (.leaf ln st) p) := ok
    have e3 := Pl.put_wl (x := e) (wt := wt) (lf := .leaf ln st) p c.plan.nodup hf' hl
    have hm := put_mem (m := .lot w.isRow w.name (w.parts ++ [(wt, .leaf ln st)])) hf'
    rw [e3] at hm
    have h6 := fit_few (fit_all ok'.fit hm)
    have h6' : (w.parts ++ [(wt, Pl.leaf ln st)]).length ≤ 6 := h6
    rw [List.length_append, List.length_singleton] at h6'
    have k1 := kL_one c.plan.nodup hwm hwx' hl
    have cnt := Pl.wl_cnt (x := e) (wt := wt) (ln := ln) (st := st) p ln
    have nd := List.nodup_iff_count.mp ok'.nodup ln
    rw [if_pos rfl, k1] at cnt
    have hln : ln ∉ p.names := List.count_eq_zero.mp (by omega)
    have h1 := ok'.count
    have h2 := ok'.deep
    unfold tookL
    simp only [Tel.name, hf']
    rw [if_neg (by
      simp only [Bool.or_eq_true, not_or, decide_eq_true_eq, Bool.not_eq_true]
      exact ⟨hl, by omega, hln⟩), hwx']
    rw [hwx'] at e3
    rw [e3, if_pos (by
      simp only [Bool.and_eq_true, decide_eq_true_eq]
      exact ⟨by omega, by omega⟩)]
    rfl
  | knows n k =>
    have hf' : p.find n = some w := hf
    have hwx' : w.name = n := hwx
    obtain ⟨hl, hk, _⟩ := h.leafy rfl rfl hf
    obtain ⟨hs, hd, _⟩ := hk rfl
    have hd' : dg d n ≤ k := hd
    unfold tookL
    simp only [Tel.name, hf']
    rw [if_pos hl, if_pos (by rw [hs, hwx']; simpa using hd'), hwx', Pl.put_ws p c.plan.nodup hf' hl]
    rfl
  | did n k =>
    have hf' : p.find n = some w := hf
    have hwx' : w.name = n := hwx
    obtain ⟨hl, _, hk⟩ := h.leafy rfl rfl hf
    obtain ⟨hs, _⟩ := hk rfl
    have hs' : ∀ s, w.steps = some s → dg d n + k ≤ s := hs
    unfold tookL
    simp only [Tel.name, hf']
    rw [if_pos hl, if_neg (by
      rw [hwx']
      cases z : w.steps with
      | none => simp
      | some s =>
        have := hs' s z
        simp
        omega), hwx']
    rfl
theorem run_took {p : Pl} {ts : List Tel} (h : RunOk p ts) : ∀ i t, ts[i]? = some t → tookL (runC p (ts.take i)).plan (runC p (ts.take i)).did t = (some (runC p (ts.take (i + 1))).plan, (runC p (ts.take (i + 1))).did) := fun i t e => by
  have lt := (List.getElem?_eq_some_iff.mp e).1
  rw [runC_next e]
  exact can_took (cs_ok h.plan h.can i (by omega)).1 (h.can i t e).2
theorem run_lay {p : Pl} {ts : List Tel} (h : RunOk p ts) : ∀ t ∈ ts, TelLay t := fun t m => by
  obtain ⟨i, lt, e⟩ := List.mem_iff_getElem.mp m
  have e' : ts[i]? = some t := by rw [List.getElem?_eq_getElem lt, e]
  obtain ⟨to, c⟩ := h.can i t e'
  have co := (cs_ok h.plan h.can i (by omega)).1
  obtain ⟨w, hf⟩ := c.find
  obtain ⟨hwm, hwx⟩ := find_mem _ hf
  refine ⟨?_, fun ht => ?_⟩
  · have z := mem_names hwm
    rw [hwx] at z
    exact (co.plan.names _ z).2.2
  · obtain ⟨hl, ok, _⟩ := c.found ht hf
    have k1 := kL_one co.plan.nodup hwm hwx hl
    have cnt := Pl.wl_cnt (x := t.name) (wt := t.num) (ln := t.leaf) (st := t.last) (runC p (ts.take i)).plan t.leaf
    rw [if_pos rfl, k1] at cnt
    exact (ok.names t.leaf (List.count_pos_iff.mp (by omega))).2.2
theorem run_drawn {p : Pl} {cs : List Int} (hp : PlanOk p) (hl : cs.length ≤ 20) : RunOk p (runS p cs).2.2 := by
  have dr := drawn_run hp cs cs.length (Nat.le_refl _)
  rw [List.take_length] at dr
  exact runOk_few hp dr.can (by have := dr.few; omega)
end Hf

namespace Hf
open PySem PySem.Spec PyProof.Rows L2 ClX
/-! ### an answer told by what was frozen at the entry; a new list inside it -/
theorem nw_mono {G0 G1 : Hp} {α : Type} {r : Rp α} (e : Ex G0 G1) {G : Hp} {v : V} {as : List α} (h : (rNw G1 r).rel G v as) : (rNw G0 r).rel G v as := by
  obtain ⟨p, vs, h1, h0, h2, h3⟩ := h
  exact ⟨p, vs, h1, Evl.fresh_back e h0, h2, h3⟩
theorem nw_lst {G1 : Hp} {α : Type} {r : Rp α} {G : Hp} {v : V} {as : List α} (h : (rNw G1 r).rel G v as) : (rLst r).rel G v as := by
  obtain ⟨p, vs, h1, h0, h2, h3⟩ := h
  exact ⟨p, vs, h1, h2, h3⟩
theorem t3_imp {K : PySem.W.Frag} {α β γ : Type} {r r' : Rp α} {s s' : Rp β} {t t' : Rp γ} {a : α × β × γ} {G : Hp} {v : V} (h1 : ∀ v, r.rel G v a.1 → r'.rel G v a.1) (h2 : ∀ v, s.rel G v a.2.1 → s'.rel G v a.2.1) (h3 : ∀ v, t.rel G v a.2.2 → t'.rel G v a.2.2) (h : (rT3 K r s t).rel G v a) : (rT3 K r' s' t').rel G v a := by
  obtain ⟨p, x, y, z, e, hp, k1, k2, k3⟩ := h
  exact ⟨p, x, y, z, e, hp, h1 _ k1, h2 _ k2, h3 _ k3⟩
theorem RetOk.imp {E : Ent} {D : Ends} {α β : Type} {r : Rp α} {x : α} {s : Rp β} {y : β} (h : RetOk E D r x) (k : ∀ G v, s.rel G v y → r.rel G v x) : RetOk E D s y := fun v G H l rv => h v G H l (k G v rv)
def PSpG {ι : Type} (Pre : ι → Prop) (args : ι → List Ty) {α : Type} (r : Hp → Rp α) (res : ι → α) : Sp := fun vs H Q _ => ∃ (x : ι) (G : Hp), Pre x ∧ Ex G H ∧ Args G vs (args x) ∧ ∀ v G' H', Le G H G' H' → (r G).rel G' v (res x) → Q v H'
theorem psp_of {ι α : Type} {Pre : ι → Prop} {args : ι → List Ty} {r : Hp → Rp α} {s : Rp α} {res : ι → α} (h : ∀ G G' v x, (r G).rel G' v (res x) → s.rel G' v (res x)) : ∀ vs H Q, PSp Pre args s res vs H Q E0 → PSpG Pre args r res vs H Q E0 := fun vs H Q ⟨x, G, hp, e, a, k⟩ => ⟨x, G, hp, e, a, fun v G' H' l rv => k v G' H' l (h _ _ _ _ rv)⟩
theorem Has.sub {P : Program} {w : World} {K : PySem.W.Frag} {mg : Str → Option Value} {base : Heap} {x : Str} {k : Nat} {sp sp' : Sp} (h : Has P w K mg base x k sp) (hs : ∀ vs H Q, sp' vs H Q E0 → sp vs H Q E0) : Has P w K mg base x k sp' := by
  obtain ⟨f, fd, ps, spF, dvs, ds, hm, hk, hb, hv, F, hi⟩ := h.ex
  exact ⟨f, fd, ps, spF, dvs, ds, hm, hk, hb, hv, F, fun vs H Q z => hi vs H Q (hs vs H Q z)⟩
section
variable {P : Program} {w : World} {K : PySem.W.Frag} {mg : Str → Option Value} {base : Heap} {x qual : Str} {params : Arguments} {body : List Stmt} {scope : Scope} {dvs : List V} {kws : List (Str × V)} {f : Addr} {fd : FuncData}
theorem fn_pureG {N ps : List Str} {k : Nat} {ι : Type} {Pre : ι → Prop} {args : ι → List Ty} {α : Type} {r : Hp → Rp α} {res : ι → α} (F : FunD K x qual params body scope dvs kws f fd) (S : FnScope N ps scope) (hl : ∀ y, (args y).length = ps.length)
    (hb : ∀ (y : ι), Pre y → ∀ (cdv : Value) (A : Around) (outer : List Env) (s : Shared) (H : Hp) (E0 : XK) (G : Hp) (D : Ends), Room k (A.deeper (envOfC qual scope s.heap.objs.size f cdv)) → RetOk { G := G, H := H } D (r G) (res y) → (∀ σ G' H', LeE G H (fun _ => False) G' H' → (r G).rel G' .non (res y) → D.nx σ H') →
      Bk (cxOf (CXL P w) P w K mg base N qual scope f cdv A outer s H E0) { G := G, H := H } (slots0 (args y) (N.length - ps.length)) body D) :
    FnOk P w K mg base (CXL P w) (k + 1) f fd ps (PSpG Pre args r res) := by
  refine F.ok S (fun vs H Q E ⟨y, G, _, _, a, _⟩ => by rw [args_length a, hl]) fun cdv A outer s H vs Q E hr ⟨y, G, hp, e, a, hq⟩ => ⟨_, WB.pss, ?_⟩
  have h := holds_start (N := N) e a (by rw [hl]; have z := congrArg List.length S.pre; rw [List.length_take] at z; omega)
  rw [hl] at h
  exact hb y hp cdv A outer s H E G _ hr (fun v G' H' l rv => hq v G' H' (l.le fun _ z => z) rv) (fun σ G' H' l rv => hq _ G' H' (l.le fun _ z => z) rv) G H _ h
end
section
variable {X : Cx} {E : Ent} {Γ Γ' : List Slot} {D : Ends} {e f g o : Expr} {es : List Expr} {rest : List Stmt} {pos p p2 apos cpos : Pos} {α β γ ι : Type} {r : Rp α} {x : α} {s : Rp β} {y : β} {as : List α} {j k : Nat}
theorem Holds.reSh {E : Ent} {G H : Hp} {σ : L2.St} {Γ : List Slot} (i : Nat) (h : Holds E G H σ Γ) (hg : Γ[i]? = some (.sh r x)) (kk : ∀ v, σ[i]? = some (some v) → r.rel G v x → s.rel G v y) : Holds E G H σ (Γ.set i (.sh s y)) := by
  refine ⟨h.le, h.fl, by rw [List.length_set]; exact h.len, fun j u e => ?_, fun j1 j2 u t e1 e2 o1 o2 z => ?_⟩
  · rcases get_set e with ⟨rfl, rfl⟩ | ⟨n, e⟩
    · obtain ⟨v, h1, h2⟩ := h.sh hg
      exact ⟨v, h1, kk v h1 h2⟩
    · exact h.ok j u e
  · rcases get_set e1 with ⟨rfl, rfl⟩ | ⟨n1, e1⟩
    · cases o1
    · rcases get_set e2 with ⟨rfl, rfl⟩ | ⟨n2, e2⟩
      · cases o2
      · exact h.sep j1 j2 u t e1 e2 o1 o2 z
theorem Holds.reOw {E : Ent} {G H : Hp} {σ : L2.St} {Γ : List Slot} {c c' : Oc} {q : Option Addr} (i : Nat) (h : Holds E G H σ Γ) (hg : Γ[i]? = some (.ow c q)) (kk : ∀ p o, σ[i]? = some (some (.ref p)) → H p = some o → c.rel G o → c'.rel G o) : Holds E G H σ (Γ.set i (.ow c' q)) := by
  have ow : ∀ (j : Nat) (u : Slot), (Γ.set i (.ow c' q))[j]? = some u → u.isOw = true → ∃ u', Γ[j]? = some u' ∧ u'.isOw = true := fun j u e o => by
    rcases get_set e with ⟨rfl, rfl⟩ | ⟨n, e⟩
    · exact ⟨_, hg, rfl⟩
    · exact ⟨u, e, o⟩
  refine ⟨h.le, h.fl, by rw [List.length_set]; exact h.len, fun j u e => ?_, fun j1 j2 u t e1 e2 o1 o2 z => ?_⟩
  · rcases get_set e with ⟨rfl, rfl⟩ | ⟨n, e⟩
    · obtain ⟨p, o, h1, h2, h3, h4, h5⟩ := h.ow hg
      exact ⟨p, o, h1, h2, h3, h4, kk p o h1 h4 h5⟩
    · exact h.ok j u e
  · obtain ⟨u1, a1, b1⟩ := ow j1 u e1 o1
    obtain ⟨u2, a2, b2⟩ := ow j2 t e2 o2
    exact h.sep j1 j2 u1 u2 a1 a2 b1 b2 z
/-- one's own new list is frozen; that it is new is kept -/
theorem bk_freezeN (i : Nat) (hg : Γ[i]? = some (.ow (oLst r as))) (kk : Bk X E (Γ.set i (.sh (rNw E.G r) as)) rest D) : Bk X E Γ rest D := fun G H σ hh => by
  obtain ⟨p, o, h1, h2, h3, h4, vs, h5, h6⟩ := hh.ow hg
  have e0 : E.G p = none := Evl.fresh_back hh.le.g h2
  obtain ⟨G', h'⟩ := hh.freeze hg
  have lt : i < Γ.length := (List.getElem?_eq_some_iff.mp hg).1
  have h'' := h'.reSh (s := rNw E.G r) (y := as) i (r := rLst r) (x := as) (by rw [List.getElem?_set_self lt]) (fun v hv ⟨p', vs', e1, e2, e3⟩ => by
    rw [h1] at hv
    cases hv
    cases e1
    exact ⟨p, vs', rfl, e0, e2, e3⟩)
  rw [List.set_set] at h''
  exact kk G' H σ h''
/-- one's own list seen as one of any values -/
theorem bk_anyV (i : Nat) {q : Option Addr} (hg : Γ[i]? = some (.ow (oLst r as) q)) (kk : ∀ vs : List V, vs.length = as.length → Bk X E (Γ.set i (.ow (oLst rV vs) q)) rest D) : Bk X E Γ rest D := fun G H σ hh => by
  obtain ⟨p, o, h1, h2, h3, h4, vs, h5, h6⟩ := hh.ow hg
  have all : ∀ vs : List V, All2 rV G vs vs := fun vs => by
    induction vs with
    | nil => exact .nil
    | cons v l ih => exact .cons rfl ih
  refine kk vs h6.length G H σ (hh.reOw i hg fun p' o' a1 a2 _ => ?_)
  rw [h1] at a1
  cases a1
  rw [h4] at a2
  cases a2
  exact ⟨vs, h5, all vs⟩
theorem ev_nonV {pos : Pos} {j : Nat} : Ev X Γ (.Constant .none j pos) rV V.non := fun E G H σ hh Q q => ev_unit E G H σ hh Q fun v G' H' l rv => q v G' H' l (by
  have z : v = V.non := rv
  exact z)
/-- an expression that tells a list that is new -/
def EvNw (X : Cx) (Γ : List Slot) (e : Expr) (r : Rp α) (as : List α) : Prop := ∀ (E : Ent) (G H : Hp) (σ : L2.St), Holds E G H σ Γ → ∀ Q : VK, (∀ v G' H', Le G H G' H' → (rNw G r).rel G' v as → Q v H') → WE X e σ H Q
theorem EvNw.own (h : EvNw X Γ e r as) (th : ∀ a ∈ as, Thin r a) : EvO X Γ e (oLst r as) := fun E G H σ hh Q q => h E G H σ hh Q fun v G' H' l ⟨p, vs, h1, h0, h2, h3⟩ => by
  subst h1
  have hn : H p = none := l.new p _ h2 h0
  have gc : cutG G' p p = none := by unfold cutG; rw [if_pos rfl]
  have up : upd (cutG G' p) p (.lst vs) = G' := cutG_upd h2
  have ht : ∀ (vs' : List V) (as' : List α), (∀ a ∈ as', Thin r a) → All2 r G' vs' as' → All2 r (cutG G' p) vs' as' := fun vs' as' t a => by
    induction a with
    | nil => exact .nil
    | cons h k ih => exact .cons (t _ List.mem_cons_self (cutG G' p) p (.lst vs) _ trivial (by rw [up]; exact h)) (ih fun a m => t a (List.mem_cons_of_mem _ m))
  refine q p (.lst vs) (cutG G' p) H' hn ⟨fun a o z => ?_, l.h, fun a o z => ?_, fun a o z1 z2 => ?_⟩ gc (l.gh _ _ h2) ⟨vs, rfl, ht vs as th h3⟩
  · have ne : a ≠ p := fun w => by subst w; rw [h0] at z; cases z
    unfold cutG
    rw [if_neg ne]
    exact l.g a o z
  · unfold cutG at z
    split at z
    · cases z
    · exact l.gh a o z
  · unfold cutG at z1
    split at z1
    · cases z1
    · exact l.new a o z1 z2
theorem en_callB {fn : Str} {ι : Type} {Pre : ι → Prop} {args : ι → List Ty} {rr : Rp β} {tt : Hp → Rp γ} {res : ι → β × List α × γ} {kk : Nat} {p2 : Pos} (h : Has X.prog X.w X.K X.mg X.base fn k (PSpG Pre args (fun G => rT3 X.K rr (rNw G r) (tt G)) res)) (hr : Room j X.A) (hk : k ≤ j) (y : ι) (hp : Pre y) (ha : EvA X Γ (e :: es) (args y)) (hz : (res y).2.1 = as) (hg : Gl X fn := by rfl) (hdb : (fn == ("__debug__" : Str)) = false := by decide)
    (he : starEach (e :: es) X.env = (false, eval e X.env) :: starEach es X.env := by rfl) (hpl : (backTo pos (starEach es X.env)).any (·.1) = false := by rfl) : EvNw X Γ (.Subscript (.Call (.Name fn p) (e :: es) [] pos) (.Constant (.int 1) kk p2) cpos) r as := fun E G H σ hh Q q =>
  WE.of (pe_ix ix_tup WE.pe pe_int (plain_of rfl)) (we_call h hr hk (ha E G H σ hh _ fun vs G1 H1 l1 a1 => ⟨y, G1, hp, l1.gh, a1, fun v G2 H2 l2 ⟨p, v1, v2, v3, e1, hp, h1, h2, h3⟩ => ⟨p, _, 1, v2, e1, rfl, Evl.ex_t l2.gh hp, rfl, q _ G2 H2 (l1.trans l2) (hz ▸ nw_mono l1.g h2)⟩⟩) hg hdb he hpl)
theorem en_callC {fn : Str} {ι : Type} {Pre : ι → Prop} {args : ι → List Ty} {rr : Rp β} {tt : Hp → Rp γ} {res : ι → β × γ × List α} {kk : Nat} {p2 : Pos} (h : Has X.prog X.w X.K X.mg X.base fn k (PSpG Pre args (fun G => rT3 X.K rr (tt G) (rNw G r)) res)) (hr : Room j X.A) (hk : k ≤ j) (y : ι) (hp : Pre y) (ha : EvA X Γ (e :: es) (args y)) (hz : (res y).2.2 = as) (hg : Gl X fn := by rfl) (hdb : (fn == ("__debug__" : Str)) = false := by decide)
    (he : starEach (e :: es) X.env = (false, eval e X.env) :: starEach es X.env := by rfl) (hpl : (backTo pos (starEach es X.env)).any (·.1) = false := by rfl) : EvNw X Γ (.Subscript (.Call (.Name fn p) (e :: es) [] pos) (.Constant (.int 2) kk p2) cpos) r as := fun E G H σ hh Q q =>
  WE.of (pe_ix ix_tup WE.pe pe_int (plain_of rfl)) (we_call h hr hk (ha E G H σ hh _ fun vs G1 H1 l1 a1 => ⟨y, G1, hp, l1.gh, a1, fun v G2 H2 l2 ⟨p, v1, v2, v3, e1, hp, h1, h2, h3⟩ => ⟨p, _, 2, v3, e1, rfl, Evl.ex_t l2.gh hp, rfl, q _ G2 H2 (l1.trans l2) (hz ▸ nw_mono l1.g h3)⟩⟩) hg hdb he hpl)
/-! ### x in a list of data -/
theorem gv_inD {c : PyData} {ds : List PyData} (a : Eqv X.K r x c) (b : Eqv X.K s y (.list ds)) : Gives (rInD X.K) r x s y rBool (ds.any fun z => PyData.eqv z c) := fun G H v w e h1 h2 Q q => ⟨c, ds, dp_mono e _ _ (a.dp G v h1), dp_mono e _ _ (b.dp G w h2), a.sh, b.sh, q _ G H (.refl e) rfl⟩
theorem ev_inDt {c : PyData} {ds : List PyData} (hr : Room k X.A) (a : Eqv X.K r x c) (b : Eqv X.K s y (.list ds)) (ha : Ev X Γ e r x) (hb : Ev X Γ f s y) (hm : behindInMarks .In f = false := by rfl) : Ev X Γ (.Compare e [.In] [f] pos) rBool (ds.any fun z => PyData.eqv z c) := ev_cmpR (op_inD (by have := hr.un; omega)) ha hb (gv_inD a b) hm
end
/-! ### lists of fractions -/
def pdQs (l : List Rat) : PyData := .list (l.map fun q => pdPair (cn q))
theorem all2_q {K : PySem.W.Frag} {G : Hp} : ∀ {vs : List V} {l : List Rat}, All2 (rQ K) G vs l → All2 (rT2 K rInt rInt) G vs (l.map cn)
  | _, _, .nil => .nil
  | _, _, .cons h t => .cons h (all2_q t)
theorem eqv_qs {K : PySem.W.Frag} {l : List Rat} : Eqv K (rLst (rQ K)) l (pdQs l) := by
  have z := eqv_pairs (K := K) (ns := l.map cn)
  have e : pdPairs (l.map cn) = pdQs l := by unfold pdPairs pdQs; rw [List.map_map]; rfl
  rw [e] at z
  exact ⟨fun G v ⟨p, vs, h1, h2, h3⟩ => z.dp G v ⟨p, vs, h1, h2, all2_q h3⟩, z.sh⟩
theorem cns_inj : ∀ {a b : List Rat}, a.map cn = b.map cn → a = b
  | [], [], _ => rfl
  | [], _ :: _, h => by simp at h
  | _ :: _, [], h => by simp at h
  | x :: a, y :: b, h => by
    rw [List.map_cons, List.map_cons, List.cons.injEq] at h
    rw [cn_inj h.1, cns_inj h.2]
theorem qs_eqv {a b : List Rat} : PyData.eqv (pdQs a) (pdQs b) = decide (a = b) := by
  have e : ∀ l : List Rat, pdPairs (l.map cn) = pdQs l := fun l => by unfold pdPairs pdQs; rw [List.map_map]; rfl
  rw [← e a, ← e b, pdPairs_eqv]
  exact decide_eq_decide.mpr ⟨cns_inj, fun h => by rw [h]⟩
theorem qs_any {l : List Rat} {q : Rat} : ((l.map fun q => pdPair (cn q)).any fun z => PyData.eqv z (pdPair (cn q))) = decide (q ∈ l) := by
  rw [List.any_map]
  induction l with
  | nil => simp
  | cons a l ih =>
    rw [List.any_cons, ih]
    simp only [Function.comp]
    rw [q_eqv, Bool.eq_iff_iff]
    simp only [Bool.or_eq_true, decide_eq_true_eq, List.mem_cons]
    constructor
    · rintro (h | h)
      · exact .inl h.symm
      · exact .inr h
    · rintro (h | h)
      · exact .inl h.symm
      · exact .inr h
end Hf

namespace Hf
open PySem PySem.Spec PyProof.Rows L2 ClX
/-! ### how far and what is told: rising, alike, one behind another -/
theorem rat_div_mono {a b m : Rat} (h : a ≤ b) (hm : 0 < m) : a / m ≤ b / m := by
  refine Rat.not_lt.mp fun z => ?_
  have := Rat.mul_lt_mul_of_pos_right z hm
  have e1 : a / m * m = a := Rat.div_mul_cancel (by grind)
  have e2 : b / m * m = b := Rat.div_mul_cancel (by grind)
  grind
namespace Pl
mutual
theorem far_congr {d d' : List (Str × Int)} (h : ∀ n, dg d n = dg d' n) : ∀ w : Pl, far w d = far w d'
  | .leaf n s => by
    cases s with
    | none => simp only [far]
    | some m => simp only [far]; rw [h]
  | .lot r n ps => by
    simp only [far]
    exact fars_congr h ps
theorem fars_congr {d d' : List (Str × Int)} {W : Int} (h : ∀ n, dg d n = dg d' n) : ∀ ps : List (Int × Pl), fars W ps d = fars W ps d'
  | [] => by simp only [fars]
  | (i, w) :: ps => by
    simp only [fars]
    rw [far_congr h w, fars_congr h ps]
end
mutual
theorem far_nil : ∀ w : Pl, far w [] = 0
  | .leaf n s => by
    cases s with
    | none => simp only [far]
    | some m =>
      simp only [far]
      have : dg [] n = 0 := rfl
      rw [this, Rat.div_def]
      have : ((0 : Int) : Rat) = 0 := rfl
      rw [this, Rat.zero_mul]
  | .lot r n ps => by
    simp only [far]
    exact fars_nil ps
theorem fars_nil {W : Int} : ∀ ps : List (Int × Pl), fars W ps [] = 0
  | [] => by simp only [fars]
  | (i, w) :: ps => by
    simp only [fars]
    rw [far_nil w, fars_nil ps]
    grind
end
end Pl
theorem far_mono {d d' : List (Str × Int)} (h : ∀ n, dg d n ≤ dg d' n) : ∀ {w : Pl}, w.Fit → w.far d ≤ w.far d' := fun {w} => by
  have key : ∀ (k : Nat) (w : Pl), w.depth ≤ k → w.Fit → w.far d ≤ w.far d' := fun k => by
    induction k with
    | zero => intro w h; have := Pl.depth_pos w; omega
    | succ k ih =>
      intro w hd hf
      cases w with
      | leaf n s =>
        cases s with
        | none => simp only [Pl.far]; exact Rat.le_refl
        | some m =>
          simp only [Pl.far]
          have b := hf m rfl
          simp only [isNum, Bool.and_eq_true, decide_eq_true_eq] at b
          have : (0 : Rat) < (m : Rat) := by exact_mod_cast (show 0 < m by omega)
          exact rat_div_mono (by exact_mod_cast h n) this
      | lot r n ps =>
        have hp := fit_parts hf
        have W := weights_lim hf rfl
        have hW : (0 : Rat) < (((ps.map fun q : Int × Pl => q.1).sum : Int) : Rat) := by exact_mod_cast (show 0 < (ps.map fun q : Int × Pl => q.1).sum from by have := W.1; show 0 < (Pl.lot r n ps).weights; omega)
        simp only [Pl.far]
        generalize (ps.map fun q : Int × Pl => q.1).sum = W0 at hW
        have hs : ∀ l : List (Int × Pl), (∀ q ∈ l, q ∈ ps) → Pl.fars W0 l d ≤ Pl.fars W0 l d' := fun l => by
          induction l with
          | nil => intro _; simp only [Pl.fars]; exact Rat.le_refl
          | cons q l ihl =>
            intro hq
            obtain ⟨i, v⟩ := q
            have mm := hq (i, v) List.mem_cons_self
            have hv := Pl.part_depth (w := .lot r n ps) mm
            have a := ih v (by simp only at hv; omega) (hp _ mm).2
            have b := ihl fun q hm => hq q (List.mem_cons_of_mem _ hm)
            have hi := (hp _ mm).1.1
            simp only [Pl.fars]
            have c : (0 : Rat) ≤ (i : Rat) / (W0 : Rat) := by
              have := rat_div_mono (a := 0) (b := (i : Rat)) (by exact_mod_cast (show (0 : Int) ≤ i by omega)) hW
              have z : (0 : Rat) / (W0 : Rat) = 0 := by rw [Rat.div_def, Rat.zero_mul]
              rw [z] at this
              exact this
            have e := Rat.mul_le_mul_of_nonneg_left a c
            grind
        exact hs ps fun q hq => hq
  exact fun hf => key w.depth w (Nat.le_refl _) hf
/-- told in two steps or in one -/
theorem next_next {s a b c : Rat} (h1 : a ≤ b) (h2 : b ≤ c) (hc : c ≤ 1) : shownNext (shownNext s a b) b c = shownNext s a c := by
  unfold shownNext
  by_cases e1 : a < b
  · by_cases e2 : b < c
    · have e3 : a < c := by grind
      rw [if_pos e1, if_pos e2, if_pos e3]
      have n1 : 1 - a ≠ 0 := by grind
      have n2 : 1 - b ≠ 0 := by grind
      have k : (1 - b) / (1 - a) * ((1 - c) / (1 - b)) = (1 - c) / (1 - a) := by
        rw [Rat.div_def, Rat.div_def, Rat.div_def]
        have := Rat.mul_inv_cancel (1 - b) n2
        grind
      grind
    · have e3 : b = c := by grind
      subst e3
      rw [if_neg e2]
  · have e3 : a = b := by grind
    subst e3
    rw [if_neg e1]
theorem next_same {s a : Rat} : shownNext s a a = s := by
  unfold shownNext
  rw [if_neg (by grind)]
theorem next_le {n : Nat} {s l w : Rat} (hs : ShOk n s) (hl : ShOk 200 l) (hw : ShOk 200 w) : s ≤ shownNext s l w := by
  unfold shownNext
  split
  · rename_i h
    obtain ⟨a, b, c⟩ := ratio_ok h hl.nn hw.le
    have := Rat.mul_le_mul_of_nonneg_left c (show 0 ≤ 1 - s by have := hs.le; grind)
    grind
  · exact Rat.le_refl
theorem next_one {n : Nat} {s l w : Rat} (hs : ShOk n s) (hl : ShOk 200 l) (hw : ShOk 200 w) (h : l = 1 → s = 1) : shownNext s l w = 1 ↔ (s = 1 ∨ w = 1) := by
  unfold shownNext
  split
  · rename_i h2
    obtain ⟨a, b, c⟩ := ratio_ok h2 hl.nn hw.le
    have e : (1 - w) / (1 - l) * (1 - l) = 1 - w := Rat.div_mul_cancel (by grind)
    constructor
    · intro z
      have z2 : (1 - s) * ((1 - w) / (1 - l)) = 0 := by grind
      rcases Rat.mul_eq_zero.mp z2 with z3 | z3
      · exact .inl (by grind)
      · exact .inr (by rw [z3] at e; grind)
    · rintro (z | z)
      · rw [z]; grind
      · subst z
        have e4 : (1 : Rat) - 1 = 0 := by grind
        rw [e4, Rat.div_def, Rat.zero_mul, Rat.mul_zero]
        grind
  · rename_i h2
    constructor
    · exact fun z => .inl z
    · rintro (z | z)
      · exact z
      · exact h (by have := hl.le; grind)
/-! ### runs from a state -/
def runFrom (c : Cs) (ts : List Tel) : Cs := ts.foldl stepC c
theorem runFrom_app {c : Cs} {a b : List Tel} : runFrom c (a ++ b) = runFrom (runFrom c a) b := List.foldl_append
def Path : Cs → List Tel → Prop
  | _, [] => True
  | c, t :: ts => (TelOk t ∧ Can c.plan c.did t) ∧ Path (stepC c t) ts
def AllSh (n : Nat) : Cs → List Tel → Prop
  | c, [] => ShOk n c.shown
  | c, t :: ts => ShOk n c.shown ∧ AllSh n (stepC c t) ts
theorem path_app : ∀ {a b : List Tel} {c : Cs}, Path c (a ++ b) ↔ Path c a ∧ Path (runFrom c a) b
  | [], b, c => by simp [Path, runFrom]
  | t :: a, b, c => by
    show (TelOk t ∧ Can c.plan c.did t) ∧ Path (stepC c t) (a ++ b) ↔ ((TelOk t ∧ Can c.plan c.did t) ∧ Path (stepC c t) a) ∧ Path (runFrom (stepC c t) a) b
    rw [path_app (a := a) (c := stepC c t)]
    exact and_assoc.symm
theorem allSh_mono {m n : Nat} (h : m ≤ n) : ∀ {ts : List Tel} {c : Cs}, AllSh m c ts → AllSh n c ts
  | [], c, k => sh_mono k h
  | t :: ts, c, k => ⟨sh_mono k.1 h, allSh_mono h k.2⟩
theorem allSh_app {n : Nat} : ∀ {a b : List Tel} {c : Cs}, AllSh n c a → AllSh n (runFrom c a) b → AllSh n c (a ++ b)
  | [], b, c, _, h => h
  | t :: a, b, c, h, k => ⟨h.1, allSh_app (a := a) h.2 k⟩
theorem allSh_head {n : Nat} {ts : List Tel} {c : Cs} (h : AllSh n c ts) : ShOk n c.shown := by
  cases ts with
  | nil => exact h
  | cons t ts => exact h.1
theorem path_get : ∀ {ts : List Tel} {c : Cs}, Path c ts → ∀ i t, ts[i]? = some t → TelOk t ∧ Can (runFrom c (ts.take i)).plan (runFrom c (ts.take i)).did t
  | [], c, _, i, t, e => by simp at e
  | t0 :: ts, c, h, 0, t, e => by
    simp only [List.getElem?_cons_zero, Option.some.injEq] at e
    subst e
    exact h.1
  | t0 :: ts, c, h, i + 1, t, e => path_get (c := stepC c t0) h.2 i t (by simpa using e)
theorem get_path : ∀ {ts : List Tel} {c : Cs}, (∀ i t, ts[i]? = some t → TelOk t ∧ Can (runFrom c (ts.take i)).plan (runFrom c (ts.take i)).did t) → Path c ts
  | [], c, _ => trivial
  | t0 :: ts, c, h => ⟨h 0 t0 rfl, get_path fun i t e => h (i + 1) t (by simpa using e)⟩
theorem allSh_get {n : Nat} : ∀ {ts : List Tel} {c : Cs}, AllSh n c ts → ∀ i, ShOk n (runFrom c (ts.take i)).shown
  | [], c, h, i => by
    rw [List.take_nil]
    exact h
  | t0 :: ts, c, h, 0 => h.1
  | t0 :: ts, c, h, i + 1 => allSh_get (c := stepC c t0) h.2 i
def cs0 (p : Pl) : Cs := ⟨p, [], 0⟩
theorem run_path {p : Pl} {ts : List Tel} (h : RunOk p ts) : Path (cs0 p) ts := get_path h.can
theorem runOk_of {p : Pl} {ts : List Tel} (hp : PlanOk p) (h : Path (cs0 p) ts) (k : AllSh 8500 (cs0 p) ts) (l : ts.length ≤ 1000) : RunOk p ts := ⟨hp, path_get h, fun i _ => allSh_get k i, l⟩
theorem cs0_ok {p : Pl} (h : PlanOk p) : CsOk (cs0 p).plan (cs0 p).did := (cs_ok (ts := []) h (fun i t e => by simp at e) 0 (Nat.le_refl _)).1
theorem step_ok' {c : Cs} {t : Tel} (co : CsOk c.plan c.did) (to : TelOk t) (h : Can c.plan c.did t) : CsOk (stepC c t).plan (stepC c t).did := Took.ok co to h
theorem path_ok : ∀ {ts : List Tel} {c : Cs}, CsOk c.plan c.did → Path c ts → CsOk (runFrom c ts).plan (runFrom c ts).did
  | [], c, co, _ => co
  | t :: ts, c, co, h => path_ok (ts := ts) (c := stepC c t) (step_ok' co h.1.1 h.1.2) h.2
/-! ### steps told one by one -/
theorem dPut_same {d : List (Str × Int)} {n : Str} {a b : Int} : dPut (dPut d n a) n b = dPut d n b := by
  by_cases h : (d.any fun q => decide (q.1 = n)) = true
  · have e1 : ∀ x, dPut d n x = d.map fun q => if q.1 = n then (q.1, x) else q := fun x => by unfold dPut; rw [if_pos h]
    rw [e1, e1]
    have h2 : ((d.map fun q => if q.1 = n then (q.1, a) else q).any fun q => decide (q.1 = n)) = true := by
      obtain ⟨q, hq, e⟩ := List.any_eq_true.mp h
      refine List.any_eq_true.mpr ⟨_, List.mem_map.mpr ⟨q, hq, rfl⟩, ?_⟩
      have e' := of_decide_eq_true e
      simp [e']
    unfold dPut
    rw [if_pos h2, List.map_map]
    refine List.map_congr_left fun q _ => ?_
    simp only [Function.comp]
    by_cases e : q.1 = n
    · simp [e]
    · simp [e]
  · have e1 : ∀ x, dPut d n x = d ++ [(n, x)] := fun x => by unfold dPut; rw [if_neg h]
    rw [e1, e1]
    have h2 : ((d ++ [(n, a)]).any fun q => decide (q.1 = n)) = true := by
      refine List.any_eq_true.mpr ⟨(n, a), by simp, by simp⟩
    unfold dPut
    rw [if_pos h2, List.map_append]
    congr 1
    · have : d.map (fun q => if q.1 = n then (q.1, b) else q) = d.map id := List.map_congr_left fun q hq => by
        have : ¬ q.1 = n := fun e => h (List.any_eq_true.mpr ⟨q, hq, decide_eq_true e⟩)
        rw [if_neg this]
        rfl
      rw [this, List.map_id]
    · simp
def dStep (d : List (Str × Int)) (n : Str) : Nat → List (Str × Int)
  | 0 => d
  | j + 1 => dPut d n (dg d n + ((j + 1 : Nat) : Int))
theorem dStep_dg {d : List (Str × Int)} {n m : Str} (j : Nat) : dg (dStep d n j) m = if n = m then dg d n + (j : Int) else dg d m := by
  cases j with
  | zero =>
    by_cases e : n = m
    · subst e; rw [if_pos rfl]; show dg d n = _; simp
    · rw [if_neg e]; rfl
  | succ j =>
    show dg (dPut d n _) m = _
    rw [dg_put]
theorem dStep_next {d : List (Str × Int)} {n : Str} (j : Nat) : dPut (dStep d n j) n (dg (dStep d n j) n + 1) = dStep d n (j + 1) := by
  rw [dStep_dg, if_pos rfl]
  cases j with
  | zero =>
    show dPut d n _ = dPut d n _
    congr 1
    simp
  | succ j =>
    show dPut (dPut d n _) n _ = dPut d n _
    rw [dPut_same]
    congr 1
    push_cast
    omega
theorem did_mono {p : Pl} {d : List (Str × Int)} {n : Str} (hf : p.Fit) {i j : Nat} (h : i ≤ j) : p.far (dStep d n i) ≤ p.far (dStep d n j) := far_mono (fun m => by
  rw [dStep_dg, dStep_dg]
  split <;> omega) hf
theorem did_can {p : Pl} {d : List (Str × Int)} {n : Str} {k : Int} (h : Can p d (.did n k)) {j : Nat} (hj : (j : Int) + 1 ≤ k) : Can p (dStep d n j) (.did n 1) := by
  obtain ⟨w, hf⟩ := h.find
  obtain ⟨hl, _, hk⟩ := h.leafy rfl rfl hf
  obtain ⟨hs, _⟩ := hk rfl
  refine Took.can (Took.did (w := w) hf hl fun s e => ?_) |>.1
  have := hs s e
  have e2 : dg (dStep d n j) n = dg d n + (j : Int) := by rw [dStep_dg, if_pos rfl]
  have e3 : (Tel.did n k).name = n := rfl
  have e4 : (Tel.did n k).num = k := rfl
  rw [e3, e4] at this
  show dg (dStep d n j) n + 1 ≤ s
  omega
theorem one_num {n : Str} : isNum (Tel.did n 1).num 1 (if (Tel.did n 1).isFound = true then 100 else 1000) = true := rfl
theorem did_ok {p : Pl} {d : List (Str × Int)} {n : Str} {k : Int} (co : CsOk p d) (to : TelOk (.did n k)) (h : Can p d (.did n k)) {j : Nat} (hj : (j : Int) ≤ k) : CsOk p (dStep d n j) := by
  have t1 : TelOk (.did n 1) := ⟨to.name, fun _ => one_num, fun z => by simp [Tel.isFound] at z⟩
  induction j with
  | zero => exact co
  | succ j ih =>
    have c := ih (by omega)
    have := Took.ok c t1 (did_can (j := j) h (by omega))
    rw [show (after p (dStep d n j) (.did n 1)).2 = dStep d n (j + 1) from dStep_next j] at this
    exact this
theorem did_seg {c : Cs} {n : Str} {k : Int} (co : CsOk c.plan c.did) (to : TelOk (.did n k)) (h : Can c.plan c.did (.did n k)) : ∀ j : Nat, (j : Int) ≤ k →
    Path c (List.replicate j (.did n 1)) ∧ runFrom c (List.replicate j (.did n 1)) = ⟨c.plan, dStep c.did n j, shownNext c.shown (c.plan.far c.did) (c.plan.far (dStep c.did n j))⟩ := fun j => by
  have t1 : TelOk (.did n 1) := ⟨to.name, fun _ => one_num, fun z => by simp [Tel.isFound] at z⟩
  induction j with
  | zero =>
    intro _
    refine ⟨trivial, ?_⟩
    show c = (⟨c.plan, c.did, shownNext c.shown (c.plan.far c.did) (c.plan.far c.did)⟩ : Cs)
    rw [next_same]
  | succ j ih =>
    intro hj
    obtain ⟨h1, h2⟩ := ih (by omega)
    have cj := did_ok (j := j) co to h (by omega)
    have cj1 := did_ok (j := j + 1) co to h (by omega)
    rw [List.replicate_succ', path_app, runFrom_app, h2]
    refine ⟨⟨h1, ⟨t1, did_can h (by omega)⟩, trivial⟩, ?_⟩
    show stepC _ _ = _
    have e : (after c.plan (dStep c.did n j) (.did n 1)) = (c.plan, dStep c.did n (j + 1)) := by
      show (c.plan, _) = _
      rw [dStep_next]
    unfold stepC
    simp only [e]
    have m1 : c.plan.far c.did ≤ c.plan.far (dStep c.did n j) := did_mono (i := 0) co.plan.fit (Nat.zero_le _)
    have m2 : c.plan.far (dStep c.did n j) ≤ c.plan.far (dStep c.did n (j + 1)) := did_mono co.plan.fit (Nat.le_succ _)
    rw [next_next m1 m2 cj1.sh.le]
def oneT : Tel → List Tel
  | .did n k => if k < 40 then List.replicate k.toNat (.did n 1) else [.did n k]
  | t => [t]
def oneL (ts : List Tel) : List Tel := ts.flatMap oneT
theorem did_sh {c : Cs} {n : Str} {k : Int} {m : Nat} (co : CsOk c.plan c.did) (to : TelOk (.did n k)) (h : Can c.plan c.did (.did n k)) (hs : ShOk m c.shown) : ∀ j : Nat, (j : Int) ≤ k → AllSh (m + 400) c (List.replicate j (.did n 1)) := fun j => by
  induction j with
  | zero => intro _; exact sh_mono hs (by omega)
  | succ j ih =>
    intro hj
    have a := ih (by omega)
    have e1 := (did_seg co to h j (by omega)).2
    have e2 := (did_seg co to h (j + 1) hj).2
    rw [List.replicate_succ'] at e2 ⊢
    rw [runFrom_app] at e2
    refine allSh_app a ⟨?_, ?_⟩
    · exact allSh_get a j |> fun z => by
        rw [List.take_of_length_le (by simp)] at z
        exact z
    · show ShOk (m + 400) (stepC (runFrom c (List.replicate j (.did n 1))) (.did n 1)).shown
      have e3 : stepC (runFrom c (List.replicate j (.did n 1))) (.did n 1) = _ := e2
      rw [e3]
      exact shown_next hs co.sh (did_ok (j := j + 1) co to h hj).sh
theorem one_tel {c : Cs} {t : Tel} {m : Nat} (co : CsOk c.plan c.did) (to : TelOk t) (h : Can c.plan c.did t) (hs : ShOk m c.shown) : Path c (oneT t) ∧ runFrom c (oneT t) = stepC c t ∧ AllSh (m + 400) c (oneT t) ∧ (oneT t).length ≤ 39 := by
  have plain : Path c [t] ∧ runFrom c [t] = stepC c t ∧ AllSh (m + 400) c [t] ∧ [t].length ≤ 39 := by
    refine ⟨⟨⟨to, h⟩, trivial⟩, rfl, ⟨sh_mono hs (by omega), ?_⟩, by simp⟩
    exact shown_next hs co.sh (step_ok' co to h).sh
  cases t with
  | did n k =>
    have e0 : oneT (.did n k) = if k < 40 then List.replicate k.toNat (.did n 1) else [.did n k] := rfl
    rw [e0]
    by_cases hk : k < 40
    · rw [if_pos hk]
      have hn := to.num rfl
      have hn2 : isNum k 1 1000 = true := hn
      simp only [isNum, Bool.and_eq_true, decide_eq_true_eq] at hn2
      have hle : ((k.toNat : Nat) : Int) ≤ k := by omega
      obtain ⟨h1, h2⟩ := did_seg co to h k.toNat hle
      refine ⟨h1, ?_, did_sh co to h hs _ hle, by rw [List.length_replicate]; omega⟩
      rw [h2]
      have e : dStep c.did n k.toNat = (after c.plan c.did (.did n k)).2 := by
        show _ = dPut c.did n (dg c.did n + k)
        obtain ⟨j, hj⟩ : ∃ j, k.toNat = j + 1 := ⟨k.toNat - 1, by omega⟩
        rw [hj]
        show dPut c.did n _ = _
        congr 1
        omega
      rw [e]
      rfl
    · rw [if_neg hk]
      exact plain
  | knows n k => exact plain
  | found a b c d => exact plain
  | again n => exact plain
theorem one_run : ∀ {ts : List Tel} {c : Cs} {m : Nat}, CsOk c.plan c.did → ShOk m c.shown → Path c ts → Path c (oneL ts) ∧ runFrom c (oneL ts) = runFrom c ts ∧ AllSh (m + 400 * ts.length + 400) c (oneL ts) ∧ (oneL ts).length ≤ 39 * ts.length
  | [], c, m, co, hs, _ => ⟨trivial, rfl, sh_mono hs (by omega), by simp [oneL]⟩
  | t :: ts, c, m, co, hs, h => by
    obtain ⟨a1, a2, a3, a4⟩ := one_tel co h.1.1 h.1.2 hs
    have c2 := step_ok' co h.1.1 h.1.2
    obtain ⟨b1, b2, b3, b4⟩ := one_run (m := m + 400) c2 (shown_next hs co.sh c2.sh) h.2
    have e : oneL (t :: ts) = oneT t ++ oneL ts := by simp [oneL]
    rw [e, path_app, runFrom_app, a2]
    refine ⟨⟨a1, b1⟩, b2, allSh_app (allSh_mono (by simp only [List.length_cons]; omega) a3) (by rw [a2]; exact allSh_mono (by simp only [List.length_cons]; omega) b3), ?_⟩
    rw [List.length_append, List.length_cons]
    omega
theorem one_runOk {p : Pl} {ts : List Tel} (h : RunOk p ts) (hl : ts.length ≤ 20) : RunOk p (oneL ts) ∧ runC p (oneL ts) = runC p ts := by
  obtain ⟨a, b, c, d⟩ := one_run (m := 1) (cs0_ok h.plan) (show ShOk 1 0 from ⟨lim0, by decide, by decide⟩) (run_path h)
  exact ⟨runOk_of h.plan a (allSh_mono (by omega) c) (by omega), b⟩
end Hf

set_option exponentiation.threshold 2000
namespace Hf
open PySem PySem.Spec PyProof.Rows L2 ClX
/-! ### what is told: never less, the whole just if it was so far; the law's reckoning -/
theorem run_co {p : Pl} {ts : List Tel} (h : RunOk p ts) {i : Nat} (hi : i ≤ ts.length) : CsOk (runC p (ts.take i)).plan (runC p (ts.take i)).did := (cs_ok h.plan h.can i hi).1
theorem far_sh {p : Pl} {ts : List Tel} (h : RunOk p ts) {i : Nat} (hi : i ≤ ts.length) : ShOk 200 (farAt p ts i) := (run_co h hi).sh
theorem shown_step {p : Pl} {ts : List Tel} {i : Nat} (hi : i < ts.length) : (runC p (ts.take (i + 1))).shown = shownNext (runC p (ts.take i)).shown (farAt p ts i) (farAt p ts (i + 1)) := by
  have e := runC_next (p := p) (List.getElem?_eq_getElem hi)
  unfold farAt
  rw [e]
  rfl
theorem shown_mono {p : Pl} {ts : List Tel} (h : RunOk p ts) {i : Nat} (hi : i < ts.length) : (runC p (ts.take i)).shown ≤ (runC p (ts.take (i + 1))).shown := by
  rw [shown_step hi]
  exact next_le (h.sh i (by omega)) (far_sh h (by omega)) (far_sh h (by omega))
theorem shown_fall {p : Pl} {ts : List Tel} {i : Nat} (hi : i < ts.length) (c : farAt p ts (i + 1) < farAt p ts i) : (runC p (ts.take (i + 1))).shown = (runC p (ts.take i)).shown := by
  rw [shown_step hi]
  unfold shownNext
  rw [if_neg (by grind)]
theorem far_first {p : Pl} {ts : List Tel} : farAt p ts 0 = 0 := Pl.far_nil p
theorem shown_whole {p : Pl} {ts : List Tel} (h : RunOk p ts) : ∀ i, i ≤ ts.length → ((runC p (ts.take i)).shown = 1 ↔ ∃ j, j ≤ i ∧ farAt p ts j = 1) := fun i => by
  induction i with
  | zero =>
    intro _
    constructor
    · intro z
      have e : (runC p (ts.take 0)).shown = 0 := rfl
      rw [e] at z
      grind
    · rintro ⟨j, hj, e⟩
      have : j = 0 := by omega
      subst this
      rw [far_first] at e
      grind
  | succ i ih =>
    intro hi
    have a := ih (by omega)
    rw [shown_step (by omega), next_one (h.sh i (by omega)) (far_sh h (by omega)) (far_sh h hi) fun e => a.mpr ⟨i, Nat.le_refl _, e⟩, a]
    constructor
    · rintro (⟨j, h1, h2⟩ | e)
      · exact ⟨j, by omega, h2⟩
      · exact ⟨i + 1, Nat.le_refl _, e⟩
    · rintro ⟨j, h1, h2⟩
      by_cases c : j = i + 1
      · subst c; exact .inr h2
      · exact .inl ⟨j, by omega, h2⟩
theorem shown_at {p : Pl} {ts : List Tel} {i : Nat} (hi : i ≤ ts.length) : (shownL p ts)[i]? = some (runC p (ts.take i)).shown := by
  unfold shownL
  rw [List.getElem?_map, List.getElem?_range (by omega)]
  rfl
theorem shown_len {p : Pl} {ts : List Tel} : (shownL p ts).length = ts.length + 1 := by simp [shownL]
theorem shown_getD {p : Pl} {ts : List Tel} {i : Nat} (hi : i ≤ ts.length) {d : Rat} : (shownL p ts).getD i d = (runC p (ts.take i)).shown := by
  rw [List.getD_eq_getElem?_getD, shown_at hi]
  rfl
theorem shown_last {p : Pl} {ts : List Tel} {d : Rat} : (shownL p ts).getLastD d = (runC p ts).shown := by
  unfold shownL
  rw [List.range_succ, List.map_append, List.map_singleton, List.take_length]
  simp
def farsL (p : Pl) (ts : List Tel) : List Rat := (standsL p ts).map fun s => s.1.far s.2
theorem fars_at {p : Pl} {ts : List Tel} {i : Nat} (hi : i ≤ ts.length) : (farsL p ts)[i]? = some (farAt p ts i) := by
  unfold farsL standsL
  rw [List.getElem?_map, List.getElem?_map, List.getElem?_range (by omega)]
  rfl
theorem fars_len {p : Pl} {ts : List Tel} : (farsL p ts).length = ts.length + 1 := by simp [farsL, standsL]
theorem fars_getD {p : Pl} {ts : List Tel} {i : Nat} (hi : i ≤ ts.length) {d : Rat} : (farsL p ts).getD i d = farAt p ts i := by
  rw [List.getD_eq_getElem?_getD, fars_at hi]
  rfl
theorem fars_take {p : Pl} {ts : List Tel} {i : Nat} (hi : i ≤ ts.length) : (1 : Rat) ∈ (farsL p ts).take (i + 1) ↔ ∃ j, j ≤ i ∧ farAt p ts j = 1 := by
  constructor
  · intro h
    obtain ⟨j, hj, e⟩ := List.mem_iff_getElem.mp h
    rw [List.length_take, fars_len] at hj
    have e2 : ((farsL p ts).take (i + 1))[j]? = some 1 := by rw [List.getElem?_eq_getElem (by rw [List.length_take, fars_len]; omega), e]
    rw [List.getElem?_take, if_pos (by omega), fars_at (by omega)] at e2
    exact ⟨j, by omega, Option.some.inj e2⟩
  · rintro ⟨j, hj, e⟩
    refine List.mem_of_getElem? (i := j) ?_
    rw [List.getElem?_take, if_pos (by omega), fars_at (by omega), e]
theorem stand_at {p : Pl} {ts : List Tel} {i : Nat} (hi : i ≤ ts.length) : (standsL p ts)[i]? = some ((runC p (ts.take i)).plan, (runC p (ts.take i)).did) := by
  unfold standsL
  rw [List.getElem?_map, List.getElem?_range (by omega)]
  rfl
theorem stand_len {p : Pl} {ts : List Tel} : (standsL p ts).length = ts.length + 1 := by simp [standsL]
theorem stand_getD {p : Pl} {ts : List Tel} {i : Nat} (hi : i ≤ ts.length) {d : Pl × List (Str × Int)} : (standsL p ts).getD i d = ((runC p (ts.take i)).plan, (runC p (ts.take i)).did) := by
  rw [List.getD_eq_getElem?_getD, stand_at hi]
  rfl
theorem falls_mem {p : Pl} {ts : List Tel} {i : Nat} (hi : i < ts.length) : ((i : Int) ∈ fallsL p ts) ↔ farAt p ts (i + 1) < farAt p ts i := by
  unfold fallsL
  rw [List.mem_map]
  constructor
  · rintro ⟨j, hj, e⟩
    have : j = i := by exact_mod_cast e
    subst this
    exact of_decide_eq_true (List.mem_filter.mp hj).2
  · intro h
    exact ⟨i, List.mem_filter.mpr ⟨List.mem_range.mpr hi, decide_eq_true h⟩, rfl⟩
/-- the law's due falls -/
theorem due_falls {p : Pl} {ts : List Tel} {f : Int → Bool} (h : ∀ i : Nat, i < ts.length → f (i : Int) = decide (farAt p ts (i + 1) < farAt p ts i)) : ((rangeL 0 ts.length).filter f).map (fun k : Int => k) = fallsL p ts := by
  have e : rangeL 0 ts.length = (List.range ts.length).map fun (i : Nat) => (i : Int) := by
    unfold rangeL
    refine List.map_congr_left fun i _ => by omega
  rw [List.map_id', e, List.filter_map]
  unfold fallsL
  congr 1
  refine List.filter_congr fun i hi => ?_
  exact h i (List.mem_range.mp hi)
/-! the law's next -/
theorem next_alg {s l w R S L W : Rat} (k : R * (1 - l) = 1 - w) : (1 - (1 - s) * R) * (S * (W * (L - l * L))) = S * (W * (L - l * L)) - (S - s * S) * ((W - w * W) * L) := by
  have e : W - w * W = W * (R * (1 - l)) := by rw [k]; grind
  rw [e]
  grind
theorem next_law {s l w : Rat} (h : l < w) (hw : w ≤ 1) : shownNext s l w = qd ((s.den : Int) * ((w.den : Int) * ((l.den : Int) - l.num)) - ((s.den : Int) - s.num) * (((w.den : Int) - w.num) * (l.den : Int))) ((s.den : Int) * ((w.den : Int) * ((l.den : Int) - l.num))) ∧ 0 < (w.den : Int) * ((l.den : Int) - l.num) := by
  have hl1 : l < 1 := by grind
  have e := (Rat.lt_iff l 1).mp hl1
  have e1 : (1 : Rat).num = 1 := rfl
  have e2 : (1 : Rat).den = 1 := rfl
  rw [e1, e2] at e
  have pos : 0 < (l.den : Int) - l.num := by omega
  have two := Int.mul_pos (den_pos w) pos
  refine ⟨qd_eq (Int.mul_pos (den_pos s) two) ?_, two⟩
  unfold shownNext
  rw [if_pos h]
  have a := q_mul s
  have b := q_mul l
  have c := q_mul w
  have d1 := den_ne s
  have d2 := den_ne l
  have d3 := den_ne w
  have n : 1 - l ≠ 0 := by grind
  have k : (1 - w) / (1 - l) * (1 - l) = 1 - w := Rat.div_mul_cancel n
  simp only [Rat.intCast_sub, Rat.intCast_mul]
  rw [a, b, c]
  exact next_alg k
theorem next_size {n : Nat} {s l w : Rat} (hs : ShOk n s) (hl : ShOk 200 l) (hw : ShOk 200 w) (h : l < w) (hn : n ≤ 8500) :
    Top ((w.den : Int) - w.num) ∧ Top ((l.den : Int) - l.num) ∧ Top ((s.den : Int) - s.num) ∧ Top (((w.den : Int) - w.num) * (l.den : Int)) ∧ Top ((w.den : Int) * ((l.den : Int) - l.num)) ∧ Bot ((s.den : Int) * ((w.den : Int) * ((l.den : Int) - l.num))) := by
  have sub : ∀ {m : Nat} {q : Rat}, ShOk m q → 0 ≤ (q.den : Int) - q.num ∧ ((q.den : Int) - q.num).natAbs < 2 ^ m := fun {m q} h => by
    obtain ⟨b0, b1⟩ := num_bound h.nn h.le
    have := h.lim.2
    refine ⟨by omega, Nat.lt_of_le_of_lt (show _ ≤ q.den by omega) this⟩
  have np := hs.lim.pos
  obtain ⟨a1, a2⟩ := sub hw
  obtain ⟨b1, b2⟩ := sub hl
  obtain ⟨c1, c2⟩ := sub hs
  have two := (next_law (s := s) h hw.le).2
  have t1 : (((w.den : Int) - w.num) * (l.den : Int)).natAbs < 2 ^ 400 := by
    rw [Int.natAbs_mul, show (400 : Nat) = 200 + 200 from rfl, Nat.pow_add]
    exact Nat.mul_lt_mul'' a2 (by simpa using hl.lim.2)
  have t2 : ((w.den : Int) * ((l.den : Int) - l.num)).natAbs < 2 ^ 400 := by
    rw [Int.natAbs_mul, show (400 : Nat) = 200 + 200 from rfl, Nat.pow_add]
    exact Nat.mul_lt_mul'' (by simpa using hw.lim.2) b2
  refine ⟨top_of a2 (by decide) (by decide), top_of b2 (by decide) (by decide), top_of c2 np (by omega), top_of t1 (by decide) (by decide), top_of t2 (by decide) (by decide), ?_⟩
  refine bot_of (k := n + 400) (Int.mul_pos (den_pos s) two) ?_ (by omega) (by omega)
  rw [Int.natAbs_mul, Nat.pow_add]
  exact Nat.mul_lt_mul'' (by simpa using hs.lim.2) t2
/-! ### two tellings of steps told the other way round -/
structure CsEq (c c' : Cs) : Prop where
  plan : c.plan = c'.plan
  shown : c.shown = c'.shown
  did : ∀ n, dg c.did n = dg c'.did n
theorem zeroed_dg {d : List (Str × Int)} {ls : List Pl} {n : Str} : dg (zeroed d ls) n = if n ∈ ls.map Pl.name then 0 else dg d n := by
  unfold dg
  rw [zeroed_get]
  split <;> rfl
theorem eq_step {c c' : Cs} {t : Tel} (e : CsEq c c') (h : Can c.plan c.did t) : Can c'.plan c'.did t ∧ CsEq (stepC c t) (stepC c' t) := by
  obtain ⟨p, d, s⟩ := c
  obtain ⟨p', d', s'⟩ := c'
  obtain ⟨e1, e2, e3⟩ := e
  simp only at e1 e2 e3
  subst e1 e2
  have key : ∀ p2 d2 d2', after p d t = (p2, d2) → after p d' t = (p2, d2') → (∀ n, dg d2 n = dg d2' n) → CsEq (stepC ⟨p, d, s⟩ t) (stepC ⟨p, d', s⟩ t) := fun p2 d2 d2' h1 h2 h3 => by
    unfold stepC
    simp only [h1, h2]
    refine ⟨rfl, ?_, h3⟩
    show shownNext s (p.far d) (p2.far d2) = shownNext s (p.far d') (p2.far d2')
    rw [Pl.far_congr e3, Pl.far_congr h3]
  obtain ⟨w, hf⟩ := h.find
  cases t with
  | again n =>
    have hf' : p.find n = some w := hf
    refine ⟨(Took.again hf').can.1, key p (zeroed d w.leaves) (zeroed d' w.leaves) (by simp only [after, hf']) (by simp only [after, hf']) fun m => ?_⟩
    rw [zeroed_dg, zeroed_dg, e3]
  | found n wt ln st =>
    obtain ⟨hl, ok, _⟩ := h.found rfl hf
    exact ⟨(Took.found (d := d') hf hl ok).can.1, key _ d d' rfl rfl e3⟩
  | knows n k =>
    obtain ⟨hl, hk, _⟩ := h.leafy rfl rfl hf
    obtain ⟨h1, h2, _⟩ := hk rfl
    have h2' : dg d n ≤ k := h2
    exact ⟨(Took.knows (d := d') hf hl h1 (by rw [← e3]; exact h2')).can.1, key _ d d' rfl rfl e3⟩
  | did n k =>
    obtain ⟨hl, _, hk⟩ := h.leafy rfl rfl hf
    obtain ⟨h1, _⟩ := hk rfl
    refine ⟨(Took.did (d := d') hf hl fun s' z => by rw [← e3]; exact h1 s' z).can.1, key p (dPut d n (dg d n + k)) (dPut d' n (dg d' n + k)) rfl rfl fun m => ?_⟩
    rw [dg_put, dg_put, e3, e3]
theorem eq_path : ∀ {ts : List Tel} {c c' : Cs}, CsEq c c' → Path c ts → Path c' ts ∧ ∀ i, CsEq (runFrom c (ts.take i)) (runFrom c' (ts.take i))
  | [], c, c', e, _ => ⟨trivial, fun i => by rw [List.take_nil]; exact e⟩
  | t :: ts, c, c', e, h => by
    obtain ⟨a, b⟩ := eq_step e h.1.2
    obtain ⟨k1, k2⟩ := eq_path (ts := ts) b h.2
    refine ⟨⟨⟨h.1.1, a⟩, k1⟩, fun i => ?_⟩
    cases i with
    | zero => exact e
    | succ i => exact k2 i
theorem far_le_step {p : Pl} {d : List (Str × Int)} {n : Str} {k : Int} (hf : p.Fit) (hk : 0 ≤ k) : p.far d ≤ p.far (dPut d n (dg d n + k)) := far_mono (fun m => by
  rw [dg_put]
  split
  · rename_i e; subst e; omega
  · omega) hf
theorem did_num {n : Str} {k : Int} (to : TelOk (.did n k)) : 1 ≤ k ∧ k ≤ 1000 := by
  have hn2 : isNum k 1 1000 = true := to.num rfl
  simpa only [isNum, Bool.and_eq_true, decide_eq_true_eq] using hn2
theorem swap_two {c : Cs} {a b : Str} {m n : Int} (co : CsOk c.plan c.did) (ta : TelOk (.did a m)) (tb : TelOk (.did b n)) (ha : Can c.plan c.did (.did a m)) (hb : Can (stepC c (.did a m)).plan (stepC c (.did a m)).did (.did b n)) :
    Path c [.did b n, .did a m] ∧ CsEq (runFrom c [.did a m, .did b n]) (runFrom c [.did b n, .did a m]) ∧ (c.plan.far c.did ≤ c.plan.far (stepC c (.did a m)).did ∧ c.plan.far (stepC c (.did a m)).did ≤ c.plan.far (runFrom c [.did a m, .did b n]).did) ∧ (c.plan.far c.did ≤ c.plan.far (stepC c (.did b n)).did ∧ c.plan.far (stepC c (.did b n)).did ≤ c.plan.far (runFrom c [.did b n, .did a m]).did) := by
  obtain ⟨p, d, s⟩ := c
  have hm := did_num ta
  have hn := did_num tb
  have cf := step_ok' (step_ok' (c := ⟨p, d, s⟩) co ta ha) tb hb
  obtain ⟨w, hf⟩ := ha.find
  obtain ⟨hl, _, hk⟩ := ha.leafy rfl rfl hf
  obtain ⟨h1, _⟩ := hk rfl
  have h1' : ∀ z, w.steps = some z → dg d a + m ≤ z := h1
  have hb' : Can p (dPut d a (dg d a + m)) (.did b n) := hb
  obtain ⟨v, hg⟩ := hb'.find
  obtain ⟨hl2, _, hk2⟩ := hb'.leafy rfl rfl hg
  obtain ⟨h2, _⟩ := hk2 rfl
  have h2' : ∀ z, v.steps = some z → dg (dPut d a (dg d a + m)) b + n ≤ z := h2
  have hf' : p.find a = some w := hf
  have hg' : p.find b = some v := hg
  have c1 : Can p d (.did b n) := (Took.did (d := d) hg' hl2 fun z e => by
    have := h2' z e
    rw [dg_put] at this
    split at this
    · rename_i e; subst e; omega
    · omega).can.1
  have c2 : Can p (dPut d b (dg d b + n)) (.did a m) := (Took.did (d := dPut d b (dg d b + n)) hf' hl fun z e => by
    rw [dg_put]
    split
    · rename_i e2
      subst e2
      rw [hg'] at hf'
      cases hf'
      have := h2' z e
      rw [dg_put, if_pos rfl] at this
      omega
    · exact h1' z e).can.1
  have ed : ∀ x, dg (dPut (dPut d a (dg d a + m)) b (dg (dPut d a (dg d a + m)) b + n)) x = dg (dPut (dPut d b (dg d b + n)) a (dg (dPut d b (dg d b + n)) a + m)) x := fun x => by
    simp only [dg_put]
    by_cases e1 : a = x <;> by_cases e2 : b = x
    · subst e1 e2; simp; omega
    · subst e1; simp [e2]
    · subst e2; simp [e1]
    · simp [e1, e2]
  have m1 := far_le_step (d := d) (n := a) (k := m) co.plan.fit (by omega)
  have m2 := far_le_step (d := dPut d a (dg d a + m)) (n := b) (k := n) co.plan.fit (by omega)
  have m3 := far_le_step (d := d) (n := b) (k := n) co.plan.fit (by omega)
  have m4 := far_le_step (d := dPut d b (dg d b + n)) (n := a) (k := m) co.plan.fit (by omega)
  have le1 : p.far (dPut (dPut d a (dg d a + m)) b (dg (dPut d a (dg d a + m)) b + n)) ≤ 1 := cf.sh.le
  have efar := Pl.far_congr ed p
  refine ⟨⟨⟨tb, c1⟩, ⟨ta, c2⟩, trivial⟩, ⟨rfl, ?_, ed⟩, ⟨m1, m2⟩, ⟨m3, m4⟩⟩
  show shownNext (shownNext s (p.far d) _) _ (p.far (dPut (dPut d a (dg d a + m)) b (dg (dPut d a (dg d a + m)) b + n))) = shownNext (shownNext s (p.far d) _) _ (p.far (dPut (dPut d b (dg d b + n)) a (dg (dPut d b (dg d b + n)) a + m)))
  have x1 := next_next (s := s) m1 m2 le1
  have x2 := next_next (s := s) m3 m4 (by rw [← efar]; exact le1)
  exact (x1.trans (congrArg (shownNext s (p.far d)) efar)).trans x2.symm
theorem run_take {p : Pl} {ts : List Tel} {i : Nat} : runC p (ts.take i) = runFrom (cs0 p) (ts.take i) := rfl
theorem swap_run {p : Pl} {l r : List Tel} {a b : Str} {m n : Int} (h : RunOk p (l ++ .did a m :: .did b n :: r)) (hl : (l ++ .did a m :: .did b n :: r).length ≤ 20) :
    RunOk p (l ++ .did b n :: .did a m :: r) ∧ (runC p (l ++ .did b n :: .did a m :: r)).shown = (runC p (l ++ .did a m :: .did b n :: r)).shown ∧ fallsL p (l ++ .did b n :: .did a m :: r) = fallsL p (l ++ .did a m :: .did b n :: r) := by
  have hp := run_path h
  obtain ⟨h1, h2⟩ := path_app.mp hp
  obtain ⟨⟨ta, ca⟩, ⟨tb, cb⟩, h3⟩ := h2
  have co := path_ok (cs0_ok h.plan) h1
  obtain ⟨k1, k2, ⟨k3, k4⟩, k5, k6⟩ := swap_two co ta tb ca cb
  obtain ⟨q1, q2⟩ := eq_path k2 h3
  have hp2 : Path (cs0 p) (l ++ .did b n :: .did a m :: r) := path_app.mpr ⟨h1, ⟨k1.1, k1.2.1, q1⟩⟩
  have ok : RunOk p (l ++ .did b n :: .did a m :: r) := runOk_few h.plan (path_get hp2) (by simp at hl ⊢; omega)
  have late : ∀ i, CsEq (runC p ((l ++ .did a m :: .did b n :: r).take (l.length + 2 + i))) (runC p ((l ++ .did b n :: .did a m :: r).take (l.length + 2 + i))) := fun i => by
    have e : ∀ (x y : Tel), (l ++ x :: y :: r).take (l.length + 2 + i) = l ++ (x :: y :: r.take i) := fun x y => by
      rw [List.take_append, List.take_of_length_le (by omega)]
      have : l.length + 2 + i - l.length = i + 1 + 1 := by omega
      rw [this]
      rfl
    rw [e, e]
    have e2 : ∀ (x y : Tel), runC p (l ++ (x :: y :: r.take i)) = runFrom (runFrom (runFrom (cs0 p) l) [x, y]) (r.take i) := fun x y => by
      show runFrom (cs0 p) (l ++ ([x, y] ++ r.take i)) = _
      rw [runFrom_app, runFrom_app]
    rw [e2, e2]
    exact q2 i
  have early : ∀ i, i ≤ l.length → ∀ (x y : Tel), (l ++ x :: y :: r).take i = l.take i := fun i hi x y => by
    rw [List.take_append]
    have : i - l.length = 0 := by omega
    rw [this]
    simp
  have mid : ∀ (x y : Tel), (l ++ x :: y :: r).take (l.length + 1) = l ++ [x] := fun x y => by
    rw [List.take_append, List.take_of_length_le (by omega)]
    have : l.length + 1 - l.length = 1 := by omega
    rw [this]
    rfl
  refine ⟨ok, ?_, ?_⟩
  · have z := (late r.length).shown
    have e : ∀ (x y : Tel), (l ++ x :: y :: r).take (l.length + 2 + r.length) = l ++ x :: y :: r := fun x y => List.take_of_length_le (by simp; omega)
    rw [e, e] at z
    exact z.symm
  · unfold fallsL
    have len : (l ++ Tel.did b n :: Tel.did a m :: r).length = (l ++ Tel.did a m :: Tel.did b n :: r).length := by simp
    rw [len]
    congr 1
    refine List.filter_congr fun i hi => ?_
    have far_late : ∀ i, l.length + 2 ≤ i → farAt p (l ++ .did b n :: .did a m :: r) i = farAt p (l ++ .did a m :: .did b n :: r) i := fun i hi => by
      obtain ⟨j, rfl⟩ : ∃ j, i = l.length + 2 + j := ⟨i - (l.length + 2), by omega⟩
      have z := late j
      unfold farAt
      rw [← z.plan]
      exact (Pl.far_congr z.did _).symm
    have far_early : ∀ i, i ≤ l.length → farAt p (l ++ .did b n :: .did a m :: r) i = farAt p (l ++ .did a m :: .did b n :: r) i := fun i hi => by
      unfold farAt
      rw [early i hi, early i hi]
    have f0 : ∀ x y, farAt p (l ++ x :: y :: r) l.length = (runFrom (cs0 p) l).plan.far (runFrom (cs0 p) l).did := fun x y => by
      unfold farAt
      rw [early _ (Nat.le_refl _), List.take_length]
      rfl
    have f1 : ∀ x y, farAt p (l ++ x :: y :: r) (l.length + 1) = (stepC (runFrom (cs0 p) l) x).plan.far (stepC (runFrom (cs0 p) l) x).did := fun x y => by
      unfold farAt
      rw [mid]
      have : runC p (l ++ [x]) = stepC (runFrom (cs0 p) l) x := by
        show runFrom (cs0 p) (l ++ [x]) = _
        rw [runFrom_app]
        rfl
      rw [this]
    have f2 : ∀ x y, farAt p (l ++ x :: y :: r) (l.length + 2) = (runFrom (runFrom (cs0 p) l) [x, y]).plan.far (runFrom (runFrom (cs0 p) l) [x, y]).did := fun x y => by
      unfold farAt
      have e : (l ++ x :: y :: r).take (l.length + 2) = l ++ [x, y] := by
        rw [List.take_append, List.take_of_length_le (by omega)]
        have : l.length + 2 - l.length = 2 := by omega
        rw [this]
        rfl
      rw [e]
      have : runC p (l ++ [x, y]) = runFrom (runFrom (cs0 p) l) [x, y] := runFrom_app
      rw [this]
    rw [decide_eq_decide]
    rcases Nat.lt_trichotomy i l.length with c | c | c
    · rw [far_early i (by omega), far_early (i + 1) (by omega)]
    · subst c
      rw [f0, f1, f0, f1]
      constructor
      · intro z; exact absurd z (by have k := k5; exact Rat.not_lt.mpr k)
      · intro z; exact absurd z (by have k := k3; exact Rat.not_lt.mpr k)
    · by_cases c2 : i = l.length + 1
      · subst c2
        rw [f1, f2, f1, f2]
        constructor
        · intro z; exact absurd z (by have k := k6; exact Rat.not_lt.mpr k)
        · intro z; exact absurd z (by have k := k4; exact Rat.not_lt.mpr k)
      · rw [far_late i (by omega), far_late (i + 1) (by omega)]
/-! ### small words of the walk -/
def Wide (p q : Rat) : Prop := ∃ m n, m ≤ 50000 ∧ n ≤ 50000 ∧ Lim m p ∧ Lim n q
theorem Wide.cm11 {p q : Rat} (h : Wide p q) : CMulW p.num (q.den : Int) := by
  obtain ⟨m, n, h1, h2, a, b⟩ := h
  exact cm (a.top1 h1) (b.top2 h2)
theorem Wide.cm12 {p q : Rat} (h : Wide p q) : CMulW q.num (p.den : Int) := by
  obtain ⟨m, n, h1, h2, a, b⟩ := h
  exact cm (b.top1 h2) (a.top2 h1)
theorem stand_mem {p : Pl} {ts : List Tel} (h : RunOk p ts) {s : Pl × List (Str × Int)} (m : s ∈ standsL p ts) : CsOk s.1 s.2 := by
  unfold standsL at m
  obtain ⟨i, hi, rfl⟩ := List.mem_map.mp m
  have := List.mem_range.mp hi
  exact run_co h (by omega)
theorem one_len {ts : List Tel} (h : ∀ t ∈ ts, TelOk t) : (oneL ts).length ≤ 39 * ts.length := by
  induction ts with
  | nil => simp [oneL]
  | cons t ts ih =>
    have e : oneL (t :: ts) = oneT t ++ oneL ts := by simp [oneL]
    have b := ih fun x m => h x (List.mem_cons_of_mem _ m)
    have a : (oneT t).length ≤ 39 := by
      have ht := h t List.mem_cons_self
      cases t with
      | did n k =>
        have e0 : oneT (.did n k) = if k < 40 then List.replicate k.toNat (.did n 1) else [.did n k] := rfl
        rw [e0]
        split
        · rw [List.length_replicate]; omega
        · simp
      | knows n k => simp [oneT]
      | found a b c d => simp [oneT]
      | again n => simp [oneT]
    rw [e, List.length_append, List.length_cons]
    omega
theorem one_snoc {ts : List Tel} {t : Tel} : oneL (ts ++ [t]) = oneL ts ++ oneT t := by simp [oneL]
theorem one_next {ts : List Tel} {i : Nat} {t : Tel} (h : ts[i]? = some t) : oneL (ts.take (i + 1)) = oneL (ts.take i) ++ oneT t := by
  rw [List.take_add_one, h]
  exact one_snoc
theorem rep_one {t : Tel} {k : Int} : repL [t] k = List.replicate k.toNat t := by
  unfold repL
  induction k.toNat with
  | zero => rfl
  | succ n ih => rw [List.replicate_succ, List.flatten_cons, ih, List.replicate_succ]; rfl
theorem did_is {t : Tel} (h : t.isDid = true) : ∃ n k, t = .did n k := by
  cases t with
  | did n k => exact ⟨n, k, rfl⟩
  | _ => simp [Tel.isDid] at h
theorem two_split {ts : List Tel} {i : Nat} {a b : Tel} (ha : ts[i]? = some a) (hb : ts[i + 1]? = some b) : ts = ts.take i ++ a :: b :: ts.drop (i + 2) := by
  obtain ⟨l1, e1⟩ := List.getElem?_eq_some_iff.mp ha
  obtain ⟨l2, e2⟩ := List.getElem?_eq_some_iff.mp hb
  conv => lhs; rw [← List.take_append_drop i ts]
  rw [List.drop_eq_getElem_cons l1, List.drop_eq_getElem_cons l2, e1, e2]
theorem shown_snoc' {p : Pl} {ts : List Tel} {i : Nat} {t : Tel} (h : ts[i]? = some t) : shownL p (ts.take (i + 1)) = shownL p (ts.take i) ++ [shownNext (runC p (ts.take i)).shown (farAt p ts i) (farAt p ts (i + 1))] := by
  have lt := (List.getElem?_eq_some_iff.mp h).1
  rw [shown_snoc h, ← shown_step lt, runC_next h]
theorem ne_of_iff {p q : Prop} [Decidable p] [Decidable q] (h : p ↔ q) : (decide p != decide q) = false := by
  by_cases c : p
  · rw [decide_eq_true c, decide_eq_true (h.mp c)]; rfl
  · rw [decide_eq_false c, decide_eq_false (fun z => c (h.mpr z))]; rfl
end Hf

namespace Hf
open PySem PySem.Spec PyProof.Rows L2 ClX
/-! ### the time left: plain -/
def pk (a : Int × Int) (w : Int) : Int := if w = 0 then a.1 else a.2
def pg (pc : List (Str × (Int × Int))) (n : Str) : Int × Int := (dGet pc n).getD (0, 0)
def togV (row : Bool) (ts : List Int) : Int := if row = true then ts.sum else maxL ts
namespace Pl
mutual
def leftV (did : List (Str × Int)) (pc : List (Str × (Int × Int))) (wh : Int) : Pl → Option Int
  | .leaf n s => match s with
    | none => none
    | some m => some ((m - dg did n) * pk (pg pc n) wh)
  | .lot r _ ps => if ((leftsV did pc wh ps).any fun o => o.isNone) = true then none else some (togV r ((leftsV did pc wh ps).map fun o => o.getD 0))
def leftsV (did : List (Str × Int)) (pc : List (Str × (Int × Int))) (wh : Int) : List (Int × Pl) → List (Option Int)
  | [] => []
  | (_, w) :: ps => leftV did pc wh w :: leftsV did pc wh ps
end
theorem leftsV_map {did : List (Str × Int)} {pc : List (Str × (Int × Int))} {wh : Int} : ∀ ps : List (Int × Pl), leftsV did pc wh ps = ps.map fun q : Int × Pl => leftV did pc wh q.2
  | [] => by simp only [leftsV, List.map_nil]
  | (i, w) :: ps => by simp only [leftsV, List.map_cons]; rw [leftsV_map ps]
end Pl
def PaceOk (a : Int × Int) : Prop := (0 ≤ a.1 ∧ a.1 ≤ 1000) ∧ 0 ≤ a.2 ∧ a.2 ≤ 1000
structure LeftOk (w : Pl) (did : List (Str × Int)) (pc : List (Str × (Int × Int))) : Prop where
  fit : w.Fit
  cnt : CntOk did w
  few : w.names.length ≤ 20
  pace : ∀ l ∈ w.leaves, ∃ a, dGet pc l.name = some a ∧ PaceOk a
theorem leaves_of_part {w : Pl} {q : Int × Pl} (m : q ∈ w.parts) {l : Pl} (h : l ∈ q.2.leaves) : l ∈ w.leaves := by
  have hl : w.isLeaf = false := by
    cases w with
    | leaf n s => simp [Pl.parts] at m
    | lot r n ps => rfl
  rw [leaves_eq w hl, Pl.leavess_eq]
  exact List.mem_flatMap.mpr ⟨q, m, h⟩
theorem LeftOk.part {w : Pl} {did : List (Str × Int)} {pc : List (Str × (Int × Int))} (h : LeftOk w did pc) {q : Int × Pl} (m : q ∈ w.parts) : LeftOk q.2 did pc :=
  ⟨fit_part h.fit m, h.cnt.part m, Nat.le_trans (names_sub m).length_le h.few, fun l hl => h.pace l (leaves_of_part m hl)⟩
theorem left_leaf {w : Pl} {did : List (Str × Int)} {pc : List (Str × (Int × Int))} {wh : Int} (hl : w.isLeaf = true) (hs : w.steps.isNone = false) : Pl.leftV did pc wh w = some ((w.steps.getD 0 - (dGet did w.name).getD 0) * pk (pg pc w.name) wh) := by
  cases w with
  | leaf n s =>
    cases s with
    | none => simp [Pl.steps] at hs
    | some m => simp only [Pl.leftV]; rfl
  | lot r n ps => simp [Pl.isLeaf] at hl
theorem left_leaf0 {w : Pl} {did : List (Str × Int)} {pc : List (Str × (Int × Int))} {wh : Int} (hl : w.isLeaf = true) (hs : w.steps.isNone = true) : Pl.leftV did pc wh w = none := by
  cases w with
  | leaf n s =>
    cases s with
    | none => simp only [Pl.leftV]
    | some m => simp [Pl.steps] at hs
  | lot r n ps => simp [Pl.isLeaf] at hl
theorem left_lot {w : Pl} {did : List (Str × Int)} {pc : List (Str × (Int × Int))} {wh : Int} (hl : w.isLeaf = false) : Pl.leftV did pc wh w = if ((w.parts.map fun q : Int × Pl => Pl.leftV did pc wh q.2).any fun o => o.isNone) = true then none else some (togV w.isRow ((w.parts.map fun q : Int × Pl => Pl.leftV did pc wh q.2).map fun o => o.getD 0)) := by
  obtain ⟨r, n, ps, rfl⟩ := lot_of hl
  simp only [Pl.leftV, Pl.leftsV_map]
  have : (Pl.lot r n ps).isRow = r := by cases r <;> rfl
  rw [this]
  rfl
theorem left_size {w : Pl} {did : List (Str × Int)} {pc : List (Str × (Int × Int))} {wh : Int} (h : LeftOk w did pc) (hl : w.isLeaf = true) (hs : w.steps.isNone = false) : (-(2 ^ 64) < pk (pg pc w.name) wh ∧ pk (pg pc w.name) wh < 2 ^ 64) ∧ dGet pc w.name = some (pg pc w.name) := by
  obtain ⟨a, e, ⟨h1, h2⟩, h3, h4⟩ := h.pace w (by rw [leaves_leaf hl]; exact List.mem_cons_self)
  have e2 : pg pc w.name = a := by unfold pg; rw [e]; rfl
  rw [e2, e]
  refine ⟨?_, rfl⟩
  unfold pk
  split <;> omega
def leftT (p : Pl) (did : List (Str × Int)) (pc : List (Str × (Int × Int))) : Option (Int × Int) :=
  if (Pl.leftV did pc 0 p).isNone = true then none else some ((Pl.leftV did pc 0 p).getD 0, (Pl.leftV did pc 1 p).getD 0)
def isPaceB (a : Int × Int) : Bool := isNum a.1 0 1000 && isNum a.2 a.1 1000
structure PacesOk (p : Pl) (pc : List (Str × (Int × Int))) : Prop where
  len : pc.length = p.leaves.length
  pace : ∀ l ∈ p.leaves, ∃ a, dGet pc l.name = some a ∧ isPaceB a = true
theorem pace_ok {a : Int × Int} (h : isPaceB a = true) : PaceOk a := by
  simp only [isPaceB, isNum, Bool.and_eq_true, decide_eq_true_eq] at h
  exact ⟨by omega, by omega⟩
theorem left_none : ∀ {p : Pl} {did : List (Str × Int)} {pc : List (Str × (Int × Int))} {a b : Int}, (Pl.leftV did pc a p).isNone = (Pl.leftV did pc b p).isNone := fun {p did pc a b} => by
  have key : ∀ (k : Nat) (p : Pl), p.depth ≤ k → (Pl.leftV did pc a p).isNone = (Pl.leftV did pc b p).isNone := fun k => by
    induction k with
    | zero => intro p h; have := Pl.depth_pos p; omega
    | succ k ih =>
      intro p hd
      cases hl : p.isLeaf with
      | true =>
        cases hs : p.steps.isNone with
        | true => rw [left_leaf0 hl hs, left_leaf0 hl hs]
        | false => rw [left_leaf hl hs, left_leaf hl hs]; rfl
      | false =>
        rw [left_lot hl, left_lot hl]
        have e : ((p.parts.map fun q : Int × Pl => Pl.leftV did pc a q.2).any fun o => o.isNone) = ((p.parts.map fun q : Int × Pl => Pl.leftV did pc b q.2).any fun o => o.isNone) := by
          rw [List.any_map, List.any_map]
          refine Bool.eq_iff_iff.mpr ⟨fun h => ?_, fun h => ?_⟩
          · obtain ⟨q, hq, z⟩ := List.any_eq_true.mp h
            exact List.any_eq_true.mpr ⟨q, hq, by simp only [Function.comp] at z ⊢; rw [← ih q.2 (by have := Pl.part_depth hq; omega)]; exact z⟩
          · obtain ⟨q, hq, z⟩ := List.any_eq_true.mp h
            exact List.any_eq_true.mpr ⟨q, hq, by simp only [Function.comp] at z ⊢; rw [ih q.2 (by have := Pl.part_depth hq; omega)]; exact z⟩
        rw [e]
        split <;> rfl
  exact key p.depth p (Nat.le_refl _)
/-! ### small rules -/
section
variable {X : Cx} {E : Ent} {Γ Γ' : List Slot} {D : Ends} {e f g o : Expr} {es : List Expr} {rest : List Stmt} {pos p p2 apos cpos : Pos} {α β γ : Type} {r : Rp α} {x : α} {s : Rp β} {y : β} {as : List α} {j k : Nat}
/-- all are some -/
theorem all2_some {G : Hp} {d : α} : ∀ {vs : List V} {os : List (Option α)}, All2 (rOpt r) G vs os → (os.any fun o => o.isNone) = false → All2 r G vs (os.map fun o => o.getD d)
  | _, _, .nil, _ => .nil
  | _, _, .cons (a := o) h t, hn => by
    rw [List.any_cons, Bool.or_eq_false_iff] at hn
    cases o with
    | none => simp at hn
    | some a => exact .cons h (all2_some t hn.2)
theorem ev_unopts {os : List (Option α)} {d : α} (hn : (os.any fun o => o.isNone) = false) (h : Ev X Γ e (rLst (rOpt r)) os) : Ev X Γ e (rLst r) (os.map fun o => o.getD d) := fun E G H σ hh Q q => h E G H σ hh Q fun v G' H' l ⟨p, vs, h1, h2, h3⟩ => q v G' H' l ⟨p, vs, h1, h2, all2_some h3 hn⟩
theorem inV_non {G : Hp} : ∀ {vs : List V} {os : List (Option Int)}, All2 (rOpt rInt) G vs os → vs.all flatV = true ∧ inV .non vs = os.any fun o => o.isNone
  | _, _, .nil => ⟨rfl, rfl⟩
  | _, _, .cons (v := v) (vs := vs) (a := o) h t => by
    obtain ⟨a, b⟩ := inV_non t
    cases o with
    | none =>
      have e : v = .non := h
      subst e
      refine ⟨by rw [List.all_cons, a]; rfl, ?_⟩
      show (eqV .non .non || inV .non vs) = _
      rw [b]
      rfl
    | some i =>
      have e : v = .int i := h
      subst e
      refine ⟨by rw [List.all_cons, a]; rfl, ?_⟩
      show (eqV (.int i) .non || inV .non vs) = _
      rw [b]
      rfl
theorem gv_inN {os : List (Option Int)} : Gives (rIn X.K false) rNon () (rLst (rOpt rInt)) os rBool (os.any fun o => o.isNone) := fun G H a b e h1 ⟨p, vs, e2, hp, ha⟩ Q q => by
  have e1 : a = .non := h1
  subst e1
  obtain ⟨fl, iv⟩ := inV_non ha
  exact ⟨p, _, e2, .inl (.inl (.inl (e _ _ hp))), rfl, fl, by rw [iv]; exact q _ G H (.refl e) rfl⟩
theorem et_inN {os : List (Option Int)} (ha : Ev X Γ e rNon ()) (hb : Ev X Γ f (rLst (rOpt rInt)) os) (hm : behindInMarks .In f = false := by rfl) : EvT X Γ (.Compare e [.In] [f] pos) (os.any fun o => o.isNone) := et_cmpR op_in_seq ha hb gv_inN hm
/-- pair[i], i told -/
theorem ev_t2ix {a : Int × Int} {i : Int} (h : Ev X Γ e (rT2 X.K rInt rInt) a) (hi : Ev X Γ f rInt i) (h01 : i = 0 ∨ i = 1) (hs : PlainIx f := by exact plain_of rfl) : Ev X Γ (.Subscript e f pos) rInt (pk a i) := fun E G H σ hh Q q =>
  WE.of (pe_ix ix_tup WE.pe WE.pe hs) (h E G H σ hh _ fun v G1 H1 l1 ⟨p, v1, v2, e1, hp, h1, h2⟩ => hi E G1 H1 σ (hh.step l1) _ fun w G2 H2 l2 r2 => by
    have e2 : w = .int i := r2
    subst e2
    have h1' : v1 = .int a.1 := h1
    have h2' : v2 = .int a.2 := h2
    subst h1' h2'
    rcases h01 with z | z
    · subst z
      exact ⟨p, _, 0, _, e1, rfl, Evl.ex_t l2.h (Evl.ex_t l1.gh hp), rfl, q _ G2 H2 (l1.trans l2) rfl⟩
    · subst z
      exact ⟨p, _, 1, _, e1, rfl, Evl.ex_t l2.h (Evl.ex_t l1.gh hp), rfl, q _ G2 H2 (l1.trans l2) rfl⟩)
/-- {k: x}, {k: x, l: y} -/
theorem kv_put {G : Hp} {kvs : List (Key × V)} {ds : List (Str × α)} {n : Str} {v : V} (h : KvAt r G kvs ds) (hv : r.rel G v x) : KvAt r G (putK kvs (.inr n) v) (dPut ds n x) := h.put hv
theorem eo_disp1 {n : Str} {i1 : Nat} {q1 : Pos} (h1 : Ev X Γ e r x) : EvO X Γ (.Dict [some (.Constant (.str n) i1 q1)] [e] pos) (oDic r (dPut [] n x)) := fun E G H σ hh Q q =>
  WE.of (pe_disp (pps_cons pe_str WE.pe pps_nil) rfl rfl (by simp) (by simp)) fun p np => by
    have l0 : Le G H G (upd H p (.dK [])) := (Le.refl hh.le.gh).addO np
    have gp : G p = none := Evl.fresh_back hh.le.gh np
    refine h1 E G _ σ (hh.step l0) _ fun v G1 H1 l1 r1 => ?_
    have hp : H1 p = some (.dK []) := l1.h _ _ upd_same
    have gp1 : G1 p = none := by
      cases z : G1 p with
      | none => rfl
      | some u => have := l1.new p u z gp; rw [upd_same] at this; cases this
    refine ⟨hp, [(.inr n, v)], rfl, by simp, ?_⟩
    have e2 : mergeK [] [((Sum.inr n : Key), v)] = putK [] (.inr n) v := rfl
    rw [e2]
    refine q p _ G1 _ np ?_ gp1 upd_same ⟨_, rfl, (KvAt.nil.put (r := r) (a := x) r1)⟩
    refine ⟨l0.g.trans l1.g, fun a u z => ?_, fun a u z => ?_, fun a u z1 z2 => ?_⟩
    · have ne : a ≠ p := fun w => by subst w; rw [np] at z; cases z
      rw [upd_ne ne]
      exact l1.h _ _ (by rw [upd_ne ne]; exact z)
    · have ne : a ≠ p := fun w => by subst w; rw [gp1] at z; cases z
      rw [upd_ne ne]
      exact l1.gh _ _ z
    · have := l1.new a u z1 z2
      by_cases w : a = p
      · subst w; exact np
      · rw [upd_ne w] at this; exact this
theorem eo_disp2 {n m : Str} {x2 : α} {i1 i2 : Nat} {q1 q2 : Pos} (h1 : Ev X Γ e r x) (h2 : Ev X Γ f r x2) : EvO X Γ (.Dict [some (.Constant (.str n) i1 q1), some (.Constant (.str m) i2 q2)] [e, f] pos) (oDic r (dPut (dPut [] n x) m x2)) := fun E G H σ hh Q q =>
  WE.of (pe_disp (pps_cons pe_str WE.pe (pps_cons pe_str WE.pe pps_nil)) rfl rfl (by simp) (by simp)) fun p np => by
    have l0 : Le G H G (upd H p (.dK [])) := (Le.refl hh.le.gh).addO np
    have gp : G p = none := Evl.fresh_back hh.le.gh np
    refine h1 E G _ σ (hh.step l0) _ fun v G0 H0 l1 r1 => h2 E G0 H0 σ ((hh.step l0).step l1) _ fun v2 G1 H1 l2 r2 => ?_
    have l12 := l1.trans l2
    have hp : H1 p = some (.dK []) := l12.h _ _ upd_same
    have gp1 : G1 p = none := by
      cases z : G1 p with
      | none => rfl
      | some u => have := l12.new p u z gp; rw [upd_same] at this; cases this
    refine ⟨hp, [(.inr n, v), (.inr m, v2)], rfl, by simp, ?_⟩
    have e2 : mergeK [] [((Sum.inr n : Key), v), ((Sum.inr m : Key), v2)] = putK (putK [] (.inr n) v) (.inr m) v2 := rfl
    rw [e2]
    refine q p _ G1 _ np ?_ gp1 upd_same ⟨_, rfl, ((KvAt.nil.put (r := r) (a := x) (r.mono l2.g r1)).put r2)⟩
    refine ⟨l0.g.trans l12.g, fun a u z => ?_, fun a u z => ?_, fun a u z1 z2 => ?_⟩
    · have ne : a ≠ p := fun w => by subst w; rw [np] at z; cases z
      rw [upd_ne ne]
      exact l12.h _ _ (by rw [upd_ne ne]; exact z)
    · have ne : a ≠ p := fun w => by subst w; rw [gp1] at z; cases z
      rw [upd_ne ne]
      exact l12.gh _ _ z
    · have := l12.new a u z1 z2
      by_cases w : a = p
      · subst w; exact np
      · rw [upd_ne w] at this; exact this
end
/-! ### four names from a list -/
def rL4 : Rp (Int × Int × Int × Int) := ⟨fun G v a => (rLst rInt).rel G v [a.1, a.2.1, a.2.2.1, a.2.2.2], fun e h => (rLst rInt).mono e h⟩
end Hf

namespace Hf
open PySem PySem.Spec PyProof.Rows L2 ClX
/-! ### plans on paper -/
theorem runC_snoc {p : Pl} {ts : List Tel} {t : Tel} : runC p (ts ++ [t]) = stepC (runC p ts) t := by
  unfold runC
  rw [List.foldl_append]
  rfl
theorem step_of {c : Cs} {t : Tel} {p : Pl} {d : List (Str × Int)} (h : after c.plan c.did t = (p, d)) : stepC c t = ⟨p, d, shownNext c.shown (c.plan.far c.did) (p.far d)⟩ := by
  unfold stepC
  simp only [h]
theorem num_ok {i lo hi : Int} (h : lo ≤ i ∧ i ≤ hi) : isNum i lo hi = true := by
  simp only [isNum, Bool.and_eq_true, decide_eq_true_eq]
  exact h
theorem next_0 {f : Rat} (h : 0 ≤ f) : shownNext 0 0 f = f := by
  unfold shownNext
  split
  · have e : (1 : Rat) - 0 = 1 := by grind
    rw [e, Rat.div_def]
    have : (1 : Rat)⁻¹ = 1 := by grind
    rw [this]
    grind
  · grind
theorem nm_a : NameOk "a" := by unfold NameOk NOk; decide +kernel
theorem nm_b : NameOk "b" := by unfold NameOk NOk; decide +kernel
theorem nm_c : NameOk "c" := by unfold NameOk NOk; decide +kernel
theorem nm_d : NameOk "d" := by unfold NameOk NOk; decide +kernel
theorem nm_did : NameOk "did" := by unfold NameOk NOk; decide +kernel
theorem nm_row : NameOk "row" := by unfold NameOk NOk; decide +kernel
theorem tel_did {n : Str} {k : Int} (h : NameOk n) (hk : 1 ≤ k ∧ k ≤ 1000) : TelOk (.did n k) := ⟨⟨h.1, h.2.1⟩, fun _ => num_ok hk, fun z => by simp [Tel.isFound] at z⟩
theorem tel_knows {n : Str} {k : Int} (h : NameOk n) (hk : 1 ≤ k ∧ k ≤ 1000) : TelOk (.knows n k) := ⟨⟨h.1, h.2.1⟩, fun _ => num_ok hk, fun z => by simp [Tel.isFound] at z⟩
theorem tel_again {n : Str} (h : NameOk n) : TelOk (.again n) := ⟨⟨h.1, h.2.1⟩, fun z => by simp [Tel.isAgain] at z, fun z => by simp [Tel.isFound] at z⟩
/-! a row of two leaves, a third one found -/
def rowP (v w s : Int) : Pl := .lot true "a" [(v, .leaf "b" (some s)), (w, .leaf "c" (some 1))]
def rowQ (v w u s : Int) : Pl := .lot true "a" [(v, .leaf "b" (some s)), (w, .leaf "c" (some 1)), (u, .leaf "d" (some 1))]
structure RowN (v w u s : Int) : Prop where
  v : 1 ≤ v ∧ v ≤ 9
  w : 1 ≤ w ∧ w ≤ 9
  u : 1 ≤ u ∧ u ≤ 9
  s : 1 ≤ s ∧ s ≤ 9
theorem st_one : StOk (some 1) := fun i h => by cases h; decide
theorem st_num {s : Int} (h : 1 ≤ s ∧ s ≤ 1000) : StOk (some s) := fun i e => by cases e; exact num_ok h
theorem rowP_ok {v w u s : Int} (h : RowN v w u s) : PlanOk (rowP v w s) := by
  obtain ⟨hv, hw, hu, hs⟩ := h
  refine ⟨⟨?_, ⟨st_num (by omega), st_one, trivial⟩⟩, ?_, ?_, ?_, ?_⟩
  · simp [arePartsB, isNum]; omega
  · intro n hn
    simp [rowP, Pl.names, Pl.namess] at hn
    rcases hn with rfl | rfl | rfl
    · exact nm_a
    · exact nm_b
    · exact nm_c
  · show (["a", "b", "c"] : List Str).Nodup
    decide
  · show (["a", "b", "c"] : List Str).length ≤ 20
    decide
  · simp only [rowP, Pl.depth, Pl.depths]; omega
theorem rowQ_ok {v w u s : Int} (h : RowN v w u s) : PlanOk (rowQ v w u s) := by
  obtain ⟨hv, hw, hu, hs⟩ := h
  refine ⟨⟨?_, ⟨st_num (by omega), st_one, st_one, trivial⟩⟩, ?_, ?_, ?_, ?_⟩
  · simp [arePartsB, isNum]; omega
  · intro n hn
    simp [rowQ, Pl.names, Pl.namess] at hn
    rcases hn with rfl | rfl | rfl | rfl
    · exact nm_a
    · exact nm_b
    · exact nm_c
    · exact nm_d
  · show (["a", "b", "c", "d"] : List Str).Nodup
    decide
  · show (["a", "b", "c", "d"] : List Str).length ≤ 20
    decide
  · simp only [rowQ, Pl.depth, Pl.depths]; omega
theorem farP {v w s : Int} {d : List (Str × Int)} : (rowP v w s).far d = ((v : Rat) / ((v : Rat) + w)) * ((dg d "b" : Rat) / (s : Rat)) + ((w : Rat) / ((v : Rat) + w)) * (dg d "c" : Rat) := by
  simp only [rowP, Pl.far, Pl.fars, List.map_cons, List.map_nil, List.sum_cons, List.sum_nil]
  have e : ((v + (w + 0) : Int) : Rat) = (v : Rat) + w := by push_cast; grind
  have e2 : (dg d "c" : Rat) / ((1 : Int) : Rat) = (dg d "c" : Rat) := by
    have : ((1 : Int) : Rat) = 1 := rfl
    rw [this, Rat.div_def]
    have : (1 : Rat)⁻¹ = 1 := by grind
    rw [this]
    grind
  rw [e, e2]
  grind
theorem farQ {v w u s : Int} {d : List (Str × Int)} : (rowQ v w u s).far d = ((v : Rat) / ((v : Rat) + w + u)) * ((dg d "b" : Rat) / (s : Rat)) + ((w : Rat) / ((v : Rat) + w + u)) * (dg d "c" : Rat) + ((u : Rat) / ((v : Rat) + w + u)) * (dg d "d" : Rat) := by
  simp only [rowQ, Pl.far, Pl.fars, List.map_cons, List.map_nil, List.sum_cons, List.sum_nil]
  have e : ((v + (w + (u + 0)) : Int) : Rat) = (v : Rat) + w + u := by push_cast; grind
  have e2 : ∀ x : Rat, x / ((1 : Int) : Rat) = x := fun x => by
    have : ((1 : Int) : Rat) = 1 := rfl
    rw [this, Rat.div_def]
    have : (1 : Rat)⁻¹ = 1 := by grind
    rw [this]
    grind
  rw [e, e2, e2]
  grind
abbrev d1 (s : Int) : List (Str × Int) := [("b", s)]
abbrev d3 (s : Int) : List (Str × Int) := [("b", s), ("c", 1)]
abbrev d4 (s : Int) : List (Str × Int) := [("b", s), ("c", 1), ("d", 1)]
abbrev d5 : List (Str × Int) := [("b", 0), ("c", 0), ("d", 0)]
abbrev d6 : List (Str × Int) := [("b", 0), ("c", 0), ("d", 1)]
abbrev r1 (s : Int) : Tel := .did "b" s
abbrev r2 (u : Int) : Tel := .found "a" u "d" (some 1)
abbrev r3 : Tel := .did "c" 1
abbrev r4 : Tel := .did "d" 1
abbrev r5 : Tel := .again "a"
theorem af1 {v w s : Int} : after (rowP v w s) [] (r1 s) = (rowP v w s, (d1 s)) := by
  show (rowP v w s, dPut [] "b" (dg [] "b" + s)) = _
  have : dg [] "b" + s = s := by show (0 : Int) + s = s; omega
  rw [this]
  rfl
theorem af2 {v w u s : Int} {d : List (Str × Int)} : after (rowP v w s) d (r2 u) = (rowQ v w u s, d) := rfl
theorem af3 {v w u s : Int} : after (rowQ v w u s) (d1 s) r3 = (rowQ v w u s, (d3 s)) := rfl
theorem af4 {v w u s : Int} : after (rowQ v w u s) (d3 s) r4 = (rowQ v w u s, (d4 s)) := rfl
theorem af5 {v w u s : Int} : after (rowQ v w u s) (d3 s) r5 = (rowQ v w u s, d5) := rfl
theorem af6 {v w u s : Int} : after (rowQ v w u s) d5 r4 = (rowQ v w u s, d6) := rfl
/-- the shares told, on paper -/
def f1 (v w : Int) : Rat := (v : Rat) / ((v : Rat) + w)
def f2 (v w u : Int) : Rat := (v : Rat) / ((v : Rat) + w + u)
def f3 (v w u : Int) : Rat := ((v : Rat) + w) / ((v : Rat) + w + u)
def s3 (v w u : Int) : Rat := 1 - (1 - f1 v w) * ((1 - f3 v w u) / (1 - f2 v w u))
def f5 (v w u : Int) : Rat := (u : Rat) / ((v : Rat) + w + u)
def s5 (v w u : Int) : Rat := 1 - (1 - s3 v w u) * (1 - f5 v w u)
section
variable {v w u s : Int} (h : RowN v w u s)
theorem posn {i : Int} (h : 1 ≤ i) : (0 : Rat) < (i : Rat) := by exact_mod_cast (show 0 < i by omega)
theorem div_ne {a b : Rat} (hb : b ≠ 0) (h : a = b) : a / b = 1 := by
  subst h
  rw [Rat.div_def, Rat.mul_inv_cancel a hb]
include h
theorem far1 : (rowP v w s).far (d1 s) = f1 v w := by
  have a := posn h.v.1; have b := posn h.w.1; have c := posn h.s.1
  rw [farP]
  have e1 : dg (d1 s) "b" = s := rfl
  have e2 : dg (d1 s) "c" = 0 := rfl
  rw [e1, e2]
  unfold f1
  have e3 : (s : Rat) / (s : Rat) = 1 := div_ne (by grind) rfl
  have e4 : ((0 : Int) : Rat) = 0 := rfl
  rw [e3, e4]
  grind
theorem far2 : (rowQ v w u s).far (d1 s) = f2 v w u := by
  have c := posn h.s.1
  rw [farQ]
  have e1 : dg (d1 s) "b" = s := rfl
  have e2 : dg (d1 s) "c" = 0 := rfl
  have e5 : dg (d1 s) "d" = 0 := rfl
  rw [e1, e2, e5]
  unfold f2
  have e3 : (s : Rat) / (s : Rat) = 1 := div_ne (by grind) rfl
  have e4 : ((0 : Int) : Rat) = 0 := rfl
  rw [e3, e4]
  grind
theorem far3 : (rowQ v w u s).far (d3 s) = f3 v w u := by
  have c := posn h.s.1
  rw [farQ]
  have e1 : dg (d3 s) "b" = s := rfl
  have e2 : dg (d3 s) "c" = 1 := rfl
  have e5 : dg (d3 s) "d" = 0 := rfl
  rw [e1, e2, e5]
  unfold f3
  have e3 : (s : Rat) / (s : Rat) = 1 := div_ne (by grind) rfl
  have e4 : ((0 : Int) : Rat) = 0 := rfl
  have e6 : ((1 : Int) : Rat) = 1 := rfl
  rw [e3, e4, e6]
  grind
theorem far4 : (rowQ v w u s).far (d4 s) = 1 := by
  have a := posn h.v.1; have b := posn h.w.1; have c := posn h.s.1; have d := posn h.u.1
  rw [farQ]
  have e1 : dg (d4 s) "b" = s := rfl
  have e2 : dg (d4 s) "c" = 1 := rfl
  have e5 : dg (d4 s) "d" = 1 := rfl
  rw [e1, e2, e5]
  have e3 : (s : Rat) / (s : Rat) = 1 := div_ne (by grind) rfl
  have e6 : ((1 : Int) : Rat) = 1 := rfl
  have e7 : ((v : Rat) + w + u) / ((v : Rat) + w + u) = 1 := div_ne (by grind) rfl
  rw [e3, e6]
  rw [Rat.div_def] at e7 ⊢
  rw [Rat.div_def, Rat.div_def]
  grind
theorem far5 : (rowQ v w u s).far d5 = 0 := by
  rw [farQ]
  have e1 : dg d5 "b" = 0 := rfl
  have e2 : dg d5 "c" = 0 := rfl
  have e5 : dg d5 "d" = 0 := rfl
  rw [e1, e2, e5]
  have e4 : ((0 : Int) : Rat) = 0 := rfl
  rw [e4, Rat.div_def 0, Rat.zero_mul]
  grind
theorem far6 : (rowQ v w u s).far d6 = f5 v w u := by
  rw [farQ]
  have e1 : dg d6 "b" = 0 := rfl
  have e2 : dg d6 "c" = 0 := rfl
  have e5 : dg d6 "d" = 1 := rfl
  rw [e1, e2, e5]
  have e4 : ((0 : Int) : Rat) = 0 := rfl
  have e6 : ((1 : Int) : Rat) = 1 := rfl
  rw [e4, e6, Rat.div_def 0, Rat.zero_mul]
  unfold f5
  grind
/-- order of the shares -/
theorem ord : 0 < f1 v w ∧ f2 v w u < f1 v w ∧ f2 v w u < f3 v w u ∧ f3 v w u < 1 ∧ 0 < f5 v w u ∧ 0 < f3 v w u ∧ f1 v w < 1 ∧ f2 v w u < 1 ∧ f5 v w u < 1 := by
  have a := posn h.v.1; have b := posn h.w.1; have d := posn h.u.1
  have lt : ∀ {x y : Rat}, 0 < y → x < y → x / y < 1 := fun {x y} hy hx => by
    refine Rat.not_le.mp fun z => ?_
    have := Rat.mul_le_mul_of_nonneg_right z (Rat.le_of_lt hy)
    rw [Rat.div_mul_cancel (by grind)] at this
    grind
  have gt : ∀ {x y : Rat}, 0 < y → 0 < x → 0 < x / y := fun {x y} hy hx => by
    refine Rat.not_le.mp fun z => ?_
    have := Rat.mul_le_mul_of_nonneg_right z (Rat.le_of_lt hy)
    rw [Rat.div_mul_cancel (by grind)] at this
    grind
  have cmp : ∀ {x y z : Rat}, 0 < y → x < z → x / y < z / y := fun {x y z} hy hx => by
    refine Rat.not_le.mp fun q => ?_
    have := Rat.mul_le_mul_of_nonneg_right q (Rat.le_of_lt hy)
    rw [Rat.div_mul_cancel (by grind), Rat.div_mul_cancel (by grind)] at this
    grind
  refine ⟨gt (by grind) a, ?_, cmp (by grind) (by grind), lt (by grind) (by grind), gt (by grind) d, gt (by grind) (by grind), lt (by grind) (by grind), lt (by grind) (by grind), lt (by grind) (by grind)⟩
  · unfold f1 f2
    refine Rat.not_le.mp fun q => ?_
    have hy : (0 : Rat) < (v : Rat) + w := by grind
    have hz : (0 : Rat) < (v : Rat) + w + u := by grind
    have k := Rat.mul_le_mul_of_nonneg_right (Rat.mul_le_mul_of_nonneg_right q (Rat.le_of_lt hy)) (Rat.le_of_lt hz)
    rw [Rat.div_mul_cancel (by grind)] at k
    have e : (v : Rat) / ((v : Rat) + w + u) * ((v : Rat) + w) * ((v : Rat) + w + u) = v * ((v : Rat) + w) := by
      have := Rat.div_mul_cancel (a := (v : Rat)) (b := (v : Rat) + w + u) (by grind)
      grind
    rw [e] at k
    have m : 0 < (v : Rat) * u := Rat.mul_pos a d
    grind
theorem st1 : runC (rowP v w s) [r1 s] = ⟨rowP v w s, (d1 s), f1 v w⟩ := by
  show stepC (cs0 (rowP v w s)) (r1 s) = _
  rw [step_of (c := cs0 (rowP v w s)) af1]
  have e0 : (cs0 (rowP v w s)).plan.far (cs0 (rowP v w s)).did = 0 := Pl.far_nil _
  rw [e0, far1 h]
  show (⟨_, _, shownNext 0 0 (f1 v w)⟩ : Cs) = _
  rw [next_0 (Rat.le_of_lt (ord h).1)]
theorem st2 : runC (rowP v w s) [r1 s, r2 u] = ⟨rowQ v w u s, (d1 s), f1 v w⟩ := by
  show runC (rowP v w s) ([r1 s] ++ [r2 u]) = _
  rw [runC_snoc, st1 h, step_of (c := ⟨rowP v w s, (d1 s), f1 v w⟩) af2]
  show (⟨_, _, shownNext (f1 v w) ((rowP v w s).far (d1 s)) ((rowQ v w u s).far (d1 s))⟩ : Cs) = _
  rw [far1 h, far2 h]
  unfold shownNext
  rw [if_neg (by have := (ord h).2.1; grind)]
theorem st3 : runC (rowP v w s) [r1 s, r2 u, r3] = ⟨rowQ v w u s, (d3 s), s3 v w u⟩ := by
  show runC (rowP v w s) ([r1 s, r2 u] ++ [r3]) = _
  rw [runC_snoc, st2 h, step_of (c := ⟨rowQ v w u s, (d1 s), f1 v w⟩) af3]
  show (⟨_, _, shownNext (f1 v w) ((rowQ v w u s).far (d1 s)) ((rowQ v w u s).far (d3 s))⟩ : Cs) = _
  rw [far2 h, far3 h]
  unfold shownNext
  rw [if_pos (ord h).2.2.1]
  rfl
theorem st4 : runC (rowP v w s) [r1 s, r2 u, r3, r4] = ⟨rowQ v w u s, (d4 s), 1⟩ := by
  show runC (rowP v w s) ([r1 s, r2 u, r3] ++ [r4]) = _
  rw [runC_snoc, st3 h, step_of (c := ⟨rowQ v w u s, (d3 s), s3 v w u⟩) af4]
  show (⟨_, _, shownNext (s3 v w u) ((rowQ v w u s).far (d3 s)) ((rowQ v w u s).far (d4 s))⟩ : Cs) = _
  rw [far3 h, far4 h]
  unfold shownNext
  rw [if_pos (ord h).2.2.2.1]
  have e : (1 : Rat) - 1 = 0 := by grind
  rw [e, Rat.div_def, Rat.zero_mul, Rat.mul_zero]
  have e2 : (1 : Rat) - 0 = 1 := by grind
  rw [e2]
theorem st5 : runC (rowP v w s) [r1 s, r2 u, r3, r5] = ⟨rowQ v w u s, d5, s3 v w u⟩ := by
  show runC (rowP v w s) ([r1 s, r2 u, r3] ++ [r5]) = _
  rw [runC_snoc, st3 h, step_of (c := ⟨rowQ v w u s, (d3 s), s3 v w u⟩) af5]
  show (⟨_, _, shownNext (s3 v w u) ((rowQ v w u s).far (d3 s)) ((rowQ v w u s).far d5)⟩ : Cs) = _
  rw [far3 h, far5 h]
  unfold shownNext
  rw [if_neg (by have := (ord h).2.2.2.2.2.1; grind)]
theorem st6 : runC (rowP v w s) [r1 s, r2 u, r3, r5, r4] = ⟨rowQ v w u s, d6, s5 v w u⟩ := by
  show runC (rowP v w s) ([r1 s, r2 u, r3, r5] ++ [r4]) = _
  rw [runC_snoc, st5 h, step_of (c := ⟨rowQ v w u s, d5, s3 v w u⟩) af6]
  show (⟨_, _, shownNext (s3 v w u) ((rowQ v w u s).far d5) ((rowQ v w u s).far d6)⟩ : Cs) = _
  rw [far5 h, far6 h]
  unfold shownNext s5
  rw [if_pos (ord h).2.2.2.2.1]
  have e2 : (1 : Rat) - 0 = 1 := by grind
  have e3 : (1 : Rat)⁻¹ = 1 := by grind
  rw [e2, Rat.div_def, e3]
  grind
/-! they can be -/
theorem can1 : Can (rowP v w s) [] (r1 s) := (Took.did (w := .leaf "b" (some s)) rfl rfl fun z e => by
  cases e
  show (0 : Int) + s ≤ s
  omega).can.1
theorem can2 : Can (rowP v w s) (d1 s) (r2 u) := (Took.found (w := rowP v w s) (n := "a") (ln := "d") (wt := u) (st := some 1) (d := d1 s) rfl rfl (show PlanOk (Pl.withLeaf "a" u (.leaf "d" (some 1)) (rowP v w s)) from rowQ_ok h)).can.1
theorem can3 : Can (rowQ v w u s) (d1 s) r3 := (Took.did (w := .leaf "c" (some 1)) rfl rfl fun z e => by cases e; show (0 : Int) + 1 ≤ 1; decide).can.1
theorem can4 : Can (rowQ v w u s) (d3 s) r4 := (Took.did (w := .leaf "d" (some 1)) rfl rfl fun z e => by cases e; show (0 : Int) + 1 ≤ 1; decide).can.1
theorem can5 : Can (rowQ v w u s) (d3 s) r5 := (Took.again (w := rowQ v w u s) rfl).can.1
theorem can6 : Can (rowQ v w u s) d5 r4 := (Took.did (w := .leaf "d" (some 1)) rfl rfl fun z e => by cases e; show (0 : Int) + 1 ≤ 1; decide).can.1
theorem tel2 : TelOk (r2 u) := ⟨⟨nm_a.1, nm_a.2.1⟩, fun _ => num_ok (show 1 ≤ u ∧ u ≤ 100 by have := h.u; omega), fun _ => ⟨⟨nm_d.1, nm_d.2.1⟩, st_one⟩⟩
theorem row_path : Path (cs0 (rowP v w s)) [r1 s, r2 u, r3] := by
  refine ⟨⟨tel_did nm_b (by have := h.s; omega), can1 h⟩, ?_⟩
  have e1 : stepC (cs0 (rowP v w s)) (r1 s) = _ := st1 h
  rw [e1]
  refine ⟨⟨tel2 h, can2 h⟩, ?_⟩
  have e2 : stepC ⟨rowP v w s, (d1 s), f1 v w⟩ (r2 u) = ⟨rowQ v w u s, (d1 s), f1 v w⟩ := by rw [← st1 h, ← runC_snoc]; exact st2 h
  rw [e2]
  exact ⟨⟨tel_did nm_c (by decide), can3 h⟩, trivial⟩
theorem run_at3 : runFrom (cs0 (rowP v w s)) [r1 s, r2 u, r3] = ⟨rowQ v w u s, (d3 s), s3 v w u⟩ := st3 h
theorem row_run : RunOk (rowP v w s) [r1 s, r2 u, r3, r4] := by
  have p : Path (cs0 (rowP v w s)) ([r1 s, r2 u, r3] ++ [r4]) := path_app.mpr ⟨row_path h, by
    rw [run_at3 h]
    exact ⟨⟨tel_did nm_d (by decide), can4 h⟩, trivial⟩⟩
  exact runOk_few (rowP_ok h) (path_get p) (by simp)
theorem row_run2 : RunOk (rowP v w s) [r1 s, r2 u] := by
  have p := (path_app (a := [r1 s, r2 u]) (b := [r3])).mp (row_path h)
  exact runOk_few (rowP_ok h) (path_get p.1) (by simp)
theorem row_again : RunOk (rowP v w s) [r1 s, r2 u, r3, r5, r4] := by
  have p : Path (cs0 (rowP v w s)) ([r1 s, r2 u, r3] ++ [r5, r4]) := path_app.mpr ⟨row_path h, by
    rw [run_at3 h]
    refine ⟨⟨tel_again nm_a, can5 h⟩, ?_⟩
    have e : stepC ⟨rowQ v w u s, (d3 s), s3 v w u⟩ r5 = ⟨rowQ v w u s, d5, s3 v w u⟩ := by rw [← st3 h, ← runC_snoc]; exact st5 h
    rw [e]
    exact ⟨⟨tel_did nm_d (by decide), can6 h⟩, trivial⟩⟩
  exact runOk_few (rowP_ok h) (path_get p) (by simp)
/-! what is told -/
theorem row_shown : shownL (rowP v w s) [r1 s, r2 u, r3, r4] = [0, f1 v w, f1 v w, s3 v w u, 1] := by
  show [(runC (rowP v w s) []).shown, (runC (rowP v w s) [r1 s]).shown, (runC (rowP v w s) [r1 s, r2 u]).shown, (runC (rowP v w s) [r1 s, r2 u, r3]).shown, (runC (rowP v w s) [r1 s, r2 u, r3, r4]).shown] = _
  rw [st1 h, st2 h, st3 h, st4 h]
  rfl
theorem row_shown2 : shownL (rowP v w s) [r1 s, r2 u, r3, r5, r4] = [0, f1 v w, f1 v w, s3 v w u, s3 v w u, s5 v w u] := by
  show [(runC (rowP v w s) []).shown, (runC (rowP v w s) [r1 s]).shown, (runC (rowP v w s) [r1 s, r2 u]).shown, (runC (rowP v w s) [r1 s, r2 u, r3]).shown, (runC (rowP v w s) [r1 s, r2 u, r3, r5]).shown, (runC (rowP v w s) [r1 s, r2 u, r3, r5, r4]).shown] = _
  rw [st1 h, st2 h, st3 h, st5 h, st6 h]
  rfl
theorem at0 {ts : List Tel} : farAt (rowP v w s) ts 0 = 0 := far_first
theorem at1 {ts : List Tel} : farAt (rowP v w s) (r1 s :: ts) 1 = f1 v w := by
  show (runC (rowP v w s) [r1 s]).plan.far (runC (rowP v w s) [r1 s]).did = _
  rw [st1 h]
  exact far1 h
theorem at2 {ts : List Tel} : farAt (rowP v w s) (r1 s :: r2 u :: ts) 2 = f2 v w u := by
  show (runC (rowP v w s) [r1 s, r2 u]).plan.far (runC (rowP v w s) [r1 s, r2 u]).did = _
  rw [st2 h]
  exact far2 h
theorem at3 {ts : List Tel} : farAt (rowP v w s) (r1 s :: r2 u :: r3 :: ts) 3 = f3 v w u := by
  show (runC (rowP v w s) [r1 s, r2 u, r3]).plan.far (runC (rowP v w s) [r1 s, r2 u, r3]).did = _
  rw [st3 h]
  exact far3 h
theorem at4 : farAt (rowP v w s) [r1 s, r2 u, r3, r4] 4 = 1 := by
  show (runC (rowP v w s) [r1 s, r2 u, r3, r4]).plan.far (runC (rowP v w s) [r1 s, r2 u, r3, r4]).did = _
  rw [st4 h]
  exact far4 h
theorem at5 {ts : List Tel} : farAt (rowP v w s) (r1 s :: r2 u :: r3 :: r5 :: ts) 4 = 0 := by
  show (runC (rowP v w s) [r1 s, r2 u, r3, r5]).plan.far (runC (rowP v w s) [r1 s, r2 u, r3, r5]).did = _
  rw [st5 h]
  exact far5 h
theorem at6 : farAt (rowP v w s) [r1 s, r2 u, r3, r5, r4] 5 = f5 v w u := by
  show (runC (rowP v w s) [r1 s, r2 u, r3, r5, r4]).plan.far (runC (rowP v w s) [r1 s, r2 u, r3, r5, r4]).did = _
  rw [st6 h]
  exact far6 h
theorem row_falls : fallsL (rowP v w s) [r1 s, r2 u, r3, r4] = [1] := by
  obtain ⟨o1, o2, o3, o4, o5, o6, o7, o8, o9⟩ := ord h
  show (([0, 1, 2, 3] : List Nat).filter fun i => decide (farAt (rowP v w s) [r1 s, r2 u, r3, r4] (i + 1) < farAt (rowP v w s) [r1 s, r2 u, r3, r4] i)).map (fun (i : Nat) => (i : Int)) = [1]
  simp only [List.filter_cons, List.filter_nil, Nat.zero_add, Nat.reduceAdd, at0 h, at1 h, at2 h, at3 h, at4 h]
  rw [if_neg (by simp; grind), if_pos (by simp; grind), if_neg (by simp; grind), if_neg (by simp; grind)]
  rfl
theorem row_falls2 : fallsL (rowP v w s) [r1 s, r2 u, r3, r5, r4] = [1, 3] := by
  obtain ⟨o1, o2, o3, o4, o5, o6, o7, o8, o9⟩ := ord h
  show (([0, 1, 2, 3, 4] : List Nat).filter fun i => decide (farAt (rowP v w s) [r1 s, r2 u, r3, r5, r4] (i + 1) < farAt (rowP v w s) [r1 s, r2 u, r3, r5, r4] i)).map (fun (i : Nat) => (i : Int)) = [1, 3]
  simp only [List.filter_cons, List.filter_nil, Nat.zero_add, Nat.reduceAdd, at0 h, at1 h, at2 h, at3 h, at5 h, at6 h]
  rw [if_neg (by simp; grind), if_pos (by simp; grind), if_neg (by simp; grind), if_pos (by simp; grind), if_neg (by simp; grind)]
  rfl
end
end Hf

namespace Hf
open PySem PySem.Spec PyProof.Rows L2 ClX
section
variable {v w u s : Int} (h : RowN v w u s)
include h
theorem due_1 : qd v (v + w) = f1 v w := by
  unfold qd f1
  rw [Rat.intCast_add]
theorem due_2 : qd v (v + w + u) = f2 v w u := by
  unfold qd f2
  rw [Rat.intCast_add, Rat.intCast_add]
theorem due_5 : qd u (v + w + u) = f5 v w u := by
  unfold qd f5
  rw [Rat.intCast_add, Rat.intCast_add]
theorem due_3 : qd (v * (u + w) + w * w) ((v + w) * (u + w)) = s3 v w u := by
  have a := posn h.v.1; have b := posn h.w.1; have d := posn h.u.1
  refine (qd_eq (Int.mul_pos (by have := h.v; have := h.w; omega) (by have := h.u; have := h.w; omega)) ?_).symm
  simp only [Rat.intCast_add, Rat.intCast_mul]
  unfold s3 f1 f2 f3
  have n1 : (v : Rat) + w ≠ 0 := by grind
  have n2 : (v : Rat) + w + u ≠ 0 := by grind
  have n3 : (u : Rat) + w ≠ 0 := by grind
  have e1 : (1 - (v : Rat) / (v + w)) * (v + w) = w := by
    have := Rat.div_mul_cancel (a := (v : Rat)) n1
    grind
  have e2 : (1 - (v : Rat) / (v + w + u)) * (v + w + u) = w + u := by
    have := Rat.div_mul_cancel (a := (v : Rat)) n2
    grind
  have e3 : (1 - ((v : Rat) + w) / (v + w + u)) * (v + w + u) = u := by
    have := Rat.div_mul_cancel (a := (v : Rat) + w) n2
    grind
  generalize hA : 1 - (v : Rat) / (v + w) = A at e1
  generalize hB : 1 - (v : Rat) / (v + w + u) = B at e2
  generalize hC : 1 - ((v : Rat) + w) / (v + w + u) = C at e3
  have nB : B ≠ 0 := by
    intro z
    rw [z] at e2
    grind
  have e4 : C / B * B = C := Rat.div_mul_cancel nB
  generalize C / B = R at e4
  have e5 : R * (w + u) = u := by
    have : R * (B * (v + w + u)) = C * (v + w + u) := by rw [← e4]; grind
    rw [e2, e3] at this
    exact this
  have e6 : A * R * ((v + w) * (u + w)) = w * u := by
    have : A * R * ((v + w) * (u + w)) = (A * (v + w)) * (R * (w + u)) := by grind
    rw [this, e1, e5]
  grind
theorem due_6 : qd ((s3 v w u).den * (v + w + u) - ((s3 v w u).den - (s3 v w u).num) * (v + w)) ((s3 v w u).den * (v + w + u)) = s5 v w u := by
  have a := posn h.v.1; have b := posn h.w.1; have d := posn h.u.1
  have dp := den_pos (s3 v w u)
  refine (qd_eq (Int.mul_pos dp (by have := h.v; have := h.w; have := h.u; omega)) ?_).symm
  simp only [Rat.intCast_add, Rat.intCast_mul, Rat.intCast_sub]
  have e := q_mul (s3 v w u)
  rw [e]
  unfold s5 f5
  generalize s3 v w u = S at *
  have n2 : (v : Rat) + w + u ≠ 0 := by grind
  have e2 : (u : Rat) / (v + w + u) * (v + w + u) = u := Rat.div_mul_cancel n2
  generalize (u : Rat) / (v + w + u) = R at e2
  generalize ((S.den : Int) : Rat) = N
  have : (1 - R) * (v + w + u) = (v : Rat) + w := by grind
  grind
theorem s3_ok : ShOk 8500 (s3 v w u) := by
  have z := (row_run h).sh 3 (by simp)
  have e : (runC (rowP v w s) ([r1 s, r2 u, r3, r4].take 3)).shown = s3 v w u := by
    show (runC (rowP v w s) [r1 s, r2 u, r3]).shown = _
    rw [st3 h]
  rw [e] at z
  exact z
theorem s3_lim : Lim 20 (s3 v w u) := by
  rw [← due_3 h]
  have hv := h.v; have hw := h.w; have hu := h.u
  have b1 : 0 < (v + w) * (u + w) := Int.mul_pos (by omega) (by omega)
  have b2 : (v + w) * (u + w) ≤ 18 * 18 := Int.mul_le_mul (by omega) (by omega) (by omega) (by omega)
  have b3 : 0 ≤ v * (u + w) := Int.mul_nonneg (by omega) (by omega)
  have b4 : v * (u + w) ≤ 9 * 18 := Int.mul_le_mul (by omega) (by omega) (by omega) (by omega)
  have b5 : 0 ≤ w * w := Int.mul_nonneg (by omega) (by omega)
  have b6 : w * w ≤ 9 * 9 := Int.mul_le_mul (by omega) (by omega) (by omega) (by omega)
  refine lim_qd b1 ?_ ?_
  · show _ < 1048576
    omega
  · show _ < 1048576
    omega
theorem row_far2 : (runC (rowP v w s) [r1 s, r2 u]).plan.far (runC (rowP v w s) [r1 s, r2 u]).did = f2 v w u := by
  rw [st2 h]
  exact far2 h
theorem row_worth : (runC (rowP v w s) [r1 s, r2 u]).plan.worth "d" = qd u (v + w + u) ∧ ((runC (rowP v w s) [r1 s, r2 u]).plan.find "d").isNone = false := by
  rw [st2 h]
  refine ⟨?_, rfl⟩
  show (rowQ v w u s).worth "d" = _
  have e : (rowQ v w u s).worth "d" = qd u (v + (w + (u + 0))) * 1 := rfl
  rw [e, show v + (w + (u + 0)) = v + w + u by omega]
  grind
end
/-! ### a leaf whose steps aren't known -/
theorem tog_false {l : List Int} : togV false l = maxL l := if_neg (by simp)
def bunP : Pl := .lot false "row" [(1, .leaf "did" none), (1, .leaf "b" (some 1))]
def bunQ (n : Int) : Pl := .lot false "row" [(1, .leaf "did" (some n)), (1, .leaf "b" (some 1))]
abbrev e1 (k : Int) : List (Str × Int) := [("did", k)]
abbrev e2 (k : Int) : List (Str × Int) := [("did", k), ("b", 1)]
abbrev q1 (k : Int) : Tel := .did "did" k
abbrev q2 (n : Int) : Tel := .knows "did" n
abbrev q3 : Tel := .did "b" 1
structure BunN (k m : Int) : Prop where
  k : 1 ≤ k ∧ k ≤ 50
  m : 1 ≤ m ∧ m ≤ 50
theorem bunP_ok : PlanOk bunP := by
  refine ⟨⟨by decide, ⟨(fun i e => by cases e), st_one, trivial⟩⟩, ?_, ?_, ?_, ?_⟩
  · intro n hn
    simp [bunP, Pl.names, Pl.namess] at hn
    rcases hn with rfl | rfl | rfl
    · exact nm_row
    · exact nm_did
    · exact nm_b
  · show (["row", "did", "b"] : List Str).Nodup
    decide
  · show (["row", "did", "b"] : List Str).length ≤ 20
    decide
  · simp only [bunP, Pl.depth, Pl.depths]; omega
def g2 (k n : Int) : Rat := (1 : Rat) / 2 * ((k : Rat) / (n : Rat))
def g3 (k n : Int) : Rat := (1 : Rat) / 2 * ((k : Rat) / (n : Rat)) + 1 / 2
theorem farBP {d : List (Str × Int)} : bunP.far d = (1 : Rat) / 2 * (dg d "b" : Rat) := by
  simp only [bunP, Pl.far, Pl.fars, List.map_cons, List.map_nil, List.sum_cons, List.sum_nil]
  have e : ((1 + (1 + 0) : Int) : Rat) = 2 := by rfl
  have e6 : ((1 : Int) : Rat) = 1 := rfl
  rw [e, e6]
  grind
theorem farBQ {n : Int} {d : List (Str × Int)} : (bunQ n).far d = (1 : Rat) / 2 * ((dg d "did" : Rat) / (n : Rat)) + (1 : Rat) / 2 * (dg d "b" : Rat) := by
  simp only [bunQ, Pl.far, Pl.fars, List.map_cons, List.map_nil, List.sum_cons, List.sum_nil]
  have e : ((1 + (1 + 0) : Int) : Rat) = 2 := by rfl
  have e6 : ((1 : Int) : Rat) = 1 := rfl
  rw [e, e6]
  grind
section
variable {k m : Int} (h : BunN k m)
include h
theorem bf1 : bunP.far (e1 k) = 0 := by
  rw [farBP]
  have x2 : dg (e1 k) "b" = 0 := rfl
  have x4 : ((0 : Int) : Rat) = 0 := rfl
  rw [x2, x4]
  grind
theorem bf2 : (bunQ (k + m)).far (e1 k) = g2 k (k + m) := by
  rw [farBQ]
  have x1 : dg (e1 k) "did" = k := rfl
  have x2 : dg (e1 k) "b" = 0 := rfl
  have x4 : ((0 : Int) : Rat) = 0 := rfl
  rw [x1, x2, x4]
  unfold g2
  grind
theorem bf3 : (bunQ (k + m)).far (e2 k) = g3 k (k + m) := by
  rw [farBQ]
  have x1 : dg (e2 k) "did" = k := rfl
  have x2 : dg (e2 k) "b" = 1 := rfl
  have x4 : ((1 : Int) : Rat) = 1 := rfl
  rw [x1, x2, x4]
  unfold g3
  grind
theorem g_ord : 0 ≤ g2 k (k + m) ∧ g2 k (k + m) ≤ g3 k (k + m) ∧ g3 k (k + m) ≤ 1 := by
  have a := posn h.k.1
  have b : (0 : Rat) < ((k + m : Int) : Rat) := by exact_mod_cast (show 0 < k + m by have := h.k; have := h.m; omega)
  have c : (k : Rat) ≤ ((k + m : Int) : Rat) := by exact_mod_cast (show k ≤ k + m by have := h.m; omega)
  have x1 := rat_div_mono c b
  have x2 := rat_div_mono (Rat.le_of_lt a) b
  have x3 : ((k + m : Int) : Rat) / ((k + m : Int) : Rat) = 1 := div_ne (by grind) rfl
  rw [x3] at x1
  have x4 : (0 : Rat) / ((k + m : Int) : Rat) = 0 := by rw [Rat.div_def, Rat.zero_mul]
  rw [x4] at x2
  unfold g2 g3
  generalize (k : Rat) / ((k + m : Int) : Rat) = R at x1 x2
  have y : (1 : Rat) / 2 * 2 = 1 := Rat.div_mul_cancel (by grind)
  have y2 : 2 * ((1 : Rat) / 2 * R) = R := by grind
  generalize (1 : Rat) / 2 * R = S at y2
  generalize (1 : Rat) / 2 = Hf at y
  clear x3 x4 a b c
  refine ⟨?_, ?_, ?_⟩ <;> grind
theorem bt1 : runC bunP [q1 k] = ⟨bunP, e1 k, 0⟩ := by
  show stepC (cs0 bunP) (q1 k) = _
  have ha : after (cs0 bunP).plan (cs0 bunP).did (q1 k) = (bunP, e1 k) := by
    show (bunP, dPut [] "did" (dg [] "did" + k)) = _
    have : dg [] "did" + k = k := by show (0 : Int) + k = k; omega
    rw [this]
    rfl
  rw [step_of ha]
  have e0 : (cs0 bunP).plan.far (cs0 bunP).did = 0 := Pl.far_nil _
  rw [e0, bf1 h]
  show (⟨_, _, shownNext 0 0 0⟩ : Cs) = _
  rw [next_same]
theorem bt2 : runC bunP [q1 k, q2 (k + m)] = ⟨bunQ (k + m), e1 k, g2 k (k + m)⟩ := by
  show runC bunP ([q1 k] ++ [q2 (k + m)]) = _
  rw [runC_snoc, bt1 h, step_of (c := ⟨bunP, e1 k, 0⟩) (p := bunQ (k + m)) (d := e1 k) rfl]
  show (⟨_, _, shownNext 0 (bunP.far (e1 k)) ((bunQ (k + m)).far (e1 k))⟩ : Cs) = _
  rw [bf1 h, bf2 h, next_0 (g_ord h).1]
theorem bt3 : runC bunP [q1 k, q2 (k + m), q3] = ⟨bunQ (k + m), e2 k, g3 k (k + m)⟩ := by
  show runC bunP ([q1 k, q2 (k + m)] ++ [q3]) = _
  rw [runC_snoc, bt2 h, step_of (c := ⟨bunQ (k + m), e1 k, g2 k (k + m)⟩) (p := bunQ (k + m)) (d := e2 k) rfl]
  show (⟨_, _, shownNext (g2 k (k + m)) ((bunQ (k + m)).far (e1 k)) ((bunQ (k + m)).far (e2 k))⟩ : Cs) = _
  obtain ⟨o1, o2, o3⟩ := g_ord h
  have z := next_next (s := 0) o1 o2 o3
  rw [next_0 o1] at z
  rw [bf2 h, bf3 h, z, next_0 (by grind)]
theorem bun_path : Path (cs0 bunP) [q1 k, q2 (k + m), q3] := by
  have hk := h.k; have hm := h.m
  refine ⟨⟨tel_did nm_did (by omega), (Took.did (w := .leaf "did" none) rfl rfl fun z e => by cases e).can.1⟩, ?_⟩
  have x1 : stepC (cs0 bunP) (q1 k) = _ := bt1 h
  rw [x1]
  refine ⟨⟨tel_knows nm_did (by omega), (Took.knows (w := .leaf "did" none) rfl rfl rfl (show k ≤ k + m by omega)).can.1⟩, ?_⟩
  have x2 : stepC ⟨bunP, e1 k, 0⟩ (q2 (k + m)) = ⟨bunQ (k + m), e1 k, g2 k (k + m)⟩ := by rw [← bt1 h, ← runC_snoc]; exact bt2 h
  rw [x2]
  exact ⟨⟨tel_did nm_b (by decide), (Took.did (w := .leaf "b" (some 1)) rfl rfl fun z e => by cases e; show (0 : Int) + 1 ≤ 1; decide).can.1⟩, trivial⟩
theorem bun_run : RunOk bunP [q1 k, q2 (k + m), q3] := runOk_few bunP_ok (path_get (bun_path h)) (by simp)
theorem bun_run1 : RunOk bunP [q1 k] := runOk_few bunP_ok (path_get ((path_app (a := [q1 k]) (b := [q2 (k + m), q3])).mp (bun_path h)).1) (by simp)
theorem bun_run2 : RunOk bunP [q1 k, q2 (k + m)] := runOk_few bunP_ok (path_get ((path_app (a := [q1 k, q2 (k + m)]) (b := [q3])).mp (bun_path h)).1) (by simp)
theorem bun_due2 : qd k (2 * (k + m)) = g2 k (k + m) := by
  refine (qd_eq (by have := h.k; have := h.m; omega) ?_).symm
  unfold g2
  have b : (0 : Rat) < ((k + m : Int) : Rat) := by exact_mod_cast (show 0 < k + m by have := h.k; have := h.m; omega)
  have x := Rat.div_mul_cancel (a := (k : Rat)) (b := ((k + m : Int) : Rat)) (by grind)
  rw [Rat.intCast_mul]
  have x2 : ((2 : Int) : Rat) = 2 := rfl
  rw [x2]
  generalize ((k + m : Int) : Rat) = N at *
  generalize (k : Rat) / N = R at *
  grind
theorem bun_due3 : qd (k + k + m) (2 * (k + m)) = g3 k (k + m) := by
  refine (qd_eq (by have := h.k; have := h.m; omega) ?_).symm
  unfold g3
  have b : (0 : Rat) < ((k + m : Int) : Rat) := by exact_mod_cast (show 0 < k + m by have := h.k; have := h.m; omega)
  have x := Rat.div_mul_cancel (a := (k : Rat)) (b := ((k + m : Int) : Rat)) (by grind)
  rw [Rat.intCast_mul, show k + k + m = k + (k + m) by omega, Rat.intCast_add k (k + m)]
  have x2 : ((2 : Int) : Rat) = 2 := rfl
  rw [x2]
  generalize ((k + m : Int) : Rat) = N at *
  generalize (k : Rat) / N = R at *
  grind
theorem bun_shown : shownL bunP [q1 k, q2 (k + m), q3] = [0, 0, qd k (2 * (k + m)), qd (k + k + m) (2 * (k + m))] := by
  show [(runC bunP []).shown, (runC bunP [q1 k]).shown, (runC bunP [q1 k, q2 (k + m)]).shown, (runC bunP [q1 k, q2 (k + m), q3]).shown] = _
  rw [bt1 h, bt2 h, bt3 h, bun_due2 h, bun_due3 h]
  rfl
theorem bun_falls : fallsL bunP [q1 k, q2 (k + m), q3] = [] := by
  obtain ⟨o1, o2, o3⟩ := g_ord h
  have a0 : farAt bunP [q1 k, q2 (k + m), q3] 0 = 0 := far_first
  have a1 : farAt bunP [q1 k, q2 (k + m), q3] 1 = 0 := by
    show (runC bunP [q1 k]).plan.far (runC bunP [q1 k]).did = _
    rw [bt1 h]
    exact bf1 h
  have a2 : farAt bunP [q1 k, q2 (k + m), q3] 2 = g2 k (k + m) := by
    show (runC bunP [q1 k, q2 (k + m)]).plan.far (runC bunP [q1 k, q2 (k + m)]).did = _
    rw [bt2 h]
    exact bf2 h
  have a3 : farAt bunP [q1 k, q2 (k + m), q3] 3 = g3 k (k + m) := by
    show (runC bunP [q1 k, q2 (k + m), q3]).plan.far (runC bunP [q1 k, q2 (k + m), q3]).did = _
    rw [bt3 h]
    exact bf3 h
  show (([0, 1, 2] : List Nat).filter fun i => decide (farAt bunP [q1 k, q2 (k + m), q3] (i + 1) < farAt bunP [q1 k, q2 (k + m), q3] i)).map (fun (i : Nat) => (i : Int)) = []
  simp only [List.filter_cons, List.filter_nil, Nat.zero_add, Nat.reduceAdd, a0, a1, a2, a3]
  rw [if_neg (by simp), if_neg (by simp; grind), if_neg (by simp; grind)]
  rfl
theorem bun_paces {x y : Int × Int} (hx : isPaceB x = true) (hy : isPaceB y = true) : PacesOk (runC bunP [q1 k]).plan (dPut (dPut [] "did" x) "b" y) ∧ PacesOk (runC bunP [q1 k, q2 (k + m)]).plan (dPut (dPut [] "did" x) "b" y) := by
  rw [bt1 h, bt2 h]
  refine ⟨⟨rfl, fun l hl => ?_⟩, ⟨rfl, fun l hl => ?_⟩⟩
  · have hl' : l ∈ ([.leaf "did" none, .leaf "b" (some 1)] : List Pl) := hl
    simp only [List.mem_cons, List.not_mem_nil, or_false] at hl'
    rcases hl' with rfl | rfl
    · exact ⟨x, rfl, hx⟩
    · exact ⟨y, rfl, hy⟩
  · have hl' : l ∈ ([.leaf "did" (some (k + m)), .leaf "b" (some 1)] : List Pl) := hl
    simp only [List.mem_cons, List.not_mem_nil, or_false] at hl'
    rcases hl' with rfl | rfl
    · exact ⟨x, rfl, hx⟩
    · exact ⟨y, rfl, hy⟩
theorem bun_left1 {pc : List (Str × (Int × Int))} : leftT (runC bunP [q1 k]).plan (runC bunP [q1 k]).did pc = none := by
  rw [bt1 h]
  rfl
theorem maxL2 {a b : Int} : maxL [a, b] = if b > a then b else a := by
  refine maxL_eq ?_ fun y hy => ?_
  · split <;> simp
  · simp at hy
    split <;> omega
theorem bun_left2 {x : Int} : leftT (runC bunP [q1 k, q2 (k + m)]).plan (runC bunP [q1 k, q2 (k + m)]).did (dPut (dPut [] "did" (1, 2)) "b" (x, 100)) = some (if x > m then x else m, if 100 > 2 * m then 100 else 2 * m) := by
  rw [bt2 h]
  show some (togV false [(k + m - k) * 1, (1 - 0) * x], togV false [(k + m - k) * 2, (1 - 0) * 100]) = _
  have a1 : togV false [(k + m - k) * 1, (1 - 0) * x] = if x > m then x else m := by
    rw [tog_false, maxL2 h, show (k + m - k) * 1 = m by omega, show (1 - 0) * x = x by omega]
  have a2 : togV false [(k + m - k) * 2, (1 - 0) * 100] = if 100 > 2 * m then 100 else 2 * m := by
    rw [tog_false, maxL2 h, show (k + m - k) * 2 = 2 * m by omega]
    rfl
  rw [a1, a2]
end
/-! ### a plan of one leaf -/
def lfP (n : Int) : Pl := .leaf "a" (some n)
abbrev l1 : Tel := .did "a" 1
section
variable {n : Nat} (h : 100 ≤ n ∧ n ≤ 299)
include h
theorem lfP_ok : PlanOk (lfP (n : Int)) := ⟨st_num (by omega), fun x hx => by
  simp [lfP, Pl.names] at hx
  subst hx
  exact nm_a, by show (["a"] : List Str).Nodup; decide, by show (["a"] : List Str).length ≤ 20; decide, by simp only [lfP, Pl.depth]; omega⟩
theorem lf_can : Can (lfP (n : Int)) [] (.did "a" (n : Int)) := (Took.did (w := .leaf "a" (some (n : Int))) rfl rfl fun z e => by
  cases e
  show (0 : Int) + n ≤ n
  omega).can.1
theorem lf_far {j : Nat} : (lfP (n : Int)).far (dStep [] "a" j) = qd (j : Int) (n : Int) := by
  show (dg (dStep [] "a" j) "a" : Rat) / ((n : Int) : Rat) = _
  rw [dStep_dg, if_pos rfl]
  have : dg [] "a" + (j : Int) = (j : Int) := by show (0 : Int) + j = j; omega
  rw [this]
  rfl
theorem lf_tel : TelOk (.did "a" (n : Int)) := tel_did nm_a (by omega)
theorem lf_nn {j : Nat} : 0 ≤ qd (j : Int) (n : Int) := by
  unfold qd
  have b : (0 : Rat) < ((n : Int) : Rat) := by exact_mod_cast (show (0 : Int) < n by omega)
  have x2 := rat_div_mono (a := 0) (b := ((j : Int) : Rat)) (by exact_mod_cast (show (0 : Int) ≤ j by omega)) b
  rwa [show (0 : Rat) / ((n : Int) : Rat) = 0 by rw [Rat.div_def, Rat.zero_mul]] at x2
theorem lf_st {j : Nat} (hj : j ≤ n) : Path (cs0 (lfP (n : Int))) (List.replicate j l1) ∧ runFrom (cs0 (lfP (n : Int))) (List.replicate j l1) = ⟨lfP (n : Int), dStep [] "a" j, qd (j : Int) (n : Int)⟩ := by
  obtain ⟨a, b⟩ := did_seg (c := cs0 (lfP (n : Int))) (cs0_ok (lfP_ok h)) (lf_tel h) (lf_can h) j (by omega)
  refine ⟨a, b.trans ?_⟩
  show (⟨_, _, shownNext 0 ((lfP (n : Int)).far []) ((lfP (n : Int)).far (dStep [] "a" j))⟩ : Cs) = _
  rw [Pl.far_nil, lf_far h, next_0 (lf_nn h)]
  rfl
theorem lf_run {j : Nat} (hj : j ≤ n) : RunOk (lfP (n : Int)) (List.replicate j l1) :=
  runOk_of (lfP_ok h) (lf_st h hj).1 (allSh_mono (by omega) (did_sh (c := cs0 (lfP (n : Int))) (m := 1) (cs0_ok (lfP_ok h)) (lf_tel h) (lf_can h) (show ShOk 1 0 from ⟨lim0, by decide, by decide⟩) j (by omega))) (by rw [List.length_replicate]; omega)
theorem lf_shown : shownL (lfP (n : Int)) (List.replicate n l1) = (rangeL 0 (n + 1)).map fun k : Int => qd k (n : Int) := by
  unfold shownL rangeL
  rw [List.length_replicate, List.map_map]
  refine List.map_congr_left fun i hi => ?_
  have := List.mem_range.mp hi
  rw [List.take_replicate, show min i n = i by omega]
  have e : runC (lfP (n : Int)) (List.replicate i l1) = _ := (lf_st h (j := i) (by omega)).2
  rw [e]
  simp only [Function.comp]
  rw [show (0 : Int) + (i : Int) = (i : Int) by omega]
theorem lf_again : RunOk (lfP (n : Int)) (List.replicate n l1 ++ [.again "a"]) := by
  obtain ⟨a, b⟩ := lf_st h (j := n) (Nat.le_refl _)
  have sh := did_sh (c := cs0 (lfP (n : Int))) (m := 1) (cs0_ok (lfP_ok h)) (lf_tel h) (lf_can h) (show ShOk 1 0 from ⟨lim0, by decide, by decide⟩) n (by omega)
  have co := path_ok (cs0_ok (lfP_ok h)) a
  have cn : Can (runFrom (cs0 (lfP (n : Int))) (List.replicate n l1)).plan (runFrom (cs0 (lfP (n : Int))) (List.replicate n l1)).did (.again "a") := by
    rw [b]
    exact (Took.again (w := lfP (n : Int)) rfl).can.1
  have s1 : ShOk 401 (runFrom (cs0 (lfP (n : Int))) (List.replicate n l1)).shown := by
    have z := allSh_get sh n
    rwa [List.take_of_length_le (by simp)] at z
  refine runOk_of (lfP_ok h) (path_app.mpr ⟨a, ⟨tel_again nm_a, cn⟩, trivial⟩) (allSh_app (allSh_mono (by omega) sh) ⟨sh_mono s1 (by omega), ?_⟩) (by rw [List.length_append, List.length_replicate]; simp; omega)
  exact sh_mono (shown_next s1 co.sh (step_ok' co (tel_again nm_a) cn).sh) (by omega)
theorem lf_at {i : Nat} (hi : i ≤ n) : farAt (lfP (n : Int)) (List.replicate n l1 ++ [.again "a"]) i = qd (i : Int) (n : Int) := by
  unfold farAt
  rw [List.take_append, List.take_replicate, List.length_replicate, show i - n = 0 by omega, show min i n = i by omega, List.take_zero, List.append_nil]
  have e : runC (lfP (n : Int)) (List.replicate i l1) = _ := (lf_st h hi).2
  rw [e]
  exact lf_far h
theorem lf_last : farAt (lfP (n : Int)) (List.replicate n l1 ++ [.again "a"]) (n + 1) = 0 := by
  unfold farAt
  rw [List.take_of_length_le (by simp), runC_snoc]
  have e : runC (lfP (n : Int)) (List.replicate n l1) = _ := (lf_st h (Nat.le_refl n)).2
  rw [e, step_of (c := ⟨lfP (n : Int), dStep [] "a" n, qd (n : Int) (n : Int)⟩) (p := lfP (n : Int)) (d := dPut (dStep [] "a" n) "a" 0) rfl]
  show (dg (dPut (dStep [] "a" n) "a" 0) "a" : Rat) / ((n : Int) : Rat) = 0
  rw [dg_put, if_pos rfl]
  have : ((0 : Int) : Rat) = 0 := rfl
  rw [this, Rat.div_def, Rat.zero_mul]
theorem lf_falls : fallsL (lfP (n : Int)) (List.replicate n l1 ++ [.again "a"]) = [(n : Int)] := by
  unfold fallsL
  rw [List.length_append, List.length_replicate, List.length_singleton, List.range_succ, List.filter_append]
  have b : (0 : Rat) < ((n : Int) : Rat) := by exact_mod_cast (show (0 : Int) < n by omega)
  have e1 : (List.range n).filter (fun i => decide (farAt (lfP (n : Int)) (List.replicate n l1 ++ [.again "a"]) (i + 1) < farAt (lfP (n : Int)) (List.replicate n l1 ++ [.again "a"]) i)) = [] := List.filter_eq_nil_iff.mpr fun i hi c => by
    have := List.mem_range.mp hi
    have c2 := of_decide_eq_true c
    rw [lf_at h (by omega), lf_at h (by omega)] at c2
    refine Rat.not_lt.mpr ?_ c2
    unfold qd
    exact rat_div_mono (by exact_mod_cast (show (i : Int) ≤ ((i + 1 : Nat) : Int) by omega)) b
  rw [e1, List.nil_append, List.filter_cons, if_pos]
  · rfl
  · refine decide_eq_true ?_
    rw [lf_last h, lf_at h (Nat.le_refl _)]
    unfold qd
    rw [div_ne (by grind) rfl]
    decide
theorem lf_paces {x : Int × Int} (hx : isPaceB x = true) : PacesOk (runC (lfP (n : Int)) (List.replicate 7 l1)).plan (dPut [] "a" x) := by
  have e : runC (lfP (n : Int)) (List.replicate 7 l1) = _ := (lf_st h (j := 7) (by omega)).2
  rw [e]
  refine ⟨rfl, fun l hl => ?_⟩
  have hl' : l ∈ ([.leaf "a" (some (n : Int))] : List Pl) := hl
  simp only [List.mem_cons, List.not_mem_nil, or_false] at hl'
  subst hl'
  exact ⟨x, rfl, hx⟩
theorem lf_left : leftT (runC (lfP (n : Int)) (List.replicate 7 l1)).plan (runC (lfP (n : Int)) (List.replicate 7 l1)).did (dPut [] "a" (3, 5)) = some (3 * ((n : Int) - 7), 5 * ((n : Int) - 7)) := by
  have e : runC (lfP (n : Int)) (List.replicate 7 l1) = _ := (lf_st h (j := 7) (by omega)).2
  rw [e]
  show some (((n : Int) - 7) * 3, ((n : Int) - 7) * 5) = _
  rw [Int.mul_comm _ 3, Int.mul_comm _ 5]
end
end Hf

namespace Hf
open PySem PySem.Spec PyProof.Rows L2 ClX
section
variable {X : Cx} {Γ : List Slot} {e : Expr} {pos : Pos}
theorem all2_four {G : Hp} {vs : List V} {a b c d : Int} (h : All2 rInt G vs [a, b, c, d]) : ∃ v1 v2 v3 v4, vs = [v1, v2, v3, v4] ∧ rInt.rel G v1 a ∧ rInt.rel G v2 b ∧ rInt.rel G v3 c ∧ rInt.rel G v4 d := by
  cases h with
  | cons h1 t =>
    cases t with
    | cons h2 t =>
      cases t with
      | cons h3 t =>
        cases t with
        | cons h4 t =>
          cases t
          exact ⟨_, _, _, _, rfl, h1, h2, h3, h4⟩
theorem tg_lst4 {t1 t2 t3 t4 : Expr} {n : Nat} {U1 U2 U3 U4 : Int → List Slot → List Slot} {w1 w2 w3 w4 : List Nat} (h1 : TgOk X t1 rInt U1 w1) (h2 : TgOk X t2 rInt U2 w2) (h3 : TgOk X t3 rInt U3 w3) (h4 : TgOk X t4 rInt U4 w4) (hc : X.calm = true := by rfl)
    (hs1 : (assignEach (t1 :: [t2, t3, t4]) X.env).map (·.2) = assign t1 X.env :: (assignEach [t2, t3, t4] X.env).map (·.2) := by rfl) (hs2 : (assignEach (t2 :: [t3, t4]) X.env).map (·.2) = assign t2 X.env :: (assignEach [t3, t4] X.env).map (·.2) := by rfl) (hs3 : (assignEach (t3 :: [t4]) X.env).map (·.2) = assign t3 X.env :: (assignEach [t4] X.env).map (·.2) := by rfl) (hs4 : (assignEach (t4 :: []) X.env).map (·.2) = assign t4 X.env :: (assignEach [] X.env).map (·.2) := by rfl)
    (hn : (assignEach [t1, t2, t3, t4] X.env).length = 4 := by rfl) (hst : (assignEach [t1, t2, t3, t4] X.env).findIdx? (·.1) = none := by rfl) :
    TgOk X (.Tuple [t1, t2, t3, t4] n pos) rL4 (fun a Γ => U4 a.2.2.2 (U3 a.2.2.1 (U2 a.2.1 (U1 a.1 Γ)))) (w1 ++ (w2 ++ (w3 ++ w4))) := fun E G H σ Γ v a hh hv Q q => by
  obtain ⟨p, vs, e, hp, ha⟩ := hv
  obtain ⟨v1, v2, v3, v4, rfl, q1, q2, q3, q4⟩ := all2_four ha
  subst e
  refine WG.of (pg_unl hc (pgs_cons (t := WG X t1) WG.pg (pgs_cons (t := WG X t2) WG.pg (pgs_cons (t := WG X t3) WG.pg (pgs_cons (t := WG X t4) WG.pg pgs_nil hs4) hs3) hs2) hs1) hn hst) ⟨p, [v1, v2, v3, v4], rfl, Evl.ex_l hh.le.gh (.inl (.inl hp)), rfl, v1, [v2, v3, v4], rfl, ?_⟩
  exact h1 E G H σ Γ v1 a.1 hh q1 _ fun σ1 b1 hh1 => ⟨v2, [v3, v4], rfl, h2 E G H σ1 _ v2 a.2.1 hh1 q2 _ fun σ2 b2 hh2 => ⟨v3, [v4], rfl, h3 E G H σ2 _ v3 a.2.2.1 hh2 q3 _ fun σ3 b3 hh3 => ⟨v4, [], rfl, h4 E G H σ3 _ v4 a.2.2.2 hh3 q4 _ fun σ4 b4 hh4 => ⟨rfl, q σ4 (b1.trans (b2.trans (b3.trans b4))) hh4⟩⟩⟩⟩
theorem Ev.l4 {a : Int × Int × Int × Int} (h : Ev X Γ e (rLst rInt) [a.1, a.2.1, a.2.2.1, a.2.2.2]) : Ev X Γ e rL4 a := fun E G H σ hh Q q => h E G H σ hh Q fun v G' H' l r => q v G' H' l r
end
end Hf

/-! a Hook over all objects below a bound -/
namespace Hk
open PySem PySem.Spec PyProof.Rows L2 He
/-- the module's names first, then all addresses below n -/
def ads (n : Nat) : List Addr := mainGlobals :: List.range n
abbrev Seen : Type := AlT × Bool
def see (n : Nat) (fa : List Fa) (fn : List DefD) (ts : List Tab) (ex : PySem.W.Frag → Bool) (g : Addr → Option Obj) : Seen :=
  (obsT fa fn ts (frT g (ads n)), ex (frT g (ads n)))
structure Tells (fa : List Fa) (fn : List DefD) (ts : List Tab) (ex : PySem.W.Frag → Bool) (w : World) (K : PySem.W.Frag) : Prop where
  t : SaysT fa fn ts w K
  more : ex K = true
def hk (n : Nat) (fa : List Fa) (fn : List DefD) (ts : List Tab) (ex : PySem.W.Frag → Bool) : PySem.W.Hook where
  α := Seen
  obs := fun s => see n fa fn ts ex s.heap.get?
  val := fun w => (valT fn ts w, true)
  says := fun w h => ∃ K : PySem.W.Frag, K.In h ∧ Tells fa fn ts ex w K
  of := fun _ _ e => ⟨_, frT_in, congrArg (fun z : Seen => z.1) e, congrArg (fun z : Seen => z.2) e⟩
  keeps := fun _ _ _ ⟨K, hK, c⟩ k => ⟨K, PySem.W.Frag.In.keeps hK k, c⟩
theorem see_eq {n : Nat} {fa : List Fa} {fn : List DefD} {ts : List Tab} {ex : PySem.W.Frag → Bool} {g : Addr → Option Obj} {s : Shared} (h : ∀ a, g a = s.heap.get? a) : see n fa fn ts ex g = (hk n fa fn ts ex).obs s := by
  have e : g = s.heap.get? := funext h
  rw [e]
  rfl
end Hk

namespace Hf
open PySem PySem.Spec PyProof.Rows L2 ClX
def top (i : Nat) : Stmt := PySem.Challenge.pw_howfar_k14_whole_known.main.body.getD i (.Pass ⟨0, 0, 0, 0⟩)
structure Facts (K : PySem.W.Frag) (mg : Str → Option Value) : Prop where
  f_len : mg "len" = none
  f_abs : mg "abs" = none
  f_all : mg "all" = none
  f_isinstance : mg "isinstance" = none
  f_tuple : mg "tuple" = none
  f_list : mg "list" = none
  f_dict : mg "dict" = none
  f_int : mg "int" = none
  f_str : mg "str" = none
  f_bool : mg "bool" = none
  f_range : mg "range" = none
  f_max : mg "max" = none
  f_set : mg "set" = none
  f_enumerate : mg "enumerate" = none
  f_sum : mg "sum" = none
  g_LONGEST : ∃ t, mg "LONGEST" = some (.int 8 t)
  g_STEPS : ∃ t, mg "STEPS" = some (.int 1000 t)
  g_WEIGHT : ∃ t, mg "WEIGHT" = some (.int 100 t)
  g_PARTS : ∃ t, mg "PARTS" = some (.int 6 t)
  g_WORKS : ∃ t, mg "WORKS" = some (.int 20 t)
  g_DEEP : ∃ t, mg "DEEP" = some (.int 5 t)
  g_TICKS : ∃ t, mg "TICKS" = some (.int 1000 t)
  g_LETTERS : ∃ t, mg "LETTERS" = some (.str letters t)
  g_NOUGHT : ∃ a, mg "NOUGHT" = some (.ref a) ∧ ∀ G, (rT2 K rInt rInt).rel G (.ref a) ((0, 1) : Int × Int)
  g_WHOLE : ∃ a, mg "WHOLE" = some (.ref a) ∧ ∀ G, (rT2 K rInt rInt).rel G (.ref a) ((1, 1) : Int × Int)
  c_Work : mg "Work" = some (.ref (He.ga K "Work"))
  c_Leaf : mg "Leaf" = some (.ref (He.ga K "Leaf"))
  c_Row : mg "Row" = some (.ref (He.ga K "Row"))
  c_Bundle : mg "Bundle" = some (.ref (He.ga K "Bundle"))
  ok : WcOk K (cW K)
  ty : WcTy K (cW K) (He.ga K "Work")
  cr : CrOk K
  c_Course : mg "Course" = some (.ref (cCr K))
  c_Lot : mg "Lot" = some (.ref (He.ga K "Lot"))
  lot : ∀ w : Pl, PySem.W.kitOne K (.ref ((cW K).of w)) (.ref (He.ga K "Lot")) = some (!w.isLeaf)
  FORMS_ : True
section
variable {P : Program} {w : World} {K : PySem.W.Frag} {mg : Str → Option Value} {base : Heap}
abbrev s_common : Stmt := top 10
theorem sc_common : FnScope ["one", "other"] ["one", "other"] (defScope s_common) := ⟨rfl, rfl, rfl, by decide +kernel, rfl, by decide +kernel, by decide +kernel⟩
abbrev sp_common (K : PySem.W.Frag) : Sp := PSp (fun y : Int × Int => 0 ≤ y.1 ∧ 0 ≤ y.2) (fun y => [⟨rInt, y.1⟩, ⟨rInt, y.2⟩]) rInt (fun y => (Int.gcd y.1 y.2 : Int))
theorem ok_common {f : Addr} {fd : FuncData} (F : FnD K "common" s_common [] f fd) (T : Facts K mg) : FnOk P w K mg base (CXL P w) 1 f fd ["one", "other"] (sp_common K) := by
  refine fn_pure F sc_common (fun _ => rfl) fun y hp cdv A outer s H E0 G D hr hret hnx => ?_
  obtain ⟨one, other⟩ := y
  try dsimp only at hp hret hnx
  refine bk_while (fun s : Int × Int => [.sh rInt s.1, .sh rInt s.2]) (fun s => 0 ≤ s.1 ∧ 0 ≤ s.2 ∧ Int.gcd s.1 s.2 = Int.gcd one other) (fun s => s.2.toNat) (fun s => !decide (s.2 = 0)) (one, other) (passes_of rfl) ⟨hp.1, hp.2, rfl⟩ (fun _ _ _ h => h) (fun s _ => et_neI (ev_v 1) ev_int) (fun s hs hb => ?_) (fun s hs hb => ?_)
  · obtain ⟨x, y⟩ := s
    have hy : y ≠ 0 := by simpa using hb
    have hy1 : 0 < y := by have := hs.2.1; simp only at this; omega
    refine bk_par 0 1 sc_common.nd (ev_v 1) (ev_mod hy1 (ev_v 0) (ev_v 1)) ?_
    refine bk_end fun G H σ hh => ⟨(y, x % y), ⟨⟨hs.2.1, Int.emod_nonneg _ hy, ?_⟩, ?_⟩, G, hh⟩
    · rw [← hs.2.2]
      exact gcd_step hs.1 hs.2.1
    · have := Int.emod_lt_of_pos x hy1
      have := Int.emod_nonneg x hy
      show (x % y).toNat < y.toNat
      omega
  · obtain ⟨x, y⟩ := s
    have hy : y = 0 := by simpa using hb
    subst hy
    refine bk_ret (ev_v 0) (hret.eq ?_)
    rw [← hs.2.2]
    show ((Int.gcd x 0 : Nat) : Int) = x
    have := hs.1
    simp only at this
    rw [Int.gcd_zero]
    omega
abbrev s_share : Stmt := top 11
theorem sc_share : FnScope ["top", "bottom", "part"] ["top", "bottom"] (defScope s_share) := ⟨rfl, rfl, rfl, by decide +kernel, rfl, by decide +kernel, by decide +kernel⟩
abbrev sp_share (K : PySem.W.Frag) : Sp := PSp (fun y : Int × Int => Bot y.2) (fun y => [⟨rInt, y.1⟩, ⟨rInt, y.2⟩]) (rQ K) (fun y => qd y.1 y.2)
theorem ok_share {f : Addr} {fd : FuncData} (F : FunD K "share" "share" (defArgs s_share) (defBody s_share) (defScope s_share) [] [] f fd) (T : Facts K mg) (h_common : Has P w K mg base "common" 1 (sp_common K)) : FnOk P w K mg base (CXL P w) 2 f fd ["top", "bottom"] (sp_share K) := by
  refine fn_pure F sc_share (fun _ => rfl) fun y hp cdv A outer s H E0 G D hr hret hnx => ?_
  obtain ⟨top, bottom⟩ := y
  try dsimp only at hp hret hnx
  have hg : (Int.gcd (if top < 0 then -top else top) bottom : Int) = Int.gcd top bottom := by rw [gcd_absif]
  have hd : ∀ {i : Int}, CDivW i (Int.gcd (if top < 0 then -top else top) bottom : Int) := fun {i} => by rw [gcd_absif]; exact hp.le (gcd_pos_r hp.1) (gcd_le_r hp.1)
  refine bk_setg 2 sc_share.nd (ev_call h_common hr (by first | decide | omega) ((if top < 0 then -top else top), bottom) (by (try dsimp only); exact ⟨by split <;> omega, by have := hp.1; omega⟩) (ea_cons (ev_abs (ev_v 0) T.f_abs) (ea_cons (ev_v 1) ea_nil))) (fun v_part h_part => ?_)
  try dsimp only at h_part
  exact bk_ret (x := (qd top bottom)) (Ev.q (q := (qd top bottom)) (ev_tup2 (ea_cons (ev_divW (i := top) (j := v_part) (by rw [h_part]; exact hd) (ev_v 0) (ev_v 2)) (ea_cons (ev_divW (i := bottom) (j := v_part) (by rw [h_part]; exact hd) (ev_v 1) (ev_v 2)) ea_nil))) (by rw [show v_part = (Int.gcd top bottom : Int) from h_part.trans hg]; exact share_cn hp.1)) (hret.eq rfl)
abbrev s_plus : Stmt := top 12
theorem sc_plus : FnScope ["one", "other"] ["one", "other"] (defScope s_plus) := ⟨rfl, rfl, rfl, by decide +kernel, rfl, by decide +kernel, by decide +kernel⟩
abbrev sp_plus (K : PySem.W.Frag) : Sp := PSp (fun y : Rat × Rat => Two y.1 y.2) (fun y => [⟨(rQ K), y.1⟩, ⟨(rQ K), y.2⟩]) (rQ K) (fun y => y.1 + y.2)
theorem ok_plus {f : Addr} {fd : FuncData} (F : FunD K "plus" "plus" (defArgs s_plus) (defBody s_plus) (defScope s_plus) [] [] f fd) (T : Facts K mg) (h_share : Has P w K mg base "share" 2 (sp_share K)) : FnOk P w K mg base (CXL P w) 3 f fd ["one", "other"] (sp_plus K) := by
  refine fn_pure F sc_plus (fun _ => rfl) fun y hp cdv A outer s H E0 G D hr hret hnx => ?_
  obtain ⟨one, other⟩ := y
  try dsimp only at hp hret hnx
  exact bk_ret (x := (qd (((one).num * ((other).den : Int)) + ((other).num * ((one).den : Int))) (((one).den : Int) * ((other).den : Int)))) (ev_call h_share hr (by first | decide | omega) ((((one).num * ((other).den : Int)) + ((other).num * ((one).den : Int))), (((one).den : Int) * ((other).den : Int))) hp.bot (ea_cons (ev_add (ev_mulW (i := (one).num) (j := ((other).den : Int)) hp.cm11 (ev_fst (a := cn one) (Ev.q2 (ev_v 0))) (ev_snd (a := cn other) (Ev.q2 (ev_v 1)))) (ev_mulW (i := (other).num) (j := ((one).den : Int)) hp.cm12 (ev_fst (a := cn other) (Ev.q2 (ev_v 1))) (ev_snd (a := cn one) (Ev.q2 (ev_v 0))))) (ea_cons (ev_mulW (i := ((one).den : Int)) (j := ((other).den : Int)) hp.cm22 (ev_snd (a := cn one) (Ev.q2 (ev_v 0))) (ev_snd (a := cn other) (Ev.q2 (ev_v 1)))) ea_nil))) (hret.eq plus_q)
abbrev s_less : Stmt := top 13
theorem sc_less : FnScope ["one", "other"] ["one", "other"] (defScope s_less) := ⟨rfl, rfl, rfl, by decide +kernel, rfl, by decide +kernel, by decide +kernel⟩
abbrev sp_less (K : PySem.W.Frag) : Sp := PSp (fun y : Rat × Rat => Two y.1 y.2) (fun y => [⟨(rQ K), y.1⟩, ⟨(rQ K), y.2⟩]) (rQ K) (fun y => y.1 - y.2)
theorem ok_less {f : Addr} {fd : FuncData} (F : FunD K "less" "less" (defArgs s_less) (defBody s_less) (defScope s_less) [] [] f fd) (T : Facts K mg) (h_share : Has P w K mg base "share" 2 (sp_share K)) : FnOk P w K mg base (CXL P w) 3 f fd ["one", "other"] (sp_less K) := by
  refine fn_pure F sc_less (fun _ => rfl) fun y hp cdv A outer s H E0 G D hr hret hnx => ?_
  obtain ⟨one, other⟩ := y
  try dsimp only at hp hret hnx
  exact bk_ret (x := (qd (((one).num * ((other).den : Int)) - ((other).num * ((one).den : Int))) (((one).den : Int) * ((other).den : Int)))) (ev_call h_share hr (by first | decide | omega) ((((one).num * ((other).den : Int)) - ((other).num * ((one).den : Int))), (((one).den : Int) * ((other).den : Int))) hp.bot (ea_cons (ev_sub (ev_mulW (i := (one).num) (j := ((other).den : Int)) hp.cm11 (ev_fst (a := cn one) (Ev.q2 (ev_v 0))) (ev_snd (a := cn other) (Ev.q2 (ev_v 1)))) (ev_mulW (i := (other).num) (j := ((one).den : Int)) hp.cm12 (ev_fst (a := cn other) (Ev.q2 (ev_v 1))) (ev_snd (a := cn one) (Ev.q2 (ev_v 0))))) (ea_cons (ev_mulW (i := ((one).den : Int)) (j := ((other).den : Int)) hp.cm22 (ev_snd (a := cn one) (Ev.q2 (ev_v 0))) (ev_snd (a := cn other) (Ev.q2 (ev_v 1)))) ea_nil))) (hret.eq less_q)
abbrev s_of_it : Stmt := top 14
theorem sc_of_it : FnScope ["one", "other"] ["one", "other"] (defScope s_of_it) := ⟨rfl, rfl, rfl, by decide +kernel, rfl, by decide +kernel, by decide +kernel⟩
abbrev sp_of_it (K : PySem.W.Frag) : Sp := PSp (fun y : Rat × Rat => Two y.1 y.2) (fun y => [⟨(rQ K), y.1⟩, ⟨(rQ K), y.2⟩]) (rQ K) (fun y => y.1 * y.2)
theorem ok_of_it {f : Addr} {fd : FuncData} (F : FunD K "of_it" "of_it" (defArgs s_of_it) (defBody s_of_it) (defScope s_of_it) [] [] f fd) (T : Facts K mg) (h_share : Has P w K mg base "share" 2 (sp_share K)) : FnOk P w K mg base (CXL P w) 3 f fd ["one", "other"] (sp_of_it K) := by
  refine fn_pure F sc_of_it (fun _ => rfl) fun y hp cdv A outer s H E0 G D hr hret hnx => ?_
  obtain ⟨one, other⟩ := y
  try dsimp only at hp hret hnx
  exact bk_ret (x := (qd ((one).num * (other).num) (((one).den : Int) * ((other).den : Int)))) (ev_call h_share hr (by first | decide | omega) (((one).num * (other).num), (((one).den : Int) * ((other).den : Int))) hp.bot (ea_cons (ev_mulW (i := (one).num) (j := (other).num) hp.cmnn (ev_fst (a := cn one) (Ev.q2 (ev_v 0))) (ev_fst (a := cn other) (Ev.q2 (ev_v 1)))) (ea_cons (ev_mulW (i := ((one).den : Int)) (j := ((other).den : Int)) hp.cm22 (ev_snd (a := cn one) (Ev.q2 (ev_v 0))) (ev_snd (a := cn other) (Ev.q2 (ev_v 1)))) ea_nil))) (hret.eq ofit_q)
abbrev s_is_more : Stmt := top 15
theorem sc_is_more : FnScope ["one", "other"] ["one", "other"] (defScope s_is_more) := ⟨rfl, rfl, rfl, by decide +kernel, rfl, by decide +kernel, by decide +kernel⟩
abbrev sp_is_more (K : PySem.W.Frag) : Sp := PSp (fun y : Rat × Rat => Two y.1 y.2) (fun y => [⟨(rQ K), y.1⟩, ⟨(rQ K), y.2⟩]) rBool (fun y => decide (y.2 < y.1))
theorem ok_is_more {f : Addr} {fd : FuncData} (F : FunD K "is_more" "is_more" (defArgs s_is_more) (defBody s_is_more) (defScope s_is_more) [] [] f fd) (T : Facts K mg)  : FnOk P w K mg base (CXL P w) 1 f fd ["one", "other"] (sp_is_more K) := by
  refine fn_pure F sc_is_more (fun _ => rfl) fun y hp cdv A outer s H E0 G D hr hret hnx => ?_
  obtain ⟨one, other⟩ := y
  try dsimp only at hp hret hnx
  exact bk_ret (x := decide (((other).num * ((one).den : Int)) < ((one).num * ((other).den : Int)))) (ev_gt (ev_mulW (i := (one).num) (j := ((other).den : Int)) hp.cm11 (ev_fst (a := cn one) (Ev.q2 (ev_v 0))) (ev_snd (a := cn other) (Ev.q2 (ev_v 1)))) (ev_mulW (i := (other).num) (j := ((one).den : Int)) hp.cm12 (ev_fst (a := cn other) (Ev.q2 (ev_v 1))) (ev_snd (a := cn one) (Ev.q2 (ev_v 0))))) (hret.eq more_q)
abbrev s_parted : Stmt := top 16
theorem sc_parted : FnScope ["one", "other"] ["one", "other"] (defScope s_parted) := ⟨rfl, rfl, rfl, by decide +kernel, rfl, by decide +kernel, by decide +kernel⟩
abbrev sp_parted (K : PySem.W.Frag) : Sp := PSp (fun y : Rat × Rat => Two y.1 y.2 ∧ 0 < y.2) (fun y => [⟨(rQ K), y.1⟩, ⟨(rQ K), y.2⟩]) (rQ K) (fun y => y.1 / y.2)
theorem ok_parted {f : Addr} {fd : FuncData} (F : FunD K "parted" "parted" (defArgs s_parted) (defBody s_parted) (defScope s_parted) [] [] f fd) (T : Facts K mg) (h_share : Has P w K mg base "share" 2 (sp_share K)) : FnOk P w K mg base (CXL P w) 3 f fd ["one", "other"] (sp_parted K) := by
  refine fn_pure F sc_parted (fun _ => rfl) fun y hp cdv A outer s H E0 G D hr hret hnx => ?_
  obtain ⟨one, other⟩ := y
  try dsimp only at hp hret hnx
  exact bk_ret (x := (qd ((one).num * ((other).den : Int)) (((one).den : Int) * (other).num))) (ev_call h_share hr (by first | decide | omega) (((one).num * ((other).den : Int)), (((one).den : Int) * (other).num)) (hp.1.botn hp.2) (ea_cons (ev_mulW (i := (one).num) (j := ((other).den : Int)) hp.1.cm11 (ev_fst (a := cn one) (Ev.q2 (ev_v 0))) (ev_snd (a := cn other) (Ev.q2 (ev_v 1)))) (ea_cons (ev_mulW (i := ((one).den : Int)) (j := (other).num) hp.1.cm21 (ev_snd (a := cn one) (Ev.q2 (ev_v 0))) (ev_fst (a := cn other) (Ev.q2 (ev_v 1)))) ea_nil))) (hret.eq (parted_q hp.2))
abbrev s_is_number : Stmt := top 25
theorem sc_is_number : FnScope ["thing", "least", "most"] ["thing", "least", "most"] (defScope s_is_number) := ⟨rfl, rfl, rfl, by decide +kernel, rfl, by decide +kernel, by decide +kernel⟩
abbrev sp_is_number (K : PySem.W.Frag) : Sp := PSp (fun y : Int × Int × Int => True) (fun y => [⟨rInt, y.1⟩, ⟨rInt, y.2.1⟩, ⟨rInt, y.2.2⟩]) rBool (fun y => isNum y.1 y.2.1 y.2.2)
theorem ok_is_number {f : Addr} {fd : FuncData} (F : FunD K "is_number" "is_number" (defArgs s_is_number) (defBody s_is_number) (defScope s_is_number) [] [] f fd) (T : Facts K mg)  : FnOk P w K mg base (CXL P w) 1 f fd ["thing", "least", "most"] (sp_is_number K) := by
  refine fn_pure F sc_is_number (fun _ => rfl) fun y hp cdv A outer s H E0 G D hr hret hnx => ?_
  obtain ⟨thing, least, most⟩ := y
  try dsimp only at hp hret hnx
  exact bk_ret (x := (true && ((!false) && (decide (least ≤ thing) && decide (thing ≤ most))))) (ev_and (ev_isi (T := "int") (C := "int") (b := true) (ev_v 0) kind_int (by decide +kernel) T.f_isinstance T.f_int (by decide +kernel)) (fun q1 => (ev_and (ev_not (ev_isi (T := "int") (C := "bool") (b := false) (ev_v 0) kind_int (by decide +kernel) T.f_isinstance T.f_bool (by decide +kernel))) (fun q2 => (ev_one (ev_chain op_le op_le (ev_v 1) (ev_v 0) (fun q3 => (ev_v 2)) gv_le (fun _ => gv_le))))))) (hret.eq (by simp [isNum]))
abbrev s_is_name : Stmt := top 26
theorem sc_is_name : FnScope ["name", "sign"] ["name"] (defScope s_is_name) := ⟨rfl, rfl, rfl, by decide +kernel, rfl, by decide +kernel, by decide +kernel⟩
abbrev sp_is_name (K : PySem.W.Frag) : Sp := PSp (fun y : Str => y.length ≤ 1000) (fun y => [⟨rStr, y⟩]) rBool (fun y => isNameB y)
theorem ok_is_name {f : Addr} {fd : FuncData} (F : FunD K "is_name" "is_name" (defArgs s_is_name) (defBody s_is_name) (defScope s_is_name) [] [] f fd) (T : Facts K mg)  : FnOk P w K mg base (CXL P w) 1 f fd ["name"] (sp_is_name K) := by
  refine fn_pure F sc_is_name (fun _ => rfl) fun name hp cdv A outer s H E0 G D hr hret hnx => ?_
  try dsimp only at hp hret hnx
  exact bk_ret (x := (true && ((decide ((1 : Int) ≤ (name.length : Int)) && decide ((name.length : Int) ≤ (8 : Int))) && (((signs name).map (fun q4 : Str => (inS q4 letters))).all id)))) (ev_and (ev_isi (T := "str") (C := "str") (b := true) (ev_v 0) kind_str (by decide +kernel) T.f_isinstance T.f_str (by decide +kernel)) (fun q1 => (ev_and (ev_chain op_le op_le ev_int (ev_lenT (u := name) (ev_v 0) (Evl.sz_of (by omega)) T.f_len) (fun q2 => (ev_gint T.g_LONGEST)) gv_le (fun _ => gv_le)) (fun q3 => (ev_one (ev_all (EvO.bor (eo_lcm (val := fun q4 : Str => (inS q4 letters)) [("sign", 1)] sc_is_name.nd (ei_str (ev_v 0)) (blkOk_by (N := ["name", "sign"]) (sc := defScope s_is_name) (by decide +kernel)) (fun _ => (tg_name 1 sc_is_name.nd)) (fun _ q4 q5 => (ev_inS (u := q4) (v := letters) (signs_one q5) (ev_v 1) (ev_gstr T.g_LETTERS))) (by simp [signs]; exact Nat.le_trans hp (by decide)))) T.f_all)))))) (hret.eq rfl)
abbrev s_are_parts : Stmt := top 29
theorem parts_end {parts : List (Int × Pl)} (h : (!true || !(decide ((1 : Int) ≤ (parts.length : Int)) && decide ((parts.length : Int) ≤ (6 : Int)))) = false) : arePartsB parts = (parts.map fun q : Int × Pl => (isNum q.1 1 100 && true)).all id := by
  simp at h
  unfold arePartsB
  rw [decide_eq_true (by omega)]
  simp only [List.all_map, Bool.true_and, Bool.and_true]
  rfl
theorem sc_are_parts : FnScope ["parts", "part"] ["parts"] (defScope s_are_parts) := ⟨rfl, rfl, rfl, by decide +kernel, rfl, by decide +kernel, by decide +kernel⟩
abbrev sp_are_parts (K : PySem.W.Frag) : Sp := PSp (fun y : (List (Int × Pl)) => y.length ≤ 100000) (fun y => [⟨(rLst (rT2 K rInt (rWk K (cW K)))), y⟩]) rBool (fun y => arePartsB y)
theorem ok_are_parts {f : Addr} {fd : FuncData} (F : FunD K "are_parts" "are_parts" (defArgs s_are_parts) (defBody s_are_parts) (defScope s_are_parts) [] [] f fd) (T : Facts K mg) (h_is_number : Has P w K mg base "is_number" 1 (sp_is_number K)) : FnOk P w K mg base (CXL P w) 2 f fd ["parts"] (sp_are_parts K) := by
  refine fn_pure F sc_are_parts (fun _ => rfl) fun parts hp cdv A outer s H E0 G D hr hret hnx => ?_
  try dsimp only at hp hret hnx
  refine bk_if (p := ((!true) || (!(decide ((1 : Int) ≤ (parts.length : Int)) && decide ((parts.length : Int) ≤ (6 : Int)))))) (et_bool (ew_or (et_not (et_val (ev_isi (T := "list") (C := "list") (b := true) (ev_v 0) kind_lst (by decide +kernel) T.f_isinstance T.f_list (by decide +kernel)))) (fun q1 => (ew_or1 (et_not (et_chain op_le op_le ev_int (ev_lenB (Ev.bor (ev_v 0)) T.f_len) (fun q2 => (ev_gint T.g_PARTS)) gv_le (fun _ => gv_le))))))) (fun c_1 => ?_) (fun c_1 => ?_)
  · exact bk_ret (x := false) ev_bool (hret.eq (by unfold arePartsB; simp at c_1; rw [decide_eq_false (by omega)]; rfl))
  · refine bk_then ?_
    refine bk_if (p := (!((parts.map (fun q3 : (Int × Pl) => (true && decide ((2 : Int) = (2 : Int))))).all id))) (et_not (et_val (ev_all (EvO.bor (eo_lcm (val := fun q3 : (Int × Pl) => (true && decide ((2 : Int) = (2 : Int)))) [("part", 1)] sc_are_parts.nd (ei_lst (ev_v 0)) (blkOk_by (N := ["parts", "part"]) (sc := defScope s_are_parts) (by decide +kernel)) (fun _ => (tg_name 1 sc_are_parts.nd)) (fun _ q3 q4 => (ev_and (ev_isi (T := "tuple") (C := "tuple") (b := true) (ev_v 1) kind_T2 (by decide +kernel) T.f_isinstance T.f_tuple (by decide +kernel)) (fun q5 => (ev_one (ev_eqI (ev_lenT2 (ev_v 1) T.f_len) ev_int))))) (by first | decide | omega | assumption | (simp [rangeL]; done) | (simp; omega)))) T.f_all))) (fun c_2 => ?_) (fun c_2 => ?_)
    · exact bk_ret (x := false) ev_bool (hret.eq (absurd c_2 (by simp)))
    · refine bk_then ?_
      exact bk_ret (x := ((parts.map (fun q6 : (Int × Pl) => ((isNum q6.1 (1 : Int) (100 : Int)) && true))).all id)) (ev_all (EvO.bor (eo_lcm (val := fun q6 : (Int × Pl) => ((isNum q6.1 (1 : Int) (100 : Int)) && true)) [("part", 1)] sc_are_parts.nd (ei_lst (ev_v 0)) (blkOk_by (N := ["parts", "part"]) (sc := defScope s_are_parts) (by decide +kernel)) (fun _ => (tg_name 1 sc_are_parts.nd)) (fun _ q6 q7 => (ev_and (ev_call h_is_number hr (by first | decide | omega) (q6.1, (1 : Int), (100 : Int)) trivial (ea_cons (ev_fst (ev_v 1)) (ea_cons ev_int (ea_cons (ev_gint T.g_WEIGHT) ea_nil)))) (fun q8 => (ev_one (ev_isiC (b := true) (ev_snd (ev_v 1)) (kind_wk T.ok T.ty) (T.ty.work q6.2) T.f_isinstance T.c_Work))))) (by first | decide | omega | assumption | (simp [rangeL]; done) | (simp; omega)))) T.f_all) (hret.eq (parts_end c_1))
abbrev s_Work_names : Stmt := inClass (top 27) 4
theorem names_part {q : Int × Pl} {w : Pl} (h : q ∈ w.parts) : q.2.names.length ≤ w.names.length := by
  rw [Pl.names_eq w, Pl.namess_eq, List.length_cons, List.length_flatMap]
  have : ∀ l : List (Int × Pl), q ∈ l → q.2.names.length ≤ (l.map fun q => q.2.names.length).sum := fun l => by
    induction l with
    | nil => intro h; simp at h
    | cons a l ih =>
      intro h
      rcases List.mem_cons.mp h with rfl | h
      · simp
      · have := ih h
        simp only [List.map_cons, List.sum_cons]
        omega
  have := this _ h
  omega
theorem names_foldl : ∀ (ps : List (Int × Pl)) (a : List Str), ps.foldl (fun (a : List Str) (q : Int × Pl) => a ++ q.2.names) a = a ++ Pl.namess ps
  | [], a => by simp [Pl.namess]
  | (i, w) :: ps, a => by
    rw [List.foldl_cons, names_foldl ps]
    simp [Pl.namess]
theorem names_done (w : Pl) : w.names = w.parts.foldl (fun (a : List Str) (q : Int × Pl) => a ++ q.2.names) [w.name] := by
  rw [names_foldl, Pl.names_eq]
  rfl
theorem names_fold {w : Pl} {i : Nat} {s : List Str} (h : s = (w.parts.take i).foldl (fun (a : List Str) (q : Int × Pl) => a ++ q.2.names) [w.name]) : s.length ≤ w.names.length := by
  rw [h, names_foldl, Pl.names_eq]
  have : (Pl.namess (w.parts.take i)).length ≤ (Pl.namess w.parts).length := by
    rw [Pl.namess_eq, Pl.namess_eq, List.length_flatMap, List.length_flatMap]
    conv => rhs; rw [← List.take_append_drop i w.parts]
    rw [List.map_append, List.sum_append]
    omega
  simp only [List.length_append, List.length_cons, List.length_nil]
  omega

theorem sc_Work_names : FnScope ["self", "found", "weight", "work"] ["self"] (defScope s_Work_names) := ⟨rfl, rfl, rfl, by decide +kernel, rfl, by decide +kernel, by decide +kernel⟩
abbrev sp_Work_names (K : PySem.W.Frag) (d : Nat) : Sp := OSp (fun y : Pl => (y.names.length ≤ 1000) ∧ y.depth < d) (fun y => [⟨(rWk K (cW K)), y⟩]) (fun y => oLst rStr (y.names))
theorem ok_Work_names {f : Addr} {fd : FuncData} (F : FunD K "names" "Work.names" (defArgs s_Work_names) (defBody s_Work_names) (defScope s_Work_names) [] [] f fd) (T : Facts K mg) {d : Nat} (h_m_names : HasVO P w K mg base (cW K) "names" (1 + d) (fun y : Pl => y) (fun y : Pl => (y.names.length ≤ 1000) ∧ y.depth < d) (fun y : Pl => []) (fun y => oLst rStr (y.names))) : FnOk P w K mg base (CXL P w) (1 + d + 1) f fd ["self"] (sp_Work_names K (d + 1)) := by
  refine fn_own F sc_Work_names (fun _ => rfl) fun self hp cdv A outer s H E0 G D hr hret => ?_
  try dsimp only at hp hret
  obtain ⟨hp, hd⟩ := hp
  refine bk_setO 1 sc_Work_names.nd (eo_lst (r := rStr) (as := [self.name]) (ea_cons (ev_called T.ok (ev_v 0)) ea_nil) (by simp)) ?_
  refine bk_for (fun sq1 : (List Str) => [.sh (rWk K (cW K)) self, .ow (oLst rStr (sq1)) none, .no, .no]) (fun i sq1 => sq1 = ((self.parts).take i).foldl (fun (a : List Str) (q : Int × Pl) => a ++ q.2.names) ([self.name])) ([self.name]) (passes_of rfl) (ei_lst (ev_held T.ok (ev_v 0))) (tg_tup2 (tg_name 2 sc_Work_names.nd) (tg_name 3 sc_Work_names.nd)) rfl (fun _ _ _ h => h) (fun F iq1 sq1 q1 mq1 eq1 => ?_) (fun sq1 eq1 => ?_)
  · have mm : q1 ∈ self.parts := List.mem_of_getElem? mq1
    have hq := Pl.part_depth mm
    have hn := names_part mm
    have hl := names_fold eq1
    refine bk_extend 1 rfl (EvO.bor (eo_vm0 h_m_names hr (by first | decide | omega) q1.2 ⟨by omega, by omega⟩ (ev_v 3) rfl)) (Evl.sz_of (by omega)) ?_
    exact bk_end fun G H σ h => ⟨((sq1 ++ (q1.2.names))), foldl_next mq1 eq1 rfl, G, (Holds.forget 3 (Holds.forget 2 h))⟩
  · rw [List.take_length] at eq1
    subst eq1
    exact bk_retv 1 (hret.eqO (as' := (self.parts.foldl (fun (a : List Str) (q : Int × Pl) => a ++ q.2.names) ([self.name]))) (names_done self))
abbrev s_Work_depth : Stmt := inClass (top 27) 5
def Small (w : Pl) : Prop := ∀ z ∈ w.all, z.parts.length ≤ 1000
theorem part_small {w : Pl} {q : Int × Pl} (h : Small w) (m : q ∈ w.parts) : q.2.parts.length ≤ 1000 ∧ Small q.2 := by
  have k : Small q.2 := fun z hz => h z (by
    rw [Pl.all_eq, Pl.alls_eq]
    exact List.mem_cons_of_mem _ (List.mem_flatMap.mpr ⟨q, m, hz⟩))
  exact ⟨k _ (by rw [Pl.all_eq]; exact List.mem_cons_self), k⟩
theorem depth_done (w : Pl) : (w.depth : Int) = (1 + maxL ([0] ++ (w.parts.map fun q : Int × Pl => (q.2.depth : Int)))) := by
  rw [← Pl.depths_max, Pl.depth_eq]
  omega
theorem sc_Work_depth : FnScope ["self", "weight", "work"] ["self"] (defScope s_Work_depth) := ⟨rfl, rfl, rfl, by decide +kernel, rfl, by decide +kernel, by decide +kernel⟩
abbrev sp_Work_depth (K : PySem.W.Frag) (d : Nat) : Sp := PSp (fun y : Pl => (y.parts.length ≤ 1000 ∧ Small y) ∧ y.depth < d) (fun y => [⟨(rWk K (cW K)), y⟩]) rInt (fun y => (y.depth : Int))
theorem ok_Work_depth {f : Addr} {fd : FuncData} (F : FunD K "depth" "Work.depth" (defArgs s_Work_depth) (defBody s_Work_depth) (defScope s_Work_depth) [] [] f fd) (T : Facts K mg) {d : Nat} (h_m_depth : HasV P w K mg base (cW K) "depth" (1 + d) (fun y : Pl => y) (fun y : Pl => (y.parts.length ≤ 1000 ∧ Small y) ∧ y.depth < d) (fun y : Pl => []) rInt (fun y => (y.depth : Int))) : FnOk P w K mg base (CXL P w) (1 + d + 1) f fd ["self"] (sp_Work_depth K (d + 1)) := by
  refine fn_pure F sc_Work_depth (fun _ => rfl) fun self hp cdv A outer s H E0 G D hr hret hnx => ?_
  try dsimp only at hp hret hnx
  obtain ⟨hp, hd⟩ := hp
  exact bk_ret (x := ((1 : Int) + (maxL ([(0 : Int)] ++ (self.parts.map (fun q1 : (Int × Pl) => ((q1.2.depth : Int)))))))) (ev_add ev_int (ev_maxL (by simp) (EvO.bor (eo_cat (r := rInt) (as := [(0 : Int)]) (bs := (self.parts.map (fun q1 : (Int × Pl) => ((q1.2.depth : Int))))) (EvO.bor (eo_lst (r := rInt) (as := [(0 : Int)]) (ea_cons ev_int ea_nil) (by simp))) (EvO.bor (eo_lcm (val := fun q1 : (Int × Pl) => ((q1.2.depth : Int))) [("weight", 1), ("work", 2)] sc_Work_depth.nd (ei_lst (ev_held T.ok (ev_v 0))) (blkOk_by (N := ["self", "weight", "work"]) (sc := defScope s_Work_depth) (by decide +kernel)) (fun _ => (tg_tup2 (tg_name 1 sc_Work_depth.nd) (tg_name 2 sc_Work_depth.nd))) (fun _ q1 q2 => (ev_vm0 h_m_depth hr (by first | decide | omega) q1.2 ⟨part_small hp.2 q2, by have := Pl.part_depth q2; omega⟩ (ev_v 2) rfl)) (by have := hp.1; omega))) (Evl.sz_of (by simp; have := hp.1; omega)))) T.f_max)) (hret.eq (depth_done self))
abbrev s_Work_init : Stmt := inClass (top 27) 0
theorem sc_Work_init : FnScope ["self", "called"] ["self", "called"] (defScope s_Work_init) := ⟨rfl, rfl, rfl, by decide +kernel, rfl, by decide +kernel, by decide +kernel⟩
abbrev sp_Work_init (K : PySem.W.Frag) : Sp := MSp (fun y : Pl => isNameB y.name = true ∧ y.name.length ≤ 1000) (fun y => [.ow (oIns ((cW K).of y) [] []), .ty ⟨rStr, y.name⟩]) rNon (fun _ => ()) (fun y => [oWk K (cW K) y y.name [] none])
theorem ok_Work_init {f : Addr} {fd : FuncData} (F : FunD K "__init__" "Work.__init__" (defArgs s_Work_init) (defBody s_Work_init) (defScope s_Work_init) [] [] f fd) (T : Facts K mg) (h_is_name : Has P w K mg base "is_name" 1 (sp_is_name K)) :
    FnOk P w K mg base (CXL P w) 2 f fd ["self", "called"] (sp_Work_init K) := by
  refine fn_par F sc_Work_init (fun _ => rfl) fun y hp cdv A outer s H E0 G D qs hq hr hret hnx => ?_
  obtain ⟨p0, rfl⟩ : ∃ p0, qs = [p0] := by match qs, hq with | [p0], _ => exact ⟨p0, rfl⟩
  refine bk_if (p := !isNameB y.name) (et_not (et_val (ev_call h_is_name hr (by decide) y.name hp.2 (ea_cons (t := ⟨rStr, y.name⟩) (ev_v 1) ea_nil)))) (fun c => ?_) (fun c => ?_)
  · exact absurd c (by rw [hp.1]; simp)
  refine bk_then ?_
  refine bk_fld 0 (T.ok.cls y) (T.ok.called y) rfl (ev_v (r := rStr) (x := y.name) 1) (by simp) (by decide) ?_
  refine bk_fld 0 (T.ok.cls y) (T.ok.held y) rfl (EvO.ev (eo_nil (r := rT2 K rInt (rWk K (cW K))))) (by decide) (by decide) ?_
  refine bk_fld 0 (T.ok.cls y) (T.ok.many y) rfl (ev_none (r := rInt)) (by decide) (by decide) ?_
  exact bk_end fun G' H' σ h => hnx _ _ _ h.le (StillI.ows h (is := [0]) ⟨rfl, trivial⟩) rfl
abbrev s_Leaf_init : Stmt := inClass (top 28) 0
theorem sc_Leaf_init : FnScope ["self", "name", "steps"] ["self", "name", "steps"] (defScope s_Leaf_init) := ⟨rfl, rfl, rfl, by decide +kernel, rfl, by decide +kernel, by decide +kernel⟩
abbrev sp_Leaf_init (K : PySem.W.Frag) : Sp := MSp (fun y : Str × Option Int => (isNameB y.1 = true ∧ y.1.length ≤ 1000) ∧ StOk y.2) (fun y => [.ow (oIns (cW K).L [] []), .ty ⟨rStr, y.1⟩, .ty ⟨rOpt rInt, y.2⟩]) rNon (fun _ => ()) (fun y => [oWk K (cW K) (.leaf y.1 y.2) y.1 [] y.2])
theorem ok_Leaf_init {f : Addr} {fd : FuncData} (F : FunD K "__init__" "Leaf.__init__" (defArgs s_Leaf_init) (defBody s_Leaf_init) (defScope s_Leaf_init) [.non] [] f fd) (T : Facts K mg) (h_is_number : Has P w K mg base "is_number" 1 (sp_is_number K)) (h_Work : HasU P w K mg base "Work" (He.ga K "Work") "__init__" 2 (sp_Work_init K)) :
    FnOk P w K mg base (CXL P w) 3 f fd ["self", "name", "steps"] (sp_Leaf_init K) := by
  refine fn_par F sc_Leaf_init (fun _ => rfl) fun y hp cdv A outer s H E0 G D qs hq hr hret hnx => ?_
  obtain ⟨n, st⟩ := y
  obtain ⟨p0, rfl⟩ : ∃ p0, qs = [p0] := by match qs, hq with | [p0], _ => exact ⟨p0, rfl⟩
  dsimp only at hp hret hnx
  refine bk_exprM (em_unb (ss := [.sl 0]) h_Work hr (by decide) (Pl.leaf n st) hp.1 (ep_own 0 (ep_ty (t := ⟨rStr, n⟩) (ev_v 1) ep_nil))) ?_
  refine bk_if (p := (!st.isNone && !isNum (st.getD 0) 1 1000)) (et_bool (ew_and (et_notN nn_int (ev_v 2) ev_unit) (fun q => ew_and1 (et_not (et_val (ev_call h_is_number hr (by decide) (st.getD 0, 1, 1000) trivial (ea_cons (t := ⟨rInt, st.getD 0⟩) (ev_unopt (by simpa using q) (ev_v 2)) (ea_cons (t := ⟨rInt, 1⟩) ev_int (ea_cons (t := ⟨rInt, 1000⟩) (ev_gint T.g_STEPS) ea_nil))))))))) (fun c => ?_) (fun c => ?_)
  · refine absurd c ?_
    cases st with
    | none => simp
    | some i => simp [hp.2 i rfl]
  refine bk_then ?_
  refine bk_fldO 0 2 (T.ok.cls (.leaf n st)) (T.ok.many (.leaf n st)) rfl (ev_v (r := rOpt rInt) (x := st) 2) rfl (by decide) (by decide) ?_
  exact bk_end fun G' H' σ h => hnx _ _ _ h.le (StillI.ows h (is := [0]) ⟨rfl, trivial⟩) rfl
abbrev s_Lot_init : Stmt := inClass (top 30) 0
theorem sc_Lot_init : FnScope ["self", "name", "parts", "names"] ["self", "name", "parts"] (defScope s_Lot_init) := ⟨rfl, rfl, rfl, by decide +kernel, rfl, by decide +kernel, by decide +kernel⟩
abbrev sp_Lot_init (K : PySem.W.Frag) (row : Bool) : Sp := MSp (fun y : Str × List (Int × Pl) => LotOk row y.1 y.2 ∧ y.1.length ≤ 1000) (fun y => .ow (oIns ((cW K).of (.lot row Str.empty [])) [] []) :: [.ty ⟨rStr, y.1⟩, .ow (oLst (rT2 K rInt (rWk K (cW K))) y.2)]) rNon (fun _ => ()) (fun y => oWk K (cW K) (.lot row y.1 y.2) y.1 y.2 none :: [oLst (rT2 K rInt (rWk K (cW K))) y.2])
theorem ofLot {c : WC} {row : Bool} {n : Str} {ps : List (Int × Pl)} : c.of (.lot row n ps) = c.of (.lot row Str.empty []) := by cases row <;> rfl
theorem lot_len {ps : List (Int × Pl)} (h : arePartsB ps = true) : 1 ≤ ps.length ∧ ps.length ≤ 6 := by
  unfold arePartsB at h
  exact of_decide_eq_true (Bool.and_eq_true_iff.mp h).1
theorem pl_small : ∀ {w : Pl}, w.names.length ≤ 1000 → Small w := fun {w} h z hz => by
  have k1 : ∀ (n : Nat) (w : Pl), w.depth ≤ n → ∀ z ∈ w.all, z.names.length ≤ w.names.length := fun n => by
    induction n with
    | zero => intro w h; have := Pl.depth_pos w; omega
    | succ n ih =>
      intro w hd z hz
      rw [Pl.all_eq, Pl.alls_eq] at hz
      rcases List.mem_cons.mp hz with rfl | hz
      · exact Nat.le_refl _
      · obtain ⟨q, hq, hz⟩ := List.mem_flatMap.mp hz
        have := ih q.2 (by have := Pl.part_depth hq; omega) z hz
        have := names_part hq
        omega
  have k2 : z.parts.length ≤ z.names.length := by
    rw [Pl.names_eq, Pl.namess_eq, List.length_cons, List.length_flatMap]
    have : ∀ l : List (Int × Pl), l.length ≤ (l.map fun q => q.2.names.length).sum := fun l => by
      induction l with
      | nil => simp
      | cons a l ih =>
        have : 0 < a.2.names.length := by rw [Pl.names_eq]; simp
        simp only [List.map_cons, List.sum_cons, List.length_cons]
        omega
    have := this z.parts
    omega
  have := k1 w.depth w (Nat.le_refl _) z hz
  omega
theorem ok_Lot_init (row : Bool) {f : Addr} {fd : FuncData} (F : FunD K "__init__" "Lot.__init__" (defArgs s_Lot_init) (defBody s_Lot_init) (defScope s_Lot_init) [] [] f fd) (T : Facts K mg) (h_are_parts : Has P w K mg base "are_parts" 2 (sp_are_parts K)) (h_Work : HasU P w K mg base "Work" (He.ga K "Work") "__init__" 2 (sp_Work_init K))
    (h_m_names : HasVO P w K mg base (cW K) "names" 8 (fun y : Pl => y) (fun y : Pl => (y.names.length ≤ 1000) ∧ y.depth < 7) (fun y : Pl => []) (fun y => oLst rStr (y.names))) (h_m_depth : HasV P w K mg base (cW K) "depth" 8 (fun y : Pl => y) (fun y : Pl => (y.parts.length ≤ 1000 ∧ Small y) ∧ y.depth < 7) (fun y : Pl => []) rInt (fun y => (y.depth : Int))) : FnOk P w K mg base (CXL P w) 9 f fd ["self", "name", "parts"] (sp_Lot_init K row) := by
  refine fn_par F sc_Lot_init (fun _ => rfl) fun y hp cdv A outer s H E0 G D qs hq hr hret hnx => ?_
  obtain ⟨n, ps⟩ := y
  obtain ⟨p0, p1, rfl⟩ : ∃ p0 p1, qs = [p0, p1] := by match qs, hq with | [p0, p1], _ => exact ⟨p0, p1, rfl⟩
  dsimp only at hp hret hnx
  obtain ⟨hp, hnl⟩ := hp
  have hl := lot_len hp.parts
  rw [show oIns ((cW K).of (.lot row Str.empty [])) [] [] = oIns ((cW K).of (.lot row n ps)) [] [] by rw [ofLot (n := n) (ps := ps)]]
  refine bk_exprM (em_unb (ss := [.sl 0]) h_Work hr (by decide) (Pl.lot row n ps) ⟨hp.name, hnl⟩ (ep_own 0 (ep_ty (t := ⟨rStr, n⟩) (ev_v 1) ep_nil))) ?_
  refine bk_if (p := !arePartsB ps) (et_not (et_val (ev_lookS 2 rfl flat_lst frz_lst thin_bool (ev_call h_are_parts hr (by decide) ps (by omega) (ea_cons (t := ⟨rLst (rT2 K rInt (rWk K (cW K))), ps⟩) (ev_v 2) ea_nil))))) (fun c => ?_) (fun c => ?_)
  · exact absurd c (by rw [hp.parts]; simp)
  refine bk_then ?_
  refine bk_fldO 0 1 (T.ok.cls (.lot row n ps)) (T.ok.held (.lot row n ps)) rfl (EvO.ev (eo_listOf (eb_v 2) T.f_list)) rfl (by decide) (by decide) ?_
  refine bk_lookS 0 rfl (frz_wk (w := .lot row n ps)) (fun G' H' σ h σ' H2 e => hnx σ' G' H2 (h.le.stepH e) ((show Ows G' H' [p0, p1] [oWk K (cW K) (.lot row n ps) n ps none, oLst (rT2 K rInt (rWk K (cW K))) ps] from StillI.ows h (is := [0, 2]) ⟨rfl, rfl, trivial⟩).stepH e) rfl) fun E1 hnx1 => ?_
  have hc := hp.count
  have hd := hp.deep
  have hsm := pl_small (w := .lot row n ps) (by omega)
  refine bk_set 3 sc_Lot_init.nd (EvO.ev (eo_vm0 h_m_names hr (by decide) (.lot row n ps) ⟨by omega, by omega⟩ (ev_v 0) rfl rfl)) ?_
  refine bk_if (p := (decide ((20 : Int) < ((Pl.lot row n ps).names.length : Int)) || (decide (((dups (Pl.lot row n ps).names).length : Int) < ((Pl.lot row n ps).names.length : Int)) || decide ((5 : Int) < ((Pl.lot row n ps).depth : Int)))))
    (et_bool (ew_or (et_gt (ev_len (ev_v 3) T.f_len) (ev_gint T.g_WORKS)) (fun _ => ew_or (et_lt (ev_lenTxt (by have : scanBound = 4096 := rfl; omega) (Ev.bor (ev_v 3)) T.f_len T.f_set) (ev_len (ev_v 3) T.f_len)) (fun _ => ew_or1 (et_gt (ev_vm0 h_m_depth hr (by decide) (.lot row n ps) ⟨⟨by show ps.length ≤ 1000; omega, hsm⟩, by omega⟩ (ev_v 0) rfl rfl) (ev_gint T.g_DEEP)))))) (fun c => ?_) (fun c => ?_)
  · refine absurd c ?_
    rw [dups_nodup hp.nodup]
    simp
    omega
  refine bk_then ?_
  exact bk_end fun G' H' σ h => hnx1 _ _ _ h.le
abbrev sp_Leaf1 (K : PySem.W.Frag) : Sp := MSp (fun y : Str => isNameB y = true ∧ y.length ≤ 1000) (fun y => [.ow (oIns (cW K).L [] []), .ty ⟨rStr, y⟩]) rNon (fun _ => ()) (fun y => [oWk K (cW K) (.leaf y none) y [] none])
theorem leaf1_imp {E : XK} (vs : List V) (H : Hp) (Q : VK) (h : sp_Leaf1 K vs H Q E) : sp_Leaf_init K (vs ++ [.non]) H Q E := by
  obtain ⟨y, G, as, hp, e, nd, fi, k⟩ := h
  have hl := fi.length
  have ha := fi.nOwn
  match vs, as, hl, ha with
  | [v1, v2], [a], _, _ =>
    obtain ⟨h1, h2, _⟩ := fi
    exact ⟨(y, none), G, [a], ⟨hp, fun i h => by cases h⟩, e, nd, ⟨h1, h2, rfl, trivial⟩, k⟩
abbrev sp_Lot_initF (K : PySem.W.Frag) (row : Bool) : Sp := MSp (fun y : Str × List (Int × Pl) => LotOk row y.1 y.2 ∧ y.1.length ≤ 1000) (fun y => .ow (oIns ((cW K).of (.lot row Str.empty [])) [] []) :: [.ty ⟨rStr, y.1⟩, .ty ⟨rLst (rT2 K rInt (rWk K (cW K))), y.2⟩]) rNon (fun _ => ()) (fun y => oWk K (cW K) (.lot row y.1 y.2) y.1 y.2 none :: [])
theorem ok_Lot_initF (row : Bool) {f : Addr} {fd : FuncData} (F : FunD K "__init__" "Lot.__init__" (defArgs s_Lot_init) (defBody s_Lot_init) (defScope s_Lot_init) [] [] f fd) (T : Facts K mg) (h_are_parts : Has P w K mg base "are_parts" 2 (sp_are_parts K)) (h_Work : HasU P w K mg base "Work" (He.ga K "Work") "__init__" 2 (sp_Work_init K))
    (h_m_names : HasVO P w K mg base (cW K) "names" 8 (fun y : Pl => y) (fun y : Pl => (y.names.length ≤ 1000) ∧ y.depth < 7) (fun y : Pl => []) (fun y => oLst rStr (y.names))) (h_m_depth : HasV P w K mg base (cW K) "depth" 8 (fun y : Pl => y) (fun y : Pl => (y.parts.length ≤ 1000 ∧ Small y) ∧ y.depth < 7) (fun y : Pl => []) rInt (fun y => (y.depth : Int))) : FnOk P w K mg base (CXL P w) 9 f fd ["self", "name", "parts"] (sp_Lot_initF K row) := by
  refine fn_par F sc_Lot_init (fun _ => rfl) fun y hp cdv A outer s H E0 G D qs hq hr hret hnx => ?_
  obtain ⟨n, ps⟩ := y
  obtain ⟨p0, rfl⟩ : ∃ p0, qs = [p0] := by match qs, hq with | [p0], _ => exact ⟨p0, rfl⟩
  dsimp only at hp hret hnx
  obtain ⟨hp, hnl⟩ := hp
  have hl := lot_len hp.parts
  rw [show oIns ((cW K).of (.lot row Str.empty [])) [] [] = oIns ((cW K).of (.lot row n ps)) [] [] by rw [ofLot (n := n) (ps := ps)]]
  refine bk_exprM (em_unb (ss := [.sl 0]) h_Work hr (by decide) (Pl.lot row n ps) ⟨hp.name, hnl⟩ (ep_own 0 (ep_ty (t := ⟨rStr, n⟩) (ev_v 1) ep_nil))) ?_
  refine bk_if (p := !arePartsB ps) (et_not (et_val (ev_call h_are_parts hr (by decide) ps (by omega) (ea_cons (t := ⟨rLst (rT2 K rInt (rWk K (cW K))), ps⟩) (ev_v 2) ea_nil)))) (fun c => ?_) (fun c => ?_)
  · exact absurd c (by rw [hp.parts]; simp)
  refine bk_then ?_
  refine bk_fldO 0 1 (T.ok.cls (.lot row n ps)) (T.ok.held (.lot row n ps)) rfl (EvO.ev (eo_listOf (Ev.bor (ev_v (r := rLst (rT2 K rInt (rWk K (cW K)))) (x := ps) 2)) T.f_list)) rfl (by decide) (by decide) ?_
  refine bk_lookS 0 rfl (frz_wk (w := .lot row n ps)) (fun G' H' σ h σ' H2 e => hnx σ' G' H2 (h.le.stepH e) ((show Ows G' H' [p0] [oWk K (cW K) (.lot row n ps) n ps none] from StillI.ows h (is := [0]) ⟨rfl, trivial⟩).stepH e) rfl) fun E1 hnx1 => ?_
  have hc := hp.count
  have hd := hp.deep
  have hsm := pl_small (w := .lot row n ps) (by omega)
  refine bk_set 3 sc_Lot_init.nd (EvO.ev (eo_vm0 h_m_names hr (by decide) (.lot row n ps) ⟨by omega, by omega⟩ (ev_v 0) rfl rfl)) ?_
  refine bk_if (p := (decide ((20 : Int) < ((Pl.lot row n ps).names.length : Int)) || (decide (((dups (Pl.lot row n ps).names).length : Int) < ((Pl.lot row n ps).names.length : Int)) || decide ((5 : Int) < ((Pl.lot row n ps).depth : Int)))))
    (et_bool (ew_or (et_gt (ev_len (ev_v 3) T.f_len) (ev_gint T.g_WORKS)) (fun _ => ew_or (et_lt (ev_lenTxt (by have : scanBound = 4096 := rfl; omega) (Ev.bor (ev_v 3)) T.f_len T.f_set) (ev_len (ev_v 3) T.f_len)) (fun _ => ew_or1 (et_gt (ev_vm0 h_m_depth hr (by decide) (.lot row n ps) ⟨⟨by show ps.length ≤ 1000; omega, hsm⟩, by omega⟩ (ev_v 0) rfl rfl) (ev_gint T.g_DEEP)))))) (fun c => ?_) (fun c => ?_)
  · refine absurd c ?_
    rw [dups_nodup hp.nodup]
    simp
    omega
  refine bk_then ?_
  exact bk_end fun G' H' σ h => hnx1 _ _ _ h.le
abbrev s_Leaf_leaves : Stmt := inClass (top 28) 1
theorem sc_Leaf_leaves : FnScope ["self"] ["self"] (defScope s_Leaf_leaves) := ⟨rfl, rfl, rfl, by decide +kernel, rfl, by decide +kernel, by decide +kernel⟩
abbrev sp_Leaf_leaves (K : PySem.W.Frag) : Sp := OSp (fun y : Pl => y.isLeaf = true ∧ y.names.length ≤ 1000) (fun y => [⟨(rWk K (cW K)), y⟩]) (fun y => oLst (rWk K (cW K)) (y.leaves))
theorem ok_Leaf_leaves {f : Addr} {fd : FuncData} (F : FunD K "leaves" "Leaf.leaves" (defArgs s_Leaf_leaves) (defBody s_Leaf_leaves) (defScope s_Leaf_leaves) [] [] f fd) (T : Facts K mg)  : FnOk P w K mg base (CXL P w) 1 f fd ["self"] (sp_Leaf_leaves K) := by
  refine fn_own F sc_Leaf_leaves (fun _ => rfl) fun self hp cdv A outer s H E0 G D hr hret => ?_
  try dsimp only at hp hret
  exact bk_retO (eo_lst (r := (rWk K (cW K))) (as := [self]) (ea_cons (ev_v 0) ea_nil) (by simp)) (hret.eqO (as' := [self]) (leaves_leaf hp.1))
abbrev s_Work_leaves : Stmt := inClass (top 27) 6
theorem sc_Work_leaves : FnScope ["self", "found", "weight", "work"] ["self"] (defScope s_Work_leaves) := ⟨rfl, rfl, rfl, by decide +kernel, rfl, by decide +kernel, by decide +kernel⟩
abbrev sp_Work_leaves (K : PySem.W.Frag) (d : Nat) : Sp := OSp (fun y : Pl => (y.isLeaf = false ∧ y.names.length ≤ 1000) ∧ y.depth < d) (fun y => [⟨(rWk K (cW K)), y⟩]) (fun y => oLst (rWk K (cW K)) (y.leaves))
theorem ok_Work_leaves {f : Addr} {fd : FuncData} (F : FunD K "leaves" "Work.leaves" (defArgs s_Work_leaves) (defBody s_Work_leaves) (defScope s_Work_leaves) [] [] f fd) (T : Facts K mg) {d : Nat} (h_m_leaves : HasVO P w K mg base (cW K) "leaves" (1 + d) (fun y : Pl => y) (fun y : Pl => (y.names.length ≤ 1000) ∧ y.depth < d) (fun y : Pl => []) (fun y => oLst (rWk K (cW K)) (y.leaves))) : FnOk P w K mg base (CXL P w) (1 + d + 1) f fd ["self"] (sp_Work_leaves K (d + 1)) := by
  refine fn_own F sc_Work_leaves (fun _ => rfl) fun self hp cdv A outer s H E0 G D hr hret => ?_
  try dsimp only at hp hret
  obtain ⟨hp, hd⟩ := hp
  refine bk_setO 1 sc_Work_leaves.nd (eo_nil (r := (rWk K (cW K)))) ?_
  refine bk_for (fun sq1 : (List Pl) => [.sh (rWk K (cW K)) self, .ow (oLst (rWk K (cW K)) (sq1)) none, .no, .no]) (fun i sq1 => sq1 = ((self.parts).take i).foldl (fun (a : List Pl) (q : Int × Pl) => a ++ q.2.leaves) (([] : (List Pl)))) (([] : (List Pl))) (passes_of rfl) (ei_lst (ev_held T.ok (ev_v 0))) (tg_tup2 (tg_name 2 sc_Work_leaves.nd) (tg_name 3 sc_Work_leaves.nd)) rfl (fun _ _ _ h => h) (fun F iq1 sq1 q1 mq1 eq1 => ?_) (fun sq1 eq1 => ?_)
  · have mm : q1 ∈ self.parts := List.mem_of_getElem? mq1
    have hq := Pl.part_depth mm
    have hn := leaves_part mm
    have hl := leaves_fold hp.1 eq1
    have hl2 := leaves_len q1.2
    refine bk_extend 1 rfl (EvO.bor (eo_vm0 h_m_leaves hr (by first | decide | omega) q1.2 ⟨by omega, by omega⟩ (ev_v 3) rfl)) (Evl.sz_of (by omega)) ?_
    exact bk_end fun G H σ h => ⟨((sq1 ++ (q1.2.leaves))), foldl_next mq1 eq1 rfl, G, (Holds.forget 3 (Holds.forget 2 h))⟩
  · rw [List.take_length] at eq1
    subst eq1
    exact bk_retv 1 (hret.eqO (as' := (self.parts.foldl (fun (a : List Pl) (q : Int × Pl) => a ++ q.2.leaves) (([] : (List Pl))))) ((leaves_eq _ hp.1).trans (by rw [leavess_foldl, List.nil_append])))
abbrev s_Work_work_of : Stmt := inClass (top 27) 7
theorem find_in {w : Pl} {i : Nat} {q : Int × Pl} {x : Str} (m : w.parts[i]? = some q) (e : Pl.finds (w.parts.take i) x = none) (c : (!(q.2.find x).isNone) = true) : Pl.finds w.parts x = q.2.find x := by
  cases h : q.2.find x with
  | none => rw [h] at c; simp at c
  | some z =>
    have lt := (List.getElem?_eq_some_iff.mp m).1
    have e2 : w.parts = w.parts.take i ++ q :: w.parts.drop (i + 1) := by
      conv => lhs; rw [← List.take_append_drop i w.parts]
      congr 1
      rw [List.drop_eq_getElem_cons lt]
      congr 1
      have := (List.getElem?_eq_some_iff.mp m).2
      exact this
    rw [e2]
    exact finds_mid h e
theorem find_next {w : Pl} {i : Nat} {q : Int × Pl} {x : Str} (m : w.parts[i]? = some q) (e : Pl.finds (w.parts.take i) x = none) (c : (!(q.2.find x).isNone) = false) : Pl.finds (w.parts.take (i + 1)) x = none := by
  rw [List.take_add_one, m]
  show Pl.finds (w.parts.take i ++ [q]) x = none
  rw [finds_snoc e]
  simpa using c
theorem sc_Work_work_of : FnScope ["self", "name", "weight", "work", "found"] ["self", "name"] (defScope s_Work_work_of) := ⟨rfl, rfl, rfl, by decide +kernel, rfl, by decide +kernel, by decide +kernel⟩
abbrev sp_Work_work_of (K : PySem.W.Frag) (d : Nat) : Sp := PSp (fun y : Pl × Str => y.1.depth < d) (fun y => [⟨(rWk K (cW K)), y.1⟩, ⟨rStr, y.2⟩]) (rOpt (rWk K (cW K))) (fun y => y.1.find y.2)
theorem ok_Work_work_of {f : Addr} {fd : FuncData} (F : FunD K "work_of" "Work.work_of" (defArgs s_Work_work_of) (defBody s_Work_work_of) (defScope s_Work_work_of) [] [] f fd) (T : Facts K mg) {d : Nat} (h_m_work_of : HasV P w K mg base (cW K) "work_of" (1 + d) (fun y : Pl × Str => y.1) (fun y : Pl × Str => y.1.depth < d) (fun y : Pl × Str => [⟨rStr, y.2⟩]) (rOpt (rWk K (cW K))) (fun y => y.1.find y.2)) : FnOk P w K mg base (CXL P w) (1 + d + 1) f fd ["self", "name"] (sp_Work_work_of K (d + 1)) := by
  refine fn_pure F sc_Work_work_of (fun _ => rfl) fun y hp cdv A outer s H E0 G D hr hret hnx => ?_
  obtain ⟨self, name⟩ := y
  try dsimp only at hp hret hnx
  have hd := hp
  refine bk_if (p := decide (self.name = name)) (et_eqS (ev_called T.ok (ev_v 0)) (ev_v 1)) (fun c_1 => ?_) (fun c_1 => ?_)
  · exact bk_ret (x := (some self)) (ev_some (r := (rWk K (cW K))) (ev_v 0)) (hret.eq (by rw [find_eq, if_pos c_1]))
  · refine bk_then ?_
    refine bk_for (fun _ : Unit => [.sh (rWk K (cW K)) self, .sh rStr name, .no, .no, .no]) (fun iq1 _ => Pl.finds ((self.parts).take iq1) name = none) () (passes_of rfl) (ei_lst (ev_held T.ok (ev_v 0))) (tg_tup2 (tg_name 2 sc_Work_work_of.nd) (tg_name 3 sc_Work_work_of.nd)) rfl (fun _ _ _ h => h) (fun F iq1 _ q1 mq1 eq1 => ?_) (fun _ eq1 => ?_)
    · have mm : q1 ∈ self.parts := List.mem_of_getElem? mq1
      refine bk_set 4 sc_Work_work_of.nd (ev_vm h_m_work_of hr (by first | decide | omega) (q1.2, name) (by (try dsimp only); exact (by have := Pl.part_depth mm; omega)) (ev_v 3) (ea_cons (ev_v 1) ea_nil)) ?_
      refine bk_if (p := (!((q1.2.find name)).isNone)) (et_notN nn_wk (ev_v 4) ev_unit) (fun c_2 => ?_) (fun c_2 => ?_)
      · exact bk_ret (x := (q1.2.find name)) (ev_v 4) (hret.eq (by rw [find_eq, if_neg (by rw [c_1]; simp)]; exact find_in mq1 eq1 c_2))
      · refine bk_then ?_
        exact bk_end fun G H σ h => ⟨(), find_next mq1 eq1 c_2, G, (Holds.forget 4 (Holds.forget 3 (Holds.forget 2 h)))⟩
    · exact bk_ret (x := (none : Option Pl)) (ev_none (r := (rWk K (cW K)))) (hret.eq (by rw [find_eq, if_neg (by rw [c_1]; simp)]; rw [List.take_length] at eq1; exact eq1))
abbrev s_Work_weights : Stmt := inClass (top 27) 8
theorem sc_Work_weights : FnScope ["self", "weight", "work"] ["self"] (defScope s_Work_weights) := ⟨rfl, rfl, rfl, by decide +kernel, rfl, by decide +kernel, by decide +kernel⟩
abbrev sp_Work_weights (K : PySem.W.Frag) : Sp := PSp (fun y : Pl => y.parts.length ≤ 1000) (fun y => [⟨(rWk K (cW K)), y⟩]) rInt (fun y => y.weights)
theorem ok_Work_weights {f : Addr} {fd : FuncData} (F : FunD K "weights" "Work.weights" (defArgs s_Work_weights) (defBody s_Work_weights) (defScope s_Work_weights) [] [] f fd) (T : Facts K mg)  : FnOk P w K mg base (CXL P w) 1 f fd ["self"] (sp_Work_weights K) := by
  refine fn_pure F sc_Work_weights (fun _ => rfl) fun self hp cdv A outer s H E0 G D hr hret hnx => ?_
  try dsimp only at hp hret hnx
  exact bk_ret (x := (self.parts.map (fun q1 : (Int × Pl) => q1.1)).sum) (ev_sum (EvO.bor (eo_lcm (val := fun q1 : (Int × Pl) => q1.1) [("weight", 1), ("work", 2)] sc_Work_weights.nd (ei_lst (ev_held T.ok (ev_v 0))) (blkOk_by (N := ["self", "weight", "work"]) (sc := defScope s_Work_weights) (by decide +kernel)) (fun _ => (tg_tup2 (tg_name 1 sc_Work_weights.nd) (tg_name 2 sc_Work_weights.nd))) (fun _ q1 q2 => (ev_v 1)) (by omega))) T.f_sum) (hret.eq rfl)
abbrev s_Leaf_far : Stmt := inClass (top 28) 2
theorem sc_Leaf_far : FnScope ["self", "did"] ["self", "did"] (defScope s_Leaf_far) := ⟨rfl, rfl, rfl, by decide +kernel, rfl, by decide +kernel, by decide +kernel⟩
abbrev sp_Leaf_far (K : PySem.W.Frag) : Sp := PSp (fun y : Pl × (List (Str × Int)) => y.1.isLeaf = true ∧ FarOk y.1 y.2) (fun y => [⟨(rWk K (cW K)), y.1⟩, ⟨(rDic rInt), y.2⟩]) (rQ K) (fun y => y.1.far y.2)
theorem ok_Leaf_far {f : Addr} {fd : FuncData} (F : FunD K "far" "Leaf.far" (defArgs s_Leaf_far) (defBody s_Leaf_far) (defScope s_Leaf_far) [] [] f fd) (T : Facts K mg) (h_share : Has P w K mg base "share" 2 (sp_share K)) : FnOk P w K mg base (CXL P w) 3 f fd ["self", "did"] (sp_Leaf_far K) := by
  refine fn_pure F sc_Leaf_far (fun _ => rfl) fun y hp cdv A outer s H E0 G D hr hret hnx => ?_
  obtain ⟨self, did⟩ := y
  try dsimp only at hp hret hnx
  exact bk_ret (x := (if (self.steps).isNone = true then (0 : Rat) else (qd ((dGet did self.name).getD (0 : Int)) (self.steps.getD 0)))) (ev_ifE (et_isN nn_int (ev_many T.ok (ev_v 0)) ev_unit) (fun q1 => (Ev.q (q := 0) (ev_gref' T.g_NOUGHT) rfl)) (fun q1 => (ev_call h_share hr (by first | decide | omega) (((dGet did self.name).getD (0 : Int)), (self.steps.getD 0)) (far_bot hp.2 hp.1 q1) (ea_cons (ev_dgetD hr (Ev.borD (ev_v 1)) (ev_called T.ok (ev_v 0)) ev_int) (ea_cons (ev_unopt (d := 0) (by first | exact q1 | simpa using q1) (ev_many T.ok (ev_v 0))) ea_nil))))) (hret.eq (far_leaf hp.1))
abbrev s_Work_far : Stmt := inClass (top 27) 9
theorem far_len {w : Pl} {did : List (Str × Int)} (h : FarOk w did) : w.parts.length ≤ 1000 := by
  have f := h.fit
  cases w with
  | leaf n s => simp [Pl.parts]
  | lot r n ps => have := fit_len f; show ps.length ≤ 1000; omega
theorem sc_Work_far : FnScope ["self", "did", "found", "weight", "work"] ["self", "did"] (defScope s_Work_far) := ⟨rfl, rfl, rfl, by decide +kernel, rfl, by decide +kernel, by decide +kernel⟩
abbrev sp_Work_far (K : PySem.W.Frag) (d : Nat) : Sp := PSp (fun y : Pl × (List (Str × Int)) => (y.1.isLeaf = false ∧ FarOk y.1 y.2) ∧ y.1.depth < d) (fun y => [⟨(rWk K (cW K)), y.1⟩, ⟨(rDic rInt), y.2⟩]) (rQ K) (fun y => y.1.far y.2)
theorem ok_Work_far {f : Addr} {fd : FuncData} (F : FunD K "far" "Work.far" (defArgs s_Work_far) (defBody s_Work_far) (defScope s_Work_far) [] [] f fd) (T : Facts K mg) {d : Nat} (h_m_far : HasV P w K mg base (cW K) "far" (4 + d) (fun y : Pl × (List (Str × Int)) => y.1) (fun y : Pl × (List (Str × Int)) => (FarOk y.1 y.2) ∧ y.1.depth < d) (fun y : Pl × (List (Str × Int)) => [⟨(rDic rInt), y.2⟩]) (rQ K) (fun y => y.1.far y.2)) (h_share : Has P w K mg base "share" 2 (sp_share K)) (h_plus : Has P w K mg base "plus" 3 (sp_plus K)) (h_of_it : Has P w K mg base "of_it" 3 (sp_of_it K)) (h_m_weights : HasV P w K mg base (cW K) "weights" 1 (fun y : Pl => y) (fun y : Pl => y.parts.length ≤ 1000) (fun y : Pl => []) rInt (fun y => y.weights)) : FnOk P w K mg base (CXL P w) (4 + d + 1) f fd ["self", "did"] (sp_Work_far K (d + 1)) := by
  refine fn_pure F sc_Work_far (fun _ => rfl) fun y hp cdv A outer s H E0 G D hr hret hnx => ?_
  obtain ⟨self, did⟩ := y
  try dsimp only at hp hret hnx
  obtain ⟨hp, hd⟩ := hp
  have hlen : self.parts.length ≤ 1000 := far_len hp.2
  refine bk_set 2 sc_Work_far.nd (Ev.q (q := 0) (ev_gref' T.g_NOUGHT) rfl) ?_
  refine bk_for (fun sq1 : Rat => [.sh (rWk K (cW K)) self, .sh (rDic rInt) did, .sh (rQ K) sq1, .no, .no]) (fun i sq1 => sq1 = ((self.parts).take i).foldl (fun (a : Rat) (q : Int × Pl) => a + qd q.1 self.weights * q.2.far did) ((0 : Rat))) ((0 : Rat)) (passes_of rfl) (ei_lst (ev_held T.ok (ev_v 0))) (tg_tup2 (tg_name 3 sc_Work_far.nd) (tg_name 4 sc_Work_far.nd)) rfl (fun _ _ _ h => h) (fun F iq1 sq1 q1 mq1 eq1 => ?_) (fun sq1 eq1 => ?_)
  · have mm : q1 ∈ self.parts := List.mem_of_getElem? mq1
    have hq := Pl.part_depth mm
    have hst := far_step hp.2 hp.1 mq1 eq1
    refine bk_set 2 sc_Work_far.nd (ev_call h_plus hr (by first | decide | omega) (sq1, ((qd q1.1 (self.weights)) * (q1.2.far did))) hst.2.1 (ea_cons (ev_v 2) (ea_cons (ev_call h_of_it hr (by first | decide | omega) ((qd q1.1 (self.weights)), (q1.2.far did)) hst.1 (ea_cons (ev_call h_share hr (by first | decide | omega) (q1.1, (self.weights)) hst.2.2 (ea_cons (ev_v 3) (ea_cons (ev_vm0 h_m_weights hr (by first | decide | omega) self (by omega) (ev_v 0) rfl) ea_nil))) (ea_cons (ev_vm h_m_far hr (by first | decide | omega) (q1.2, did) (by (try dsimp only); exact ⟨hp.2.part mm, by omega⟩) (ev_v 4) (ea_cons (ev_v 1) ea_nil)) ea_nil))) ea_nil))) ?_
    exact bk_end fun G H σ h => ⟨((sq1 + ((qd q1.1 (self.weights)) * (q1.2.far did)))), foldl_next mq1 eq1 rfl, G, (Holds.forget 4 (Holds.forget 3 h))⟩
  · rw [List.take_length] at eq1
    subst eq1
    exact bk_ret (x := (self.parts.foldl (fun (a : Rat) (q : Int × Pl) => a + qd q.1 self.weights * q.2.far did) ((0 : Rat)))) (ev_v 2) (hret.eq (far_lot hp.1))
abbrev s_Row_anew : Stmt := inClass (top 31) 0
theorem sc_Row_anew : FnScope ["self", "parts"] ["self", "parts"] (defScope s_Row_anew) := ⟨rfl, rfl, rfl, by decide +kernel, rfl, by decide +kernel, by decide +kernel⟩
abbrev sp_Row_anew (K : PySem.W.Frag) : Sp := PSp (fun y : Pl × (List (Int × Pl)) => y.1.isRow = true ∧ LotOk y.1.isRow y.1.name y.2 ∧ y.1.name.length ≤ 1000) (fun y => [⟨(rWk K (cW K)), y.1⟩, ⟨(rLst (rT2 K rInt (rWk K (cW K)))), y.2⟩]) (rWk K (cW K)) (fun y => Pl.lot y.1.isRow y.1.name y.2)
theorem ok_Row_anew {f : Addr} {fd : FuncData} (F : FunD K "anew" "Row.anew" (defArgs s_Row_anew) (defBody s_Row_anew) (defScope s_Row_anew) [] [] f fd) (T : Facts K mg) (h_Row : HasI P w K mg base "Row" (cW K).R 9 (sp_Lot_initF K true)) : FnOk P w K mg base (CXL P w) 11 f fd ["self", "parts"] (sp_Row_anew K) := by
  refine fn_pure F sc_Row_anew (fun _ => rfl) fun y hp cdv A outer s H E0 G D hr hret hnx => ?_
  obtain ⟨self, parts⟩ := y
  try dsimp only at hp hret hnx
  exact bk_ret (x := (Pl.lot true self.name parts)) (ev_make (ss := []) h_Row hr (by first | decide | omega) (self.name, parts) ⟨by have z := hp.2.1; rw [hp.1] at z; exact z, hp.2.2⟩ (ep_ty (t := ⟨rStr, self.name⟩) (ev_called T.ok (ev_v 0)) (ep_ty (t := ⟨(rLst (rT2 K rInt (rWk K (cW K)))), parts⟩) (ev_v 1) ep_nil)) (frz_wk (w := (Pl.lot true self.name parts)))) (hret.eq (by rw [hp.1]))
abbrev s_Bundle_anew : Stmt := inClass (top 32) 0
theorem bun_row {w : Pl} (h : w.isBun = true) : w.isRow = false := by
  cases w with
  | leaf n s => simp [Pl.isBun] at h
  | lot r n ps => cases r <;> first | rfl | (simp [Pl.isBun] at h)
theorem planOk_lot {w : Pl} {ps : List (Int × Pl)} (h : PlanOk (.lot w.isRow w.name ps)) : LotOk w.isRow w.name ps ∧ w.name.length ≤ 1000 := h.lot rfl
theorem withLeaf_leaf {w : Pl} {x : Str} {wt : Int} {lf : Pl} (h : w.isLeaf = true) : Pl.withLeaf x wt lf w = w := by
  cases w with
  | leaf n s => rfl
  | lot r n ps => simp [Pl.isLeaf] at h
theorem withLeaf_lot {w : Pl} {x : Str} {wt : Int} {lf : Pl} (h : w.isLeaf = false) : Pl.withLeaf x wt lf w = .lot w.isRow w.name (if decide (w.name = x) = true then (w.parts.map fun q : Int × Pl => (q.1, Pl.withLeaf x wt lf q.2)) ++ [(wt, lf)] else w.parts.map fun q : Int × Pl => (q.1, Pl.withLeaf x wt lf q.2)) := by
  cases w with
  | leaf n s => simp [Pl.isLeaf] at h
  | lot r n ps =>
    have e : (Pl.lot r n ps).isRow = r := by cases r <;> rfl
    rw [e]
    simp only [Pl.withLeaf, Pl.withLeafs_map]
    rfl
theorem withLeaf_part {w : Pl} {x : Str} {wt : Int} {lf : Pl} (h : w.isLeaf = false) (k : PlanOk (Pl.withLeaf x wt lf w)) {q : Int × Pl} (m : q ∈ w.parts) : PlanOk (Pl.withLeaf x wt lf q.2) := by
  have e := withLeaf_lot (x := x) (wt := wt) (lf := lf) h
  refine k.part (q := (q.1, Pl.withLeaf x wt lf q.2)) ?_
  rw [e]
  show _ ∈ (if decide (w.name = x) = true then (w.parts.map fun q : Int × Pl => (q.1, Pl.withLeaf x wt lf q.2)) ++ [(wt, lf)] else w.parts.map fun q : Int × Pl => (q.1, Pl.withLeaf x wt lf q.2))
  have mm : (q.1, Pl.withLeaf x wt lf q.2) ∈ w.parts.map fun q : Int × Pl => (q.1, Pl.withLeaf x wt lf q.2) := List.mem_map.mpr ⟨q, m, rfl⟩
  split
  · exact List.mem_append_left _ mm
  · exact mm
theorem withLeaf_len {w : Pl} {x : Str} {wt : Int} {lf : Pl} (h : w.isLeaf = false) (k : PlanOk (Pl.withLeaf x wt lf w)) : w.parts.length ≤ 6 := by
  have e := withLeaf_lot (x := x) (wt := wt) (lf := lf) h
  rw [e] at k
  have z : (if decide (w.name = x) = true then (w.parts.map fun q : Int × Pl => (q.1, Pl.withLeaf x wt lf q.2)) ++ [(wt, lf)] else w.parts.map fun q : Int × Pl => (q.1, Pl.withLeaf x wt lf q.2)).length ≤ 6 := k.few
  split at z
  · rw [List.length_append, List.length_map] at z
    omega
  · rw [List.length_map] at z
    exact z
theorem withSteps_lot {w : Pl} {x : Str} {k : Int} (h : w.isLeaf = false) : Pl.withSteps x k w = .lot w.isRow w.name (w.parts.map fun q : Int × Pl => (q.1, Pl.withSteps x k q.2)) := by
  cases w with
  | leaf n s => simp [Pl.isLeaf] at h
  | lot r n ps =>
    have e : (Pl.lot r n ps).isRow = r := by cases r <;> rfl
    rw [e]
    simp only [Pl.withSteps, Pl.withStepss_map]
    rfl
theorem withSteps_leaf {w : Pl} {x : Str} {k : Int} (h : w.isLeaf = true) : Pl.withSteps x k w = if decide (w.name = x) = true then .leaf x (some k) else w := by
  cases w with
  | leaf n s => simp only [Pl.withSteps, Pl.name]; rfl
  | lot r n ps => simp [Pl.isLeaf] at h
theorem withSteps_part {w : Pl} {x : Str} {k : Int} (h : w.isLeaf = false) (o : PlanOk (Pl.withSteps x k w)) {q : Int × Pl} (m : q ∈ w.parts) : PlanOk (Pl.withSteps x k q.2) := by
  have e := withSteps_lot (x := x) (k := k) h
  refine o.part (q := (q.1, Pl.withSteps x k q.2)) ?_
  rw [e]
  exact List.mem_map.mpr ⟨q, m, rfl⟩
theorem withSteps_len {w : Pl} {x : Str} {k : Int} (h : w.isLeaf = false) (o : PlanOk (Pl.withSteps x k w)) : w.parts.length ≤ 6 := by
  have e := withSteps_lot (x := x) (k := k) h
  rw [e] at o
  have z : (w.parts.map fun q : Int × Pl => (q.1, Pl.withSteps x k q.2)).length ≤ 6 := o.few
  rw [List.length_map] at z
  exact z
theorem withSteps_pre {w : Pl} {x : Str} {k : Int} (h : w.isLeaf = true) (o : PlanOk (Pl.withSteps x k w)) (c : decide (w.name = x) = true) : (isNameB x = true ∧ x.length ≤ 1000) ∧ StOk (some k) := by
  rw [withSteps_leaf h, if_pos c] at o
  exact ⟨⟨o.name.1, o.name.2.1⟩, o.steps⟩
theorem sc_Bundle_anew : FnScope ["self", "parts"] ["self", "parts"] (defScope s_Bundle_anew) := ⟨rfl, rfl, rfl, by decide +kernel, rfl, by decide +kernel, by decide +kernel⟩
abbrev sp_Bundle_anew (K : PySem.W.Frag) : Sp := PSp (fun y : Pl × (List (Int × Pl)) => y.1.isBun = true ∧ LotOk y.1.isRow y.1.name y.2 ∧ y.1.name.length ≤ 1000) (fun y => [⟨(rWk K (cW K)), y.1⟩, ⟨(rLst (rT2 K rInt (rWk K (cW K)))), y.2⟩]) (rWk K (cW K)) (fun y => Pl.lot y.1.isRow y.1.name y.2)
theorem ok_Bundle_anew {f : Addr} {fd : FuncData} (F : FunD K "anew" "Bundle.anew" (defArgs s_Bundle_anew) (defBody s_Bundle_anew) (defScope s_Bundle_anew) [] [] f fd) (T : Facts K mg) (h_Bundle : HasI P w K mg base "Bundle" (cW K).B 9 (sp_Lot_initF K false)) : FnOk P w K mg base (CXL P w) 11 f fd ["self", "parts"] (sp_Bundle_anew K) := by
  refine fn_pure F sc_Bundle_anew (fun _ => rfl) fun y hp cdv A outer s H E0 G D hr hret hnx => ?_
  obtain ⟨self, parts⟩ := y
  try dsimp only at hp hret hnx
  exact bk_ret (x := (Pl.lot false self.name parts)) (ev_make (ss := []) h_Bundle hr (by first | decide | omega) (self.name, parts) ⟨by have z := hp.2.1; rw [bun_row hp.1] at z; exact z, hp.2.2⟩ (ep_ty (t := ⟨rStr, self.name⟩) (ev_called T.ok (ev_v 0)) (ep_ty (t := ⟨(rLst (rT2 K rInt (rWk K (cW K)))), parts⟩) (ev_v 1) ep_nil)) (frz_wk (w := (Pl.lot false self.name parts)))) (hret.eq (by rw [bun_row hp.1]))
abbrev s_Leaf_with_leaf : Stmt := inClass (top 28) 3
theorem sc_Leaf_with_leaf : FnScope ["self", "name", "weight", "leaf"] ["self", "name", "weight", "leaf"] (defScope s_Leaf_with_leaf) := ⟨rfl, rfl, rfl, by decide +kernel, rfl, by decide +kernel, by decide +kernel⟩
abbrev sp_Leaf_with_leaf (K : PySem.W.Frag) : Sp := PSp (fun y : Pl × Str × Int × Pl => y.1.isLeaf = true ∧ PlanOk (Pl.withLeaf y.2.1 y.2.2.1 y.2.2.2 y.1)) (fun y => [⟨(rWk K (cW K)), y.1⟩, ⟨rStr, y.2.1⟩, ⟨rInt, y.2.2.1⟩, ⟨(rWk K (cW K)), y.2.2.2⟩]) (rWk K (cW K)) (fun y => Pl.withLeaf y.2.1 y.2.2.1 y.2.2.2 y.1)
theorem ok_Leaf_with_leaf {f : Addr} {fd : FuncData} (F : FunD K "with_leaf" "Leaf.with_leaf" (defArgs s_Leaf_with_leaf) (defBody s_Leaf_with_leaf) (defScope s_Leaf_with_leaf) [] [] f fd) (T : Facts K mg)  : FnOk P w K mg base (CXL P w) 1 f fd ["self", "name", "weight", "leaf"] (sp_Leaf_with_leaf K) := by
  refine fn_pure F sc_Leaf_with_leaf (fun _ => rfl) fun y hp cdv A outer s H E0 G D hr hret hnx => ?_
  obtain ⟨self, name, weight, leaf⟩ := y
  try dsimp only at hp hret hnx
  exact bk_ret (x := self) (ev_v 0) (hret.eq (withLeaf_leaf hp.1))
abbrev s_Work_with_leaf : Stmt := inClass (top 27) 11
theorem sc_Work_with_leaf : FnScope ["self", "name", "weight", "leaf", "parts", "many", "work"] ["self", "name", "weight", "leaf"] (defScope s_Work_with_leaf) := ⟨rfl, rfl, rfl, by decide +kernel, rfl, by decide +kernel, by decide +kernel⟩
abbrev sp_Work_with_leaf (K : PySem.W.Frag) (d : Nat) : Sp := PSp (fun y : Pl × Str × Int × Pl => (y.1.isLeaf = false ∧ PlanOk (Pl.withLeaf y.2.1 y.2.2.1 y.2.2.2 y.1)) ∧ y.1.depth < d) (fun y => [⟨(rWk K (cW K)), y.1⟩, ⟨rStr, y.2.1⟩, ⟨rInt, y.2.2.1⟩, ⟨(rWk K (cW K)), y.2.2.2⟩]) (rWk K (cW K)) (fun y => Pl.withLeaf y.2.1 y.2.2.1 y.2.2.2 y.1)
theorem ok_Work_with_leaf {f : Addr} {fd : FuncData} (F : FunD K "with_leaf" "Work.with_leaf" (defArgs s_Work_with_leaf) (defBody s_Work_with_leaf) (defScope s_Work_with_leaf) [] [] f fd) (T : Facts K mg) {d : Nat} (h_m_with_leaf : HasV P w K mg base (cW K) "with_leaf" (12 + d) (fun y : Pl × Str × Int × Pl => y.1) (fun y : Pl × Str × Int × Pl => (PlanOk (Pl.withLeaf y.2.1 y.2.2.1 y.2.2.2 y.1)) ∧ y.1.depth < d) (fun y : Pl × Str × Int × Pl => [⟨rStr, y.2.1⟩, ⟨rInt, y.2.2.1⟩, ⟨(rWk K (cW K)), y.2.2.2⟩]) (rWk K (cW K)) (fun y => Pl.withLeaf y.2.1 y.2.2.1 y.2.2.2 y.1)) (h_m_anew : HasV P w K mg base (cW K) "anew" 11 (fun y : Pl × (List (Int × Pl)) => y.1) (fun y : Pl × (List (Int × Pl)) => y.1.isLeaf = false ∧ LotOk y.1.isRow y.1.name y.2 ∧ y.1.name.length ≤ 1000) (fun y : Pl × (List (Int × Pl)) => [⟨(rLst (rT2 K rInt (rWk K (cW K)))), y.2⟩]) (rWk K (cW K)) (fun y => Pl.lot y.1.isRow y.1.name y.2)) : FnOk P w K mg base (CXL P w) (12 + d + 1) f fd ["self", "name", "weight", "leaf"] (sp_Work_with_leaf K (d + 1)) := by
  refine fn_pure F sc_Work_with_leaf (fun _ => rfl) fun y hp cdv A outer s H E0 G D hr hret hnx => ?_
  obtain ⟨self, name, weight, leaf⟩ := y
  try dsimp only at hp hret hnx
  obtain ⟨hp, hd⟩ := hp
  refine bk_setLm (as := self.parts) (s := (rT2 K rInt (rWk K (cW K)))) (val := fun q1 : (Int × Pl) => (q1.1, (Pl.withLeaf name weight leaf q1.2))) 4 [("many", 5), ("work", 6)] sc_Work_with_leaf.nd (ei_lst (ev_held T.ok (ev_v 0))) (blkOk_by (N := ["self", "name", "weight", "leaf", "parts", "many", "work"]) (sc := defScope s_Work_with_leaf) (by decide +kernel)) (fun _ => (tg_tup2 (tg_name 5 sc_Work_with_leaf.nd) (tg_name 6 sc_Work_with_leaf.nd))) (fun _ q1 q2 => (ev_tup2 (ea_cons (ev_v 5) (ea_cons (ev_vm h_m_with_leaf hr (by first | decide | omega) (q1.2, name, weight, leaf) (by (try dsimp only); exact ⟨withLeaf_part hp.1 hp.2 q2, by have := Pl.part_depth q2; omega⟩) (ev_v 6) (ea_cons (ev_v 1) (ea_cons (ev_v 2) (ea_cons (ev_v 3) ea_nil)))) ea_nil)))) (by have := withLeaf_len hp.1 hp.2; omega) ?_
  exact bk_ret (x := (Pl.lot self.isRow self.name (if decide (self.name = name) = true then ((self.parts.map (fun q1 : (Int × Pl) => (q1.1, (Pl.withLeaf name weight leaf q1.2)))) ++ [(weight, leaf)]) else (self.parts.map (fun q1 : (Int × Pl) => (q1.1, (Pl.withLeaf name weight leaf q1.2))))))) (ev_vm h_m_anew hr (by first | decide | omega) (self, (if decide (self.name = name) = true then ((self.parts.map (fun q1 : (Int × Pl) => (q1.1, (Pl.withLeaf name weight leaf q1.2)))) ++ [(weight, leaf)]) else (self.parts.map (fun q1 : (Int × Pl) => (q1.1, (Pl.withLeaf name weight leaf q1.2)))))) (by (try dsimp only); exact ⟨hp.1, planOk_lot (by rw [← withLeaf_lot hp.1]; exact hp.2)⟩) (ev_v 0) (ea_cons (ev_ifE (et_eqS (ev_called T.ok (ev_v 0)) (ev_v 1)) (fun q3 => (EvO.ev (eo_cat (r := (rT2 K rInt (rWk K (cW K)))) (as := (self.parts.map (fun q1 : (Int × Pl) => (q1.1, (Pl.withLeaf name weight leaf q1.2))))) (bs := [(weight, leaf)]) (Ev.bor (ev_v 4)) (EvO.bor (eo_lst (r := (rT2 K rInt (rWk K (cW K)))) (as := [(weight, leaf)]) (ea_cons (ev_tup2 (ea_cons (ev_v 2) (ea_cons (ev_v 3) ea_nil))) ea_nil) (by simp))) (Evl.sz_of (by have := withLeaf_len hp.1 hp.2; simp; omega))))) (fun q3 => (ev_v 4))) ea_nil)) (hret.eq (withLeaf_lot hp.1))
abbrev s_Leaf_with_steps : Stmt := inClass (top 28) 4
theorem sc_Leaf_with_steps : FnScope ["self", "name", "steps"] ["self", "name", "steps"] (defScope s_Leaf_with_steps) := ⟨rfl, rfl, rfl, by decide +kernel, rfl, by decide +kernel, by decide +kernel⟩
abbrev sp_Leaf_with_steps (K : PySem.W.Frag) : Sp := PSp (fun y : Pl × Str × Int => y.1.isLeaf = true ∧ PlanOk (Pl.withSteps y.2.1 y.2.2 y.1)) (fun y => [⟨(rWk K (cW K)), y.1⟩, ⟨rStr, y.2.1⟩, ⟨rInt, y.2.2⟩]) (rWk K (cW K)) (fun y => Pl.withSteps y.2.1 y.2.2 y.1)
theorem ok_Leaf_with_steps {f : Addr} {fd : FuncData} (F : FunD K "with_steps" "Leaf.with_steps" (defArgs s_Leaf_with_steps) (defBody s_Leaf_with_steps) (defScope s_Leaf_with_steps) [] [] f fd) (T : Facts K mg) (h_LeafK : HasK P w K mg base "Leaf" (cW K).L ["steps"] 3 (sp_Leaf_init K)) : FnOk P w K mg base (CXL P w) 5 f fd ["self", "name", "steps"] (sp_Leaf_with_steps K) := by
  refine fn_pure F sc_Leaf_with_steps (fun _ => rfl) fun y hp cdv A outer s H E0 G D hr hret hnx => ?_
  obtain ⟨self, name, steps⟩ := y
  try dsimp only at hp hret hnx
  exact bk_ret (x := (if decide (self.name = name) = true then (Pl.leaf name (some steps)) else self)) (ev_ifE (et_eqS (ev_called T.ok (ev_v 0)) (ev_v 1)) (fun q1 => (ev_makeK h_LeafK hr (by first | decide | omega) (name, (some steps)) (withSteps_pre hp.1 hp.2 q1) (ev_v 1) (ev_some (r := rInt) (ev_v 2)) (frz_wk (w := (Pl.leaf name (some steps)))))) (fun q1 => (ev_v 0))) (hret.eq (withSteps_leaf hp.1))
abbrev s_Work_with_steps : Stmt := inClass (top 27) 12
theorem sc_Work_with_steps : FnScope ["self", "name", "steps", "weight", "work"] ["self", "name", "steps"] (defScope s_Work_with_steps) := ⟨rfl, rfl, rfl, by decide +kernel, rfl, by decide +kernel, by decide +kernel⟩
abbrev sp_Work_with_steps (K : PySem.W.Frag) (d : Nat) : Sp := PSp (fun y : Pl × Str × Int => (y.1.isLeaf = false ∧ PlanOk (Pl.withSteps y.2.1 y.2.2 y.1)) ∧ y.1.depth < d) (fun y => [⟨(rWk K (cW K)), y.1⟩, ⟨rStr, y.2.1⟩, ⟨rInt, y.2.2⟩]) (rWk K (cW K)) (fun y => Pl.withSteps y.2.1 y.2.2 y.1)
theorem ok_Work_with_steps {f : Addr} {fd : FuncData} (F : FunD K "with_steps" "Work.with_steps" (defArgs s_Work_with_steps) (defBody s_Work_with_steps) (defScope s_Work_with_steps) [] [] f fd) (T : Facts K mg) {d : Nat} (h_m_with_steps : HasV P w K mg base (cW K) "with_steps" (12 + d) (fun y : Pl × Str × Int => y.1) (fun y : Pl × Str × Int => (PlanOk (Pl.withSteps y.2.1 y.2.2 y.1)) ∧ y.1.depth < d) (fun y : Pl × Str × Int => [⟨rStr, y.2.1⟩, ⟨rInt, y.2.2⟩]) (rWk K (cW K)) (fun y => Pl.withSteps y.2.1 y.2.2 y.1)) (h_m_anew : HasV P w K mg base (cW K) "anew" 11 (fun y : Pl × (List (Int × Pl)) => y.1) (fun y : Pl × (List (Int × Pl)) => y.1.isLeaf = false ∧ LotOk y.1.isRow y.1.name y.2 ∧ y.1.name.length ≤ 1000) (fun y : Pl × (List (Int × Pl)) => [⟨(rLst (rT2 K rInt (rWk K (cW K)))), y.2⟩]) (rWk K (cW K)) (fun y => Pl.lot y.1.isRow y.1.name y.2)) : FnOk P w K mg base (CXL P w) (12 + d + 1) f fd ["self", "name", "steps"] (sp_Work_with_steps K (d + 1)) := by
  refine fn_pure F sc_Work_with_steps (fun _ => rfl) fun y hp cdv A outer s H E0 G D hr hret hnx => ?_
  obtain ⟨self, name, steps⟩ := y
  try dsimp only at hp hret hnx
  obtain ⟨hp, hd⟩ := hp
  exact bk_ret (x := (Pl.lot self.isRow self.name (self.parts.map (fun q1 : (Int × Pl) => (q1.1, (Pl.withSteps name steps q1.2)))))) (ev_vm h_m_anew hr (by first | decide | omega) (self, (self.parts.map (fun q1 : (Int × Pl) => (q1.1, (Pl.withSteps name steps q1.2))))) (by (try dsimp only); exact ⟨hp.1, planOk_lot (by rw [← withSteps_lot hp.1]; exact hp.2)⟩) (ev_v 0) (ea_cons (EvO.ev (eo_lcm (val := fun q1 : (Int × Pl) => (q1.1, (Pl.withSteps name steps q1.2))) [("weight", 3), ("work", 4)] sc_Work_with_steps.nd (ei_lst (ev_held T.ok (ev_v 0))) (blkOk_by (N := ["self", "name", "steps", "weight", "work"]) (sc := defScope s_Work_with_steps) (by decide +kernel)) (fun _ => (tg_tup2 (tg_name 3 sc_Work_with_steps.nd) (tg_name 4 sc_Work_with_steps.nd))) (fun _ q1 q2 => (ev_tup2 (ea_cons (ev_v 3) (ea_cons (ev_vm h_m_with_steps hr (by first | decide | omega) (q1.2, name, steps) (by (try dsimp only); exact ⟨withSteps_part hp.1 hp.2 q2, by have := Pl.part_depth q2; omega⟩) (ev_v 4) (ea_cons (ev_v 1) (ea_cons (ev_v 2) ea_nil))) ea_nil)))) (by have := withSteps_len hp.1 hp.2; omega))) ea_nil)) (hret.eq (withSteps_lot hp.1))
end
end Hf


namespace Hf
open PySem PySem.Spec PyProof.Rows L2 ClX
section
variable {P : Program} {w : World} {K : PySem.W.Frag} {mg : Str → Option Value} {base : Heap}
structure FormsOk (K : PySem.W.Frag) (w : World) (mg : Str → Option Value) : Prop where
  ex : ∃ (d : Addr) (es : Array DictEntry) (n : Nat), mg "FORMS" = some (.ref d) ∧ KDict K w d es n ∧ ∀ t : Tel, ∃ u, PySem.W.nsIn K d t.kind = some (some u) ∧ RelV (.int t.size) u
abbrev s_is_telling : Stmt := top 35
theorem sc_is_telling : FnScope ["telling"] ["telling"] (defScope s_is_telling) := ⟨rfl, rfl, rfl, by decide +kernel, rfl, by decide +kernel, by decide +kernel⟩
abbrev sp_is_telling (K : PySem.W.Frag) : Sp := PSp (fun y : Tel => TelOk y) (fun y => [⟨rTel K, y⟩]) rBool (fun _ => true)
theorem ok_is_telling {f : Addr} {fd : FuncData} (F : FunD K "is_telling" "is_telling" (defArgs s_is_telling) (defBody s_is_telling) (defScope s_is_telling) [] [] f fd) (T : Facts K mg) (h_is_number : Has P w K mg base "is_number" 1 (sp_is_number K)) (h_is_name : Has P w K mg base "is_name" 1 (sp_is_name K)) (h_FORMS : FormsOk K w mg) : FnOk P w K mg base (CXL P w) 2 f fd ["telling"] (sp_is_telling K) := by
  refine fn_pure F sc_is_telling (fun _ => rfl) fun t hp cdv A outer s H E0 G D hr hret hnx => ?_
  try dsimp only at hp hret hnx
  obtain ⟨dF, esF, nF, hF1, hF2, hF3⟩ := h_FORMS.ex
  have hsz : 2 ≤ t.size := by cases t <;> simp [Tel.size]
  refine bk_if (p := (!true || (decide (t.size < 2) || !true))) (et_bool (ew_or (et_not (et_val (ev_isi (T := "tuple") (C := "tuple") (b := true) (ev_v 0) kind_tel (by decide +kernel) T.f_isinstance T.f_tuple (by decide +kernel)))) (fun q1 => (ew_or (et_lt (ev_lenTel (ev_v 0) T.f_len) ev_int) (fun q2 => (ew_or1 (et_not (et_val (ev_isi (T := "str") (C := "str") (b := true) (ev_tel0 (ev_v 0)) kind_str (by decide +kernel) T.f_isinstance T.f_str (by decide +kernel)))))))))) (fun c_1 => ?_) (fun c_1 => ?_)
  · exact absurd c_1 (by simp; omega)
  refine bk_then ?_
  refine bk_if (p := (!decide (t.size = t.size) || !isNameB t.name)) (et_bool (ew_or (et_neI (ev_lenTel (ev_v 0) T.f_len) (ev_kget (k := t.kind) hF1 hF2 (ev_tel0 (ev_v 0)) (ev_int (i := 0)) (hF3 t))) (fun q1 => (ew_or1 (et_not (et_val (ev_call h_is_name hr (by first | decide | omega) t.name hp.name.2 (ea_cons (ev_tel1 (ev_v 0)) ea_nil)))))))) (fun c_2 => ?_) (fun c_2 => ?_)
  · exact absurd c_2 (by rw [hp.name.1]; simp)
  refine bk_then ?_
  refine bk_if (p := decide (t.kind ∈ [("did" : Str), "knows"])) (et_inT2 (ev_tel0 (ev_v 0)) (ev_tup2 (ea_cons (t := ⟨rStr, "did"⟩) ev_str (ea_cons (t := ⟨rStr, "knows"⟩) ev_str ea_nil)))) (fun c_3 => ?_) (fun c_3 => ?_)
  · have hk : t.isAgain = false ∧ t.isFound = false := by
      have z := of_decide_eq_true c_3
      cases t with
      | did n k => exact ⟨rfl, rfl⟩
      | knows n k => exact ⟨rfl, rfl⟩
      | found e w n s => simp [Tel.kind, ne_found_did, ne_found_knows] at z
      | again n => simp [Tel.kind, ne_again_did, ne_again_knows] at z
    have hb : isNum t.num 1 1000 = true := by have z := hp.num hk.1; rw [hk.2] at z; exact z
    exact bk_ret (x := isNum t.num 1 1000) (ev_call h_is_number hr (by first | decide | omega) (t.num, 1, 1000) trivial (ea_cons (t := ⟨rInt, t.num⟩) (ev_tel2 hk.1 (ev_v 0)) (ea_cons (t := ⟨rInt, 1⟩) ev_int (ea_cons (t := ⟨rInt, 1000⟩) (ev_gint T.g_STEPS) ea_nil)))) (hret.eq hb.symm)
  refine bk_then ?_
  refine bk_if (p := decide (t.kind = ("again" : Str))) (et_eqS (ev_tel0 (ev_v 0)) ev_str) (fun c_4 => ?_) (fun c_4 => ?_)
  · exact bk_ret (x := true) ev_bool hret
  refine bk_then ?_
  have hk : t.isFound = true := by
    have z := of_decide_eq_false c_3
    have z2 := of_decide_eq_false c_4
    cases t with
    | did n k => simp [Tel.kind] at z
    | knows n k => simp [Tel.kind] at z
    | found e w n s => rfl
    | again n => exact absurd rfl z2
  have ha : t.isAgain = false := by cases t <;> first | rfl | (simp [Tel.isFound] at hk)
  have hn : isNum t.num 1 100 = true := by have z := hp.num ha; rw [hk] at z; exact z
  obtain ⟨hl1, hl2⟩ := hp.leaf hk
  refine bk_if (p := (!isNum t.num 1 100 || !isNameB t.leaf)) (et_bool (ew_or (et_not (et_val (ev_call h_is_number hr (by first | decide | omega) (t.num, 1, 100) trivial (ea_cons (t := ⟨rInt, t.num⟩) (ev_tel2 ha (ev_v 0)) (ea_cons (t := ⟨rInt, 1⟩) ev_int (ea_cons (t := ⟨rInt, 100⟩) (ev_gint T.g_WEIGHT) ea_nil)))))) (fun q1 => (ew_or1 (et_not (et_val (ev_call h_is_name hr (by first | decide | omega) t.leaf hl1.2 (ea_cons (ev_tel3 hk (ev_v 0)) ea_nil)))))))) (fun c_5 => ?_) (fun c_5 => ?_)
  · exact absurd c_5 (by rw [hn, hl1.1]; simp)
  refine bk_then ?_
  refine bk_ret (x := (t.last.isNone || isNum (t.last.getD 0) 1 1000)) (ev_or (ev_isN nn_int (ev_tel4 hk (ev_v 0)) ev_unit) (fun q1 => ev_one (ev_call h_is_number hr (by first | decide | omega) (t.last.getD 0, 1, 1000) trivial (ea_cons (t := ⟨rInt, t.last.getD 0⟩) (ev_unopt q1 (ev_tel4 hk (ev_v 0))) (ea_cons (t := ⟨rInt, 1⟩) ev_int (ea_cons (t := ⟨rInt, 1000⟩) (ev_gint T.g_STEPS) ea_nil)))))) (hret.eq ?_)
  cases e : t.last with
  | none => rfl
  | some i => exact (hl2 i e).symm
abbrev s_Course_init : Stmt := inClass (top 36) 0
theorem sc_Course_init : FnScope ["self", "plan", "#d"] ["self", "plan"] (defScope s_Course_init) := ⟨rfl, rfl, rfl, by decide +kernel, rfl, by decide +kernel, by decide +kernel⟩
theorem nv_Course_init : ¬ Vis (defScope s_Course_init) "#d" := by
  intro h
  rcases h with h | h | h <;> exact absurd h (by decide +kernel)
theorem ok_Course_init {f : Addr} {fd : FuncData} (F : FunD K "__init__" "Course.__init__" (defArgs s_Course_init) (defBody s_Course_init) (defScope s_Course_init) [] [] f fd) (T : Facts K mg) : FnOk P w K mg base (CXL P w) 1 f fd ["self", "plan"] (ISp K) := by
  refine fn_initC F sc_Course_init rfl fun plan cdv A outer s H E0 G D a hr hnx => ?_
  refine bk_fld 0 T.cr.cls T.cr.plan rfl (ev_v (r := rWk K (cW K)) (x := plan) 1) (by decide) (by decide) ?_
  refine bk_fldG 0 2 (gn := "#d") (sa := a) T.cr.cls T.cr.did (fun _ h => h) (fun u t h n => by match u, h with | 0, _ => exact absurd rfl n | 1, h => cases h; rfl | 2, h => cases h; rfl) rfl rfl nv_Course_init (by show 2 < 3; decide) (by decide) (eo_dnew (r := rInt)) (by decide +kernel) (by decide) fun E1 d hm l ne hn => ?_
  refine bk_fld 0 T.cr.cls T.cr.shown rfl (Ev.q (q := 0) (ev_gref' T.g_NOUGHT) rfl) (by decide +kernel) (by decide) ?_
  exact bk_end fun G' H' σ h => hnx _ G' H' d (LeE.re l h.le fun b z => by
    rcases hm b z with rfl | rfl
    · exact .inl rfl
    · exact .inr hn) ne hn (StillI.ows h (is := [0, 2]) ⟨rfl, rfl, trivial⟩)
abbrev s_Course_far : Stmt := inClass (top 36) 1
theorem sc_Course_far : FnScope ["self"] ["self"] (defScope s_Course_far) := ⟨rfl, rfl, rfl, by decide +kernel, rfl, by decide +kernel, by decide +kernel⟩
abbrev sp_Course_far (K : PySem.W.Frag) : Sp := PSp (fun y : Cs => CsOk y.plan y.did) (fun y => [⟨rCs K, y⟩]) (rQ K) (fun y => y.plan.far y.did)
theorem ok_Course_far {f : Addr} {fd : FuncData} (F : FunD K "far" "Course.far" (defArgs s_Course_far) (defBody s_Course_far) (defScope s_Course_far) [] [] f fd) (T : Facts K mg) (h_m_far : HasV P w K mg base (cW K) "far" 11 (fun y : Pl × (List (Str × Int)) => y.1) (fun y : Pl × (List (Str × Int)) => (FarOk y.1 y.2) ∧ y.1.depth < 7) (fun y : Pl × (List (Str × Int)) => [⟨(rDic rInt), y.2⟩]) (rQ K) (fun y => y.1.far y.2)) : FnOk P w K mg base (CXL P w) 12 f fd ["self"] (sp_Course_far K) := by
  refine fn_pure F sc_Course_far (fun _ => rfl) fun c hp cdv A outer s H E0 G D hr hret hnx => ?_
  try dsimp only at hp hret hnx
  have hd := hp.plan.deep
  exact bk_ret (x := c.plan.far c.did) (ev_vm h_m_far hr (by first | decide | omega) (c.plan, c.did) (by (try dsimp only); exact ⟨hp.far, by omega⟩) (ev_csP T.cr (ev_v 0)) (ea_cons (ev_csD T.cr (ev_v 0)) ea_nil)) hret
abbrev s_Course_find : Stmt := inClass (top 36) 4
theorem sc_Course_find : FnScope ["self", "telling", "#d"] ["self", "telling"] (defScope s_Course_find) := ⟨rfl, rfl, rfl, by decide +kernel, rfl, by decide +kernel, by decide +kernel⟩
theorem nv_Course_find : ¬ Vis (defScope s_Course_find) "#d" := by
  intro h
  rcases h with h | h | h <;> exact absurd h (by decide +kernel)
abbrev sp_Course_find (K : PySem.W.Frag) : Sp := CSp K (fun y : Cs × Tel => y.2.isFound = true ∧ TelOk y.2 ∧ PlanOk y.1.plan ∧ PlanOk (Pl.withLeaf y.2.name y.2.num (.leaf y.2.leaf y.2.last) y.1.plan)) (fun y => y.1) (fun y => [⟨rTel K, y.2⟩]) rBool (fun _ => true) (fun y => ⟨Pl.withLeaf y.2.name y.2.num (.leaf y.2.leaf y.2.last) y.1.plan, y.1.did, y.1.shown⟩)
theorem ok_Course_find {f : Addr} {fd : FuncData} (F : FunD K "find" "Course.find" (defArgs s_Course_find) (defBody s_Course_find) (defScope s_Course_find) [] [] f fd) (T : Facts K mg) (h_Leaf : HasI P w K mg base "Leaf" (cW K).L 3 (sp_Leaf_init K)) (h_m_with_leaf : HasV P w K mg base (cW K) "with_leaf" 19 (fun y : Pl × Str × Int × Pl => y.1) (fun y : Pl × Str × Int × Pl => (PlanOk (Pl.withLeaf y.2.1 y.2.2.1 y.2.2.2 y.1)) ∧ y.1.depth < 7) (fun y : Pl × Str × Int × Pl => [⟨rStr, y.2.1⟩, ⟨rInt, y.2.2.1⟩, ⟨(rWk K (cW K)), y.2.2.2⟩]) (rWk K (cW K)) (fun y => Pl.withLeaf y.2.1 y.2.2.1 y.2.2.2 y.1)) : FnOk P w K mg base (CXL P w) 20 f fd ["self", "telling"] (sp_Course_find K) := by
  refine fn_ghost F sc_Course_find (gn := "#d") rfl nv_Course_find (fun _ _ => rfl) (fun _ _ => rfl) fun d y hp cdv A outer s H E0 G D p hr hret hnx => ?_
  obtain ⟨c, t⟩ := y
  try dsimp only at hp hret hnx
  obtain ⟨ht, to, hpl, hok⟩ := hp
  have ha : t.isAgain = false := by cases t <;> first | rfl | (simp [Tel.isFound] at ht)
  have hd := hpl.deep
  refine bk_tryE ?_
  refine bk_crP T.cr 0 rfl (ev_vm h_m_with_leaf hr (by first | decide | omega) (c.plan, t.name, t.num, Pl.leaf t.leaf t.last) (by (try dsimp only); exact ⟨hok, by omega⟩) (ev_crP T.cr 0 rfl)
    (ea_cons (t := ⟨rStr, t.name⟩) (ev_tel1 (ev_v 1)) (ea_cons (t := ⟨rInt, t.num⟩) (ev_tel2 ha (ev_v 1)) (ea_cons (t := ⟨rWk K (cW K), Pl.leaf t.leaf t.last⟩) (ev_make (ss := []) h_Leaf hr (by first | decide | omega) (t.leaf, t.last) (to.leaf ht) (ep_ty (t := ⟨rStr, t.leaf⟩) (ev_tel3 ht (ev_v 1)) (ep_ty (t := ⟨rOpt rInt, t.last⟩) (ev_tel4 ht (ev_v 1)) ep_nil)) (frz_wk (w := Pl.leaf t.leaf t.last))) ea_nil)))) ?_
  refine bk_end fun G1 H1 σ1 h1 => ?_
  refine (show Bk _ _ _ _ _ from ?_) G1 H1 σ1 h1
  exact bk_retP (is := [0, 2]) (em_of (ev_bool (i := true))) hret ⟨rfl, rfl, trivial⟩
abbrev s_Course_can : Stmt := inClass (top 36) 3
theorem sc_Course_can : FnScope ["self", "telling", "#d", "work", "count", "leaf"] ["self", "telling"] (defScope s_Course_can) := ⟨rfl, rfl, rfl, by decide +kernel, rfl, by decide +kernel, by decide +kernel⟩
theorem nv_Course_can : ¬ Vis (defScope s_Course_can) "#d" := by
  intro h
  rcases h with h | h | h <;> exact absurd h (by decide +kernel)
abbrev sp_Course_can (K : PySem.W.Frag) : Sp := CSp K (fun y : Cs × Tel => CsOk y.1.plan y.1.did ∧ TelOk y.2 ∧ Can y.1.plan y.1.did y.2 ∧ y.1.did.length ≤ 50000) (fun y => y.1) (fun y => [⟨rTel K, y.2⟩]) rBool (fun _ => true) (fun y => ⟨(after y.1.plan y.1.did y.2).1, (after y.1.plan y.1.did y.2).2, y.1.shown⟩)
theorem ok_Course_can {f : Addr} {fd : FuncData} (F : FunD K "can_take" "Course.can_take" (defArgs s_Course_can) (defBody s_Course_can) (defScope s_Course_can) [] [] f fd) (T : Facts K mg) (h_m_work_of : HasV P w K mg base (cW K) "work_of" 8 (fun y : Pl × Str => y.1) (fun y : Pl × Str => y.1.depth < 7) (fun y : Pl × Str => [⟨rStr, y.2⟩]) (rOpt (rWk K (cW K))) (fun y => y.1.find y.2)) (h_m_leaves : HasVO P w K mg base (cW K) "leaves" 8 (fun y : Pl => y) (fun y : Pl => (y.names.length ≤ 1000) ∧ y.depth < 7) (fun y : Pl => []) (fun y => oLst (rWk K (cW K)) (y.leaves))) (h_m_with_steps : HasV P w K mg base (cW K) "with_steps" 19 (fun y : Pl × Str × Int => y.1) (fun y : Pl × Str × Int => (PlanOk (Pl.withSteps y.2.1 y.2.2 y.1)) ∧ y.1.depth < 7) (fun y : Pl × Str × Int => [⟨rStr, y.2.1⟩, ⟨rInt, y.2.2⟩]) (rWk K (cW K)) (fun y => Pl.withSteps y.2.1 y.2.2 y.1)) (h_find : HasM P w K mg base (cCr K) "find" 20 (sp_Course_find K)) : FnOk P w K mg base (CXL P w) 21 f fd ["self", "telling"] (sp_Course_can K) := by
  refine fn_ghost F sc_Course_can (gn := "#d") rfl nv_Course_can (fun _ _ => rfl) (fun _ _ => rfl) fun d y hp cdv A outer s H E0 G D p hr hret hnx => ?_
  obtain ⟨c, t⟩ := y
  try dsimp only at hp hret hnx
  obtain ⟨co, to, hc, hlen⟩ := hp
  show Bk _ _ [.ow (oCr K d c.plan c.shown) (some p), .sh (rTel K) t, .ow (oDic rInt c.did) (some d), .no, .no, .no] _ _
  have hd := co.plan.deep
  obtain ⟨w0, hf⟩ := hc.find
  obtain ⟨hw1, hw2⟩ := find_mem c.plan hf
  have hwn := all_small hw1
  have hwc := co.plan.count
  have hwd := all_depth hw1
  refine bk_set 3 sc_Course_can.nd (ev_vm h_m_work_of hr (by first | decide | omega) (c.plan, t.name) (by (try dsimp only); omega) (ev_crP T.cr 0 rfl) (ea_cons (t := ⟨rStr, t.name⟩) (ev_tel1 (ev_v 1)) ea_nil) hf) ?_
  refine bk_if (p := false) (et_isN nn_wk (ev_v (x := some w0) 3) ev_unit) (fun c_1 => absurd c_1 (by simp)) (fun _ => ?_)
  refine bk_then ?_
  refine bk_if (p := decide (t.kind = ("again" : Str))) (et_eqS (ev_tel0 (ev_v 1)) ev_str) (fun c_2 => ?_) (fun c_2 => ?_)
  · obtain ⟨n, rfl⟩ := again_is (again_of c_2)
    have haf : after c.plan c.did (.again n) = (c.plan, zeroed c.did w0.leaves) := by simp only [after]; rw [show c.plan.find n = some w0 from hf]
    rw [haf] at hret hnx
    refine bk_for (fun ds : List (Str × Int) => [.ow (oCr K d c.plan c.shown) (some p), .sh (rTel K) (.again n), .ow (oDic rInt ds) (some d), .sh (rOpt (rWk K (cW K))) (some w0), .no, .no]) (fun i ds => ds = (w0.leaves.take i).foldl (fun (d : List (Str × Int)) (l : Pl) => dPut d l.name 0) c.did) c.did (passes_of rfl)
      (ei_lst (EvO.ev (eo_vm0 h_m_leaves hr (by first | decide | omega) w0 (by (try dsimp only); exact ⟨by omega, by omega⟩) (ev_unopt (o := some w0) (d := w0) rfl (ev_v 3)) rfl rfl))) (tg_name 5 sc_Course_can.nd) rfl (fun _ _ _ h => h) (fun Fq iq ds l m e => ?_) (fun ds e => ?_)
    · have hb : ds.length ≤ 50000 + 1000 := by
        have z := zeroed_len (w0.leaves.take iq) c.did
        have z2 := leaves_len w0
        have z3 : (w0.leaves.take iq).length ≤ w0.leaves.length := by rw [List.length_take]; omega
        rw [e]
        show (zeroed c.did (w0.leaves.take iq)).length ≤ _
        omega
      refine bk_dputC hr 2 rfl (ev_crD T.cr 0 rfl) ev_int (ev_called T.ok (ev_v 5)) (Evl.sz_lt (by omega)) ?_
      exact bk_end fun G H σ h => ⟨_, foldl_next m e rfl, G, Holds.forget 5 h⟩
    · rw [List.take_length] at e
      subst e
      exact bk_retP (is := [0, 2]) (em_of (ev_bool (i := true))) hret ⟨rfl, rfl, trivial⟩
  refine bk_then ?_
  refine bk_if (p := decide (t.kind = ("found" : Str))) (et_eqS (ev_tel0 (ev_v 1)) ev_str) (fun c_3 => ?_) (fun c_3 => ?_)
  · have ht := found_of c_3
    obtain ⟨hl, hok, haf⟩ := hc.found ht hf
    rw [haf] at hret hnx
    exact bk_retP (is := [0, 2]) (x := true) (post := [oCr K d (Pl.withLeaf t.name t.num (Pl.leaf t.leaf t.last) c.plan) c.shown, oDic rInt c.did]) (Γ' := [.ow (oCr K d (Pl.withLeaf t.name t.num (Pl.leaf t.leaf t.last) c.plan) c.shown) (some p), .sh (rTel K) t, .ow (oDic rInt c.did) (some d), .sh (rOpt (rWk K (cW K))) (some w0), .no, .no]) (em_and2 (ev_isiC (b := true) (ev_unopt (o := some w0) (d := w0) rfl (ev_v 3)) (kind_wk T.ok T.ty) (by have z := T.lot w0; rw [hl] at z; exact z) T.f_isinstance T.c_Lot) (em_cm h_find hr (by first | decide | omega) (c, t) (by (try dsimp only); exact ⟨ht, to, co.plan, hok⟩) 0 2 (by decide) rfl rfl (ea_cons (t := ⟨rTel K, t⟩) (ev_v 1) ea_nil))) hret ⟨rfl, rfl, trivial⟩
  refine bk_then ?_
  have hfo := found_of c_3
  have hag := again_of c_2
  obtain ⟨hl, hkn⟩ := hc.leafy hag hfo hf
  refine bk_if (p := false) (et_not (et_val (ev_isiC (b := true) (ev_unopt (o := some w0) (d := w0) rfl (ev_v 3)) (kind_wk T.ok T.ty) (by have z := T.ty.leaf w0; rw [hl] at z; exact z) T.f_isinstance T.c_Leaf))) (fun c_4 => absurd c_4 (by simp)) (fun _ => ?_)
  refine bk_then ?_
  refine bk_set 4 sc_Course_can.nd (ev_dgetD (k := w0.name) (x := (0 : Int)) hr (Ev.atB (ev_crD T.cr 0 rfl) (n := 2) rfl) (ev_called T.ok (ev_unopt (o := some w0) (d := w0) rfl (ev_v 3))) ev_int) ?_
  rw [show (dGet c.did w0.name).getD 0 = dg c.did t.name by rw [hw2]; rfl]
  refine bk_if (p := decide (t.kind = ("knows" : Str))) (et_eqS (ev_tel0 (ev_v 1)) ev_str) (fun c_5 => ?_) (fun c_5 => ?_)
  · have ht := knows_of c_5
    obtain ⟨hs, hk, haf⟩ := hkn.1 ht
    rw [haf] at hret hnx
    refine bk_if (p := (!w0.steps.isNone || decide (t.num < dg c.did t.name))) (et_bool (ew_or (et_notN nn_int (ev_many T.ok (ev_unopt (o := some w0) (d := w0) rfl (ev_v 3))) ev_unit) (fun q1 => ew_or1 (et_lt (ev_tel2 hag (ev_v 1)) (ev_v 4))))) (fun c_6 => absurd c_6 (by rw [hs]; simp; omega)) (fun _ => ?_)
    refine bk_then ?_
    refine bk_crP T.cr 0 rfl (ev_vm h_m_with_steps hr (by first | decide | omega) (c.plan, w0.name, t.num) (by (try dsimp only); rw [hw2]; exact ⟨ws_ok co.plan (to.steps hag hfo), by omega⟩) (ev_crP T.cr 0 rfl) (ea_cons (t := ⟨rStr, w0.name⟩) (ev_called T.ok (ev_unopt (o := some w0) (d := w0) rfl (ev_v 3))) (ea_cons (t := ⟨rInt, t.num⟩) (ev_tel2 hag (ev_v 1)) ea_nil))) ?_
    exact bk_retP (is := [0, 2]) (post := [oCr K d (Pl.withSteps w0.name t.num c.plan) c.shown, oDic rInt c.did]) (em_of (ev_bool (i := true))) (hret.eqP rfl (by rw [hw2])) ⟨rfl, rfl, trivial⟩
  refine bk_then ?_
  obtain ⟨hs, haf⟩ := hkn.2 (knows_of c_5)
  rw [haf] at hret hnx
  refine bk_dputC hr 2 rfl (ev_crD T.cr 0 rfl) (ev_add (ev_v 4) (ev_tel2 hag (ev_v 1))) (ev_called T.ok (ev_unopt (o := some w0) (d := w0) rfl (ev_v 3))) (Evl.sz_lt (by omega)) ?_
  exact bk_retP (is := [0, 2]) (post := [oCr K d c.plan c.shown, oDic rInt (dPut c.did w0.name (dg c.did t.name + t.num))]) (x := (w0.steps.isNone || decide (dg c.did t.name + t.num ≤ w0.steps.getD 0))) (em_of (ev_or (ev_isN nn_int (ev_many T.ok (ev_unopt (o := some w0) (d := w0) rfl (ev_v 3))) ev_unit) (fun q1 => ev_one (ev_le (ev_add (ev_v 4) (ev_tel2 hag (ev_v 1))) (ev_unopt q1 (ev_many T.ok (ev_unopt (o := some w0) (d := w0) rfl (ev_v 3)))))))) (hret.eqP (by
    cases e : w0.steps with
    | none => rfl
    | some m => have := hs m e; simpa using this) (by rw [hw2])) ⟨rfl, rfl, trivial⟩
abbrev s_Course_take : Stmt := inClass (top 36) 2
theorem sc_Course_take : FnScope ["self", "telling", "#d", "last", "now", "lacking"] ["self", "telling"] (defScope s_Course_take) := ⟨rfl, rfl, rfl, by decide +kernel, rfl, by decide +kernel, by decide +kernel⟩
theorem nv_Course_take : ¬ Vis (defScope s_Course_take) "#d" := by
  intro h
  rcases h with h | h | h <;> exact absurd h (by decide +kernel)
abbrev sp_Course_take (K : PySem.W.Frag) : Sp := CSp K (fun y : Cs × Tel => CsOk y.1.plan y.1.did ∧ TelOk y.2 ∧ Can y.1.plan y.1.did y.2 ∧ y.1.did.length ≤ 50000 ∧ ShOk 8500 y.1.shown) (fun y => y.1) (fun y => [⟨rTel K, y.2⟩]) rBool (fun _ => true) (fun y => stepC y.1 y.2)
theorem ok_Course_take {f : Addr} {fd : FuncData} (F : FunD K "take" "Course.take" (defArgs s_Course_take) (defBody s_Course_take) (defScope s_Course_take) [] [] f fd) (T : Facts K mg) (h_cr_far : HasM P w K mg base (cCr K) "far" 12 (sp_Course_far K)) (h_can : HasM P w K mg base (cCr K) "can_take" 21 (sp_Course_can K)) (h_is_telling : Has P w K mg base "is_telling" 2 (sp_is_telling K)) (h_less : Has P w K mg base "less" 3 (sp_less K)) (h_of_it : Has P w K mg base "of_it" 3 (sp_of_it K)) (h_parted : Has P w K mg base "parted" 3 (sp_parted K)) (h_is_more : Has P w K mg base "is_more" 1 (sp_is_more K)) : FnOk P w K mg base (CXL P w) 22 f fd ["self", "telling"] (sp_Course_take K) := by
  refine fn_ghost F sc_Course_take (gn := "#d") rfl nv_Course_take (fun _ _ => rfl) (fun _ _ => rfl) fun d y hp cdv A outer s H E0 G D p hr hret hnx => ?_
  obtain ⟨c, t⟩ := y
  try dsimp only at hp hret hnx
  obtain ⟨co, to, hc, hlen, hsh⟩ := hp
  show Bk _ _ [.ow (oCr K d c.plan c.shown) (some p), .sh (rTel K) t, .ow (oDic rInt c.did) (some d), .no, .no, .no] _ _
  have co2 : CsOk (after c.plan c.did t).1 (after c.plan c.did t).2 := Took.ok co to hc
  have hl := co.sh
  have hn := co2.sh
  refine bk_set 3 sc_Course_take.nd (ev_lookC 0 2 rfl rfl (by decide) thin_q (ev_cm h_cr_far hr (by first | decide | omega) ⟨c.plan, c.did, c.shown⟩ co (ev_v 0) rfl)) ?_
  refine bk_ifM (b := false) (Γ' := [.ow (oCr K d (after c.plan c.did t).1 c.shown) (some p), .sh (rTel K) t, .ow (oDic rInt (after c.plan c.did t).2) (some d), .sh (rQ K) (c.plan.far c.did), .no, .no]) (etm_or2 (EvT.eq (et_not (et_val (ev_call h_is_telling hr (by first | decide | omega) t to (ea_cons (t := ⟨rTel K, t⟩) (ev_v 1) ea_nil)))) rfl) (etm_notT (etm_val (em_cm h_can hr (by first | decide | omega) (c, t) (by (try dsimp only); exact ⟨co, to, hc, hlen⟩) 0 2 (by decide) rfl rfl (ea_cons (t := ⟨rTel K, t⟩) (ev_v 1) ea_nil))))) (fun q => absurd q (by simp)) (fun _ => ?_)
  refine bk_then ?_
  refine bk_set 4 sc_Course_take.nd (ev_lookC 0 2 rfl rfl (by decide) thin_q (ev_cm h_cr_far hr (by first | decide | omega) ⟨(after c.plan c.did t).1, (after c.plan c.did t).2, c.shown⟩ co2 (ev_v 0) rfl)) ?_
  refine bk_if (p := decide (c.plan.far c.did < (after c.plan c.did t).1.far (after c.plan c.did t).2)) (et_val (ev_call h_is_more hr (by first | decide | omega) ((after c.plan c.did t).1.far (after c.plan c.did t).2, c.plan.far c.did) ⟨200, 200, by decide, hn.lim, hl.lim⟩ (ea_cons (ev_v 4) (ea_cons (ev_v 3) ea_nil)))) (fun q => ?_) (fun q => ?_)
  · have hlt := of_decide_eq_true q
    obtain ⟨r1, r2, r3⟩ := ratio_ok hlt hl.nn hn.le
    have la := lim_one hl.lim hl.nn hl.le
    have lb := lim_one hn.lim hn.nn hn.le
    have lr := lim_div lb la r1
    have ls := lim_one hsh.lim hsh.nn hsh.le
    have lp := lim_mul ls lr
    refine bk_set 5 sc_Course_take.nd (ev_call h_of_it hr (by first | decide | omega) (1 - c.shown, (1 - (after c.plan c.did t).1.far (after c.plan c.did t).2) / (1 - c.plan.far c.did)) ⟨8500, 400, by decide, ls, lr⟩ (ea_cons (ev_call h_less hr (by first | decide | omega) (1, c.shown) ⟨1, 8500, by decide, lim1, hsh.lim⟩ (ea_cons (t := ⟨rQ K, 1⟩) (Ev.q (q := 1) (ev_gref' T.g_WHOLE) rfl) (ea_cons (t := ⟨rQ K, c.shown⟩) (ev_crS T.cr 0 rfl) ea_nil)))
      (ea_cons (ev_call h_parted hr (by first | decide | omega) (1 - (after c.plan c.did t).1.far (after c.plan c.did t).2, 1 - c.plan.far c.did) ⟨⟨200, 200, by decide, lb, la⟩, r1⟩ (ea_cons (ev_call h_less hr (by first | decide | omega) (1, (after c.plan c.did t).1.far (after c.plan c.did t).2) ⟨1, 200, by decide, lim1, hn.lim⟩ (ea_cons (t := ⟨rQ K, 1⟩) (Ev.q (q := 1) (ev_gref' T.g_WHOLE) rfl) (ea_cons (ev_v 4) ea_nil))) (ea_cons (ev_call h_less hr (by first | decide | omega) (1, c.plan.far c.did) ⟨1, 200, by decide, lim1, hl.lim⟩ (ea_cons (t := ⟨rQ K, 1⟩) (Ev.q (q := 1) (ev_gref' T.g_WHOLE) rfl) (ea_cons (ev_v 3) ea_nil))) ea_nil))) ea_nil))) ?_
    refine bk_crS T.cr 0 rfl (ev_call h_less hr (by first | decide | omega) (1, (1 - c.shown) * ((1 - (after c.plan c.did t).1.far (after c.plan c.did t).2) / (1 - c.plan.far c.did))) ⟨1, 8900, by decide, lim1, lp⟩ (ea_cons (t := ⟨rQ K, 1⟩) (Ev.q (q := 1) (ev_gref' T.g_WHOLE) rfl) (ea_cons (ev_v 5) ea_nil))) ?_
    refine bk_then ?_
    have hs : (stepC c t).shown = 1 - (1 - c.shown) * ((1 - (after c.plan c.did t).1.far (after c.plan c.did t).2) / (1 - c.plan.far c.did)) := if_pos hlt
    exact bk_retP (is := [0, 2]) (post := [oCr K d (after c.plan c.did t).1 (1 - (1 - c.shown) * ((1 - (after c.plan c.did t).1.far (after c.plan c.did t).2) / (1 - c.plan.far c.did))), oDic rInt (after c.plan c.did t).2]) (em_of (ev_bool (i := true))) (hret.eqP rfl (by rw [← hs]; rfl)) ⟨rfl, rfl, trivial⟩
  refine bk_then ?_
  have hs : (stepC c t).shown = c.shown := if_neg (of_decide_eq_false q)
  exact bk_retP (is := [0, 2]) (post := [oCr K d (after c.plan c.did t).1 c.shown, oDic rInt (after c.plan c.did t).2]) (em_of (ev_bool (i := true))) (hret.eqP rfl (by rw [← hs]; rfl)) ⟨rfl, rfl, trivial⟩
abbrev s_course_of : Stmt := top 37
theorem sc_course_of : FnScope ["plan", "run", "course", "#d", "shown", "falls", "place", "telling", "last"] ["plan", "run"] (defScope s_course_of) := ⟨rfl, rfl, rfl, by decide +kernel, rfl, by decide +kernel, by decide +kernel⟩
theorem nv_course_of : ¬ Vis (defScope s_course_of) "#d" := by
  intro h
  rcases h with h | h | h <;> exact absurd h (by decide +kernel)
abbrev sp_course_of (K : PySem.W.Frag) : Sp := PSpG (fun y : Pl × List Tel => RunOk y.1 y.2) (fun y => [⟨rWk K (cW K), y.1⟩, ⟨rLst (rTel K), y.2⟩]) (fun G => rT3 K (rCs K) (rNw G (rQ K)) (rNw G rInt)) (fun y => (runC y.1 y.2, shownL y.1 y.2, fallsL y.1 y.2))
theorem ok_course_of {f : Addr} {fd : FuncData} (F : FunD K "course_of" "course_of" (defArgs s_course_of) (defBody s_course_of) (defScope s_course_of) [] [] f fd) (T : Facts K mg) (h_Course : HasI P w K mg base "Course" (cCr K) 1 (ISp K)) (h_cr_far : HasM P w K mg base (cCr K) "far" 12 (sp_Course_far K)) (h_take : HasM P w K mg base (cCr K) "take" 22 (sp_Course_take K)) (h_is_more : Has P w K mg base "is_more" 1 (sp_is_more K)) : FnOk P w K mg base (CXL P w) 23 f fd ["plan", "run"] (sp_course_of K) := by
  refine fn_pureG F sc_course_of (fun _ => rfl) fun y hp cdv A outer s H E0 G D hr hret hnx => ?_
  obtain ⟨plan, ts⟩ := y
  try dsimp only at hp hret hnx
  have hlen := hp.len
  refine bk_if (p := false) (et_not (et_val (ev_isi (T := "list") (C := "list") (b := true) (ev_v 1) kind_lst (by decide +kernel) T.f_isinstance T.f_list (by decide +kernel)))) (fun c_1 => absurd c_1 (by simp)) (fun _ => ?_)
  refine bk_then ?_
  refine bk_course 2 3 (gn := "#d") h_Course hr (by first | decide | omega) sc_course_of.nd (fun u t h => by match u, h with | 0, h => cases h; rfl | 1, h => cases h; rfl | 2, h => cases h; rfl | 3, h => cases h; rfl | 4, h => cases h; rfl | 5, h => cases h; rfl | 6, h => cases h; rfl | 7, h => cases h; rfl | 8, h => cases h; rfl) (fun _ h => h) rfl nv_course_of (by show 3 < 9; decide) (by show 2 < 9; decide) (by decide) (ea_cons (ev_v 0) ea_nil) fun E1 a d hm l0 na nd => ?_
  refine bk_setO 4 sc_course_of.nd (eo_list (r := rQ K) (as := [0]) (ts := [⟨rQ K, 0⟩]) (ea_cons (t := ⟨rQ K, 0⟩) (ev_crS T.cr 2 rfl) ea_nil) (by simp) one_all) ?_
  refine bk_setO 5 sc_course_of.nd (eo_nil (r := rInt)) ?_
  refine bk_for (fun s : Cs × List Rat × List Int => [.sh (rWk K (cW K)) plan, .sh (rLst (rTel K)) ts, .ow (oCr K d s.1.plan s.1.shown) (some a), .ow (oDic rInt s.1.did) (some d), .ow (oLst (rQ K) s.2.1), .ow (oLst rInt s.2.2), .no, .no, .no])
    (fun i s => s = (runC plan (ts.take i), shownL plan (ts.take i), fallsL plan (ts.take i))) (runC plan [], [0], []) (passes_of rfl) (ei_enum (ev_v 1) T.f_enumerate) (tg_tup2 (tg_name 6 sc_course_of.nd) (tg_name 7 sc_course_of.nd)) rfl (fun _ _ _ h => h) (fun Fq i s q m e => ?_) (fun s e => ?_)
  · obtain ⟨t, ht, rfl⟩ := enum_at m
    subst e
    have hi : i + 1 ≤ ts.length := (List.getElem?_eq_some_iff.mp ht).1
    obtain ⟨to, hc⟩ := hp.can i t ht
    obtain ⟨co, hdl⟩ := cs_ok hp.plan hp.can i (by omega)
    have co2 := (cs_ok hp.plan hp.can (i + 1) hi).1
    have hs := hp.sh i (by omega)
    have hnx2 := runC_next (p := plan) ht
    rw [hnx2] at co2
    have hsl : (shownL plan (ts.take i)).length ≤ 2000 := by simp [shownL]; omega
    have hfl : (fallsL plan (ts.take i)).length ≤ 2000 := by
      have := falls_len plan (ts.take i)
      rw [List.length_take] at this
      omega
    refine bk_set 8 sc_course_of.nd (ev_lookC 2 3 rfl rfl (by decide) thin_q (ev_cm h_cr_far hr (by first | decide | omega) (runC plan (ts.take i)) co (ev_v 2) rfl)) ?_
    refine bk_ifM (b := false) (Γ' := [.sh (rWk K (cW K)) plan, .sh (rLst (rTel K)) ts, .ow (oCr K d (stepC (runC plan (ts.take i)) t).plan (stepC (runC plan (ts.take i)) t).shown) (some a), .ow (oDic rInt (stepC (runC plan (ts.take i)) t).did) (some d), .ow (oLst (rQ K) (shownL plan (ts.take i))), .ow (oLst rInt (fallsL plan (ts.take i))), .sh rInt ((i : Int)), .sh (rTel K) t, .sh (rQ K) (farAt plan ts i)])
      (etm_notT (etm_val (em_cm h_take hr (by first | decide | omega) (runC plan (ts.take i), t) (by (try dsimp only); exact ⟨co, to, hc, by omega, hs⟩) 2 3 (by decide) rfl rfl (ea_cons (t := ⟨rTel K, t⟩) (ev_v 7) ea_nil)))) (fun q => absurd q (by simp)) (fun _ => ?_)
    refine bk_then ?_
    refine bk_append 4 rfl (ev_crS T.cr 2 rfl) (Evl.sz_lt (by omega)) ?_
    refine bk_if (p := decide (farAt plan ts (i + 1) < farAt plan ts i)) (et_val (ev_call h_is_more hr (by first | decide | omega) (farAt plan ts i, farAt plan ts (i + 1)) ⟨200, 200, by decide, co.sh.lim, by unfold farAt; rw [hnx2]; exact co2.sh.lim⟩ (ea_cons (ev_v 8) (ea_cons (t := ⟨rQ K, farAt plan ts (i + 1)⟩) (Ev.eq (ev_lookC 2 3 rfl rfl (by decide) thin_q (ev_cm h_cr_far hr (by first | decide | omega) (stepC (runC plan (ts.take i)) t) co2 (ev_v 2) rfl)) (by unfold farAt; rw [hnx2])) ea_nil)))) (fun q => ?_) (fun q => ?_)
    · refine bk_append 5 rfl (ev_v 6) (Evl.sz_lt (by omega)) ?_
      refine bk_then ?_
      refine bk_end fun G H σ h => ⟨(stepC (runC plan (ts.take i)) t, shownL plan (ts.take i) ++ [(stepC (runC plan (ts.take i)) t).shown], fallsL plan (ts.take i) ++ [(i : Int)]), ?_, G, Holds.forget 8 (Holds.forget 7 (Holds.forget 6 h))⟩
      rw [hnx2, shown_snoc ht, falls_snoc ht, if_pos (of_decide_eq_true q)]
    · refine bk_then ?_
      refine bk_end fun G H σ h => ⟨(stepC (runC plan (ts.take i)) t, shownL plan (ts.take i) ++ [(stepC (runC plan (ts.take i)) t).shown], fallsL plan (ts.take i)), ?_, G, Holds.forget 8 (Holds.forget 7 (Holds.forget 6 h))⟩
      rw [hnx2, shown_snoc ht, falls_snoc ht, if_neg (of_decide_eq_false q), List.append_nil]
  · rw [enumL_length, List.take_length] at e
    subst e
    refine bk_freezeN 4 rfl ?_
    refine bk_freezeN 5 rfl ?_
    exact bk_retC 2 3 rfl rfl (by decide) l0 na nd hm (ev_tup3 (ea_cons (t := ⟨rCs K, runC plan ts⟩) (ev_v 2) (ea_cons (t := ⟨rNw E1.G (rQ K), shownL plan ts⟩) (ev_v 4) (ea_cons (t := ⟨rNw E1.G rInt, fallsL plan ts⟩) (ev_v 5) ea_nil)))) (hret.imp fun G3 v3 h3 => t3_imp (fun _ z => z) (fun _ z => nw_mono l0.g z) (fun _ z => nw_mono l0.g z) h3)
end
end Hf


namespace Hf
open PySem PySem.Spec PyProof.Rows L2 ClX
section
variable {P : Program} {w : World} {K : PySem.W.Frag} {mg : Str → Option Value} {base : Heap}
abbrev s_told : Stmt := top 41
theorem sc_told : FnScope ["plan", "run"] ["plan", "run"] (defScope s_told) := ⟨rfl, rfl, rfl, by decide +kernel, rfl, by decide +kernel, by decide +kernel⟩
abbrev sp_told (K : PySem.W.Frag) : Sp := OSp (fun y : Pl × List Tel => RunOk y.1 y.2) (fun y => [⟨rWk K (cW K), y.1⟩, ⟨rLst (rTel K), y.2⟩]) (fun y => oLst (rQ K) (shownL y.1 y.2))
theorem ok_told {f : Addr} {fd : FuncData} (F : FunD K "told" "told" (defArgs s_told) (defBody s_told) (defScope s_told) [] [] f fd) (T : Facts K mg) (h_course_of : Has P w K mg base "course_of" 23 (sp_course_of K)) : FnOk P w K mg base (CXL P w) 24 f fd ["plan", "run"] (sp_told K) := by
  refine fn_own F sc_told (fun _ => rfl) fun y hp cdv A outer s H E0 G D hr hret => ?_
  obtain ⟨p, ts⟩ := y
  try dsimp only at hp hret
  exact bk_retO (EvNw.own (en_callB (tt := fun G => rNw G rInt) h_course_of hr (by first | decide | omega) (p, ts) hp (ea_cons (ev_v 0) (ea_cons (ev_v 1) ea_nil)) rfl) (fun _ _ => thin_q)) hret
abbrev s_falls : Stmt := top 42
theorem sc_falls : FnScope ["plan", "run"] ["plan", "run"] (defScope s_falls) := ⟨rfl, rfl, rfl, by decide +kernel, rfl, by decide +kernel, by decide +kernel⟩
abbrev sp_falls (K : PySem.W.Frag) : Sp := OSp (fun y : Pl × List Tel => RunOk y.1 y.2) (fun y => [⟨rWk K (cW K), y.1⟩, ⟨rLst (rTel K), y.2⟩]) (fun y => oLst rInt (fallsL y.1 y.2))
theorem ok_falls {f : Addr} {fd : FuncData} (F : FunD K "falls" "falls" (defArgs s_falls) (defBody s_falls) (defScope s_falls) [] [] f fd) (T : Facts K mg) (h_course_of : Has P w K mg base "course_of" 23 (sp_course_of K)) : FnOk P w K mg base (CXL P w) 24 f fd ["plan", "run"] (sp_falls K) := by
  refine fn_own F sc_falls (fun _ => rfl) fun y hp cdv A outer s H E0 G D hr hret => ?_
  obtain ⟨p, ts⟩ := y
  try dsimp only at hp hret
  exact bk_retO (EvNw.own (en_callC (tt := fun G => rNw G (rQ K)) h_course_of hr (by first | decide | omega) (p, ts) hp (ea_cons (ev_v 0) (ea_cons (ev_v 1) ea_nil)) rfl) (fun _ _ => thin_int)) hret
abbrev sp_course_ofP (K : PySem.W.Frag) : Sp := PSp (fun y : Pl × List Tel => RunOk y.1 y.2) (fun y => [⟨rWk K (cW K), y.1⟩, ⟨rLst (rTel K), y.2⟩]) (rT3 K (rCs K) (rLst (rQ K)) (rLst rInt)) (fun y => (runC y.1 y.2, shownL y.1 y.2, fallsL y.1 y.2))
theorem course_ofP_imp (vs : List V) (H : Hp) (Q : VK) (h : sp_course_ofP K vs H Q E0) : sp_course_of K vs H Q E0 := psp_of (fun G G' v x h => t3_imp (fun _ z => z) (fun _ z => nw_lst z) (fun _ z => nw_lst z) h) vs H Q h
abbrev s_asked_work : Stmt := top 39
theorem sc_asked_work : FnScope ["plan", "name", "work"] ["plan", "name"] (defScope s_asked_work) := ⟨rfl, rfl, rfl, by decide +kernel, rfl, by decide +kernel, by decide +kernel⟩
abbrev sp_asked_work (K : PySem.W.Frag) : Sp := PSp (fun y : Pl × Str => y.1.depth < 7 ∧ (y.1.find y.2).isNone = false) (fun y => [⟨rWk K (cW K), y.1⟩, ⟨rStr, y.2⟩]) (rWk K (cW K)) (fun y => (y.1.find y.2).getD y.1)
theorem ok_asked_work {f : Addr} {fd : FuncData} (F : FunD K "asked_work" "asked_work" (defArgs s_asked_work) (defBody s_asked_work) (defScope s_asked_work) [] [] f fd) (T : Facts K mg) (h_m_work_of : HasV P w K mg base (cW K) "work_of" 8 (fun y : Pl × Str => y.1) (fun y : Pl × Str => y.1.depth < 7) (fun y : Pl × Str => [⟨rStr, y.2⟩]) (rOpt (rWk K (cW K))) (fun y => y.1.find y.2)) : FnOk P w K mg base (CXL P w) 9 f fd ["plan", "name"] (sp_asked_work K) := by
  refine fn_pure F sc_asked_work (fun _ => rfl) fun y hp cdv A outer s H E0 G D hr hret hnx => ?_
  obtain ⟨plan, name⟩ := y
  try dsimp only at hp hret hnx
  refine bk_set 2 sc_asked_work.nd (ev_ifT (et_val (ev_isi (T := "str") (C := "str") (b := true) (ev_v 1) kind_str (by decide +kernel) T.f_isinstance T.f_str (by decide +kernel))) (ev_vm h_m_work_of hr (by first | decide | omega) (plan, name) hp.1 (ev_v 0) (ea_cons (t := ⟨rStr, name⟩) (ev_v 1) ea_nil))) ?_
  refine bk_if (p := (plan.find name).isNone) (et_isN nn_wk (ev_v 2) ev_unit) (fun c => absurd c (by rw [hp.2]; simp)) (fun _ => ?_)
  refine bk_then ?_
  exact bk_ret (x := (plan.find name).getD plan) (ev_unopt hp.2 (ev_v 2)) hret
abbrev s_far : Stmt := top 40
theorem sc_far : FnScope ["plan", "run", "name", "course", "work"] ["plan", "run", "name"] (defScope s_far) := ⟨rfl, rfl, rfl, by decide +kernel, rfl, by decide +kernel, by decide +kernel⟩
def farW (p : Pl) (ts : List Tel) (n : Option Str) : Pl := if n.isNone = true then (runC p ts).plan else ((runC p ts).plan.find (n.getD Str.empty)).getD (runC p ts).plan
abbrev sp_far (K : PySem.W.Frag) : Sp := PSp (fun y : Pl × List Tel × Option Str => RunOk y.1 y.2.1 ∧ (y.2.2.isNone = false → ((runC y.1 y.2.1).plan.find (y.2.2.getD Str.empty)).isNone = false)) (fun y => [⟨rWk K (cW K), y.1⟩, ⟨rLst (rTel K), y.2.1⟩, ⟨rOpt rStr, y.2.2⟩]) (rQ K) (fun y => (farW y.1 y.2.1 y.2.2).far (runC y.1 y.2.1).did)
theorem ok_far {f : Addr} {fd : FuncData} (F : FunD K "far" "far" (defArgs s_far) (defBody s_far) (defScope s_far) [.non] [] f fd) (T : Facts K mg) (h_course_ofP : Has P w K mg base "course_of" 23 (sp_course_ofP K)) (h_asked_work : Has P w K mg base "asked_work" 9 (sp_asked_work K)) (h_m_far : HasV P w K mg base (cW K) "far" 11 (fun y : Pl × (List (Str × Int)) => y.1) (fun y : Pl × (List (Str × Int)) => (FarOk y.1 y.2) ∧ y.1.depth < 7) (fun y : Pl × (List (Str × Int)) => [⟨(rDic rInt), y.2⟩]) (rQ K) (fun y => y.1.far y.2)) : FnOk P w K mg base (CXL P w) 24 f fd ["plan", "run", "name"] (sp_far K) := by
  refine fn_pure F sc_far (fun _ => rfl) fun y hp cdv A outer s H E0 G D hr hret hnx => ?_
  obtain ⟨plan, ts, name⟩ := y
  try dsimp only at hp hret hnx
  obtain ⟨hrun, hn⟩ := hp
  have co := hrun.last
  have hd := co.plan.deep
  refine bk_set 3 sc_far.nd (ev_t3a (ev_call h_course_ofP hr (by first | decide | omega) (plan, ts) hrun (ea_cons (ev_v 0) (ea_cons (ev_v 1) ea_nil)))) ?_
  refine bk_set 4 sc_far.nd (ev_ifE (x := (runC plan ts).plan) (x' := ((runC plan ts).plan.find (name.getD Str.empty)).getD (runC plan ts).plan) (et_isN nn_str (ev_v 2) ev_unit) (fun _ => ev_csP T.cr (ev_v 3)) (fun q => ev_call h_asked_work hr (by first | decide | omega) ((runC plan ts).plan, name.getD Str.empty) ⟨by (try dsimp only); omega, hn q⟩ (ea_cons (t := ⟨rWk K (cW K), (runC plan ts).plan⟩) (ev_csP T.cr (ev_v 3)) (ea_cons (t := ⟨rStr, name.getD Str.empty⟩) (ev_unopt q (ev_v 2)) ea_nil)))) ?_
  have hfo : FarOk (farW plan ts name) (runC plan ts).did ∧ (farW plan ts name).depth ≤ 5 := by
    unfold farW
    split
    · exact ⟨co.far, hd⟩
    · rename_i q
      have q2 := hn ((Bool.not_eq_true _).mp q)
      cases e : (runC plan ts).plan.find (name.getD Str.empty) with
      | none => rw [e] at q2; simp at q2
      | some w0 =>
        have m := (find_mem _ e).1
        exact ⟨far_sub co.far m, Nat.le_trans (all_depth m) hd⟩
  exact bk_ret (x := (farW plan ts name).far (runC plan ts).did) (ev_vm h_m_far hr (by first | decide | omega) (farW plan ts name, (runC plan ts).did) (by (try dsimp only); exact ⟨hfo.1, by omega⟩) (ev_v 4) (ea_cons (t := ⟨rDic rInt, (runC plan ts).did⟩) (ev_csD T.cr (ev_v 3)) ea_nil)) hret
abbrev sp_far2 (K : PySem.W.Frag) : Sp := PSp (fun y : Pl × List Tel => RunOk y.1 y.2) (fun y => [⟨rWk K (cW K), y.1⟩, ⟨rLst (rTel K), y.2⟩]) (rQ K) (fun y => (runC y.1 y.2).plan.far (runC y.1 y.2).did)
theorem far2_imp {K : PySem.W.Frag} {E : XK} (vs : List V) (H : Hp) (Q : VK) (h : sp_far2 K vs H Q E) : sp_far K (vs ++ [.non]) H Q E := by
  obtain ⟨y, G, hp, e, a, k⟩ := h
  match vs, a with
  | [v1, v2], ⟨h1, h2, _⟩ => exact ⟨(y.1, y.2, none), G, ⟨hp, fun z => by simp at z⟩, e, ⟨h1, h2, rfl, trivial⟩, k⟩
abbrev s_worth_of : Stmt := top 43
theorem sc_worth_of : FnScope ["plan", "name", "weight", "work"] ["plan", "name"] (defScope s_worth_of) := ⟨rfl, rfl, rfl, by decide +kernel, rfl, by decide +kernel, by decide +kernel⟩
abbrev sp_worth_of (K : PySem.W.Frag) (d : Nat) : Sp := PSp (fun y : Pl × Str => (y.1.Fit ∧ y.1.depth ≤ 6) ∧ y.1.depth < d) (fun y => [⟨rWk K (cW K), y.1⟩, ⟨rStr, y.2⟩]) (rQ K) (fun y => y.1.worth y.2)
theorem ok_worth_of {f : Addr} {fd : FuncData} (F : FunD K "worth_of" "worth_of" (defArgs s_worth_of) (defBody s_worth_of) (defScope s_worth_of) [] [] f fd) (T : Facts K mg) {d : Nat} (h_worth_of : Has P w K mg base "worth_of" (9 + d) (sp_worth_of K d)) (h_m_work_of : HasV P w K mg base (cW K) "work_of" 8 (fun y : Pl × Str => y.1) (fun y : Pl × Str => y.1.depth < 7) (fun y : Pl × Str => [⟨rStr, y.2⟩]) (rOpt (rWk K (cW K))) (fun y => y.1.find y.2)) (h_share : Has P w K mg base "share" 2 (sp_share K)) (h_of_it : Has P w K mg base "of_it" 3 (sp_of_it K)) (h_m_weights : HasV P w K mg base (cW K) "weights" 1 (fun y : Pl => y) (fun y : Pl => y.parts.length ≤ 1000) (fun y : Pl => []) rInt (fun y => y.weights)) : FnOk P w K mg base (CXL P w) (9 + d + 1) f fd ["plan", "name"] (sp_worth_of K (d + 1)) := by
  refine fn_pure F sc_worth_of (fun _ => rfl) fun y hp cdv A outer s H E0 G D hr hret hnx => ?_
  obtain ⟨plan, name⟩ := y
  try dsimp only at hp hret hnx
  obtain ⟨⟨hf, h6⟩, hd⟩ := hp
  refine bk_if (p := decide (plan.name = name)) (et_eqS (ev_called T.ok (ev_v 0)) (ev_v 1)) (fun c_1 => ?_) (fun c_1 => ?_)
  · exact bk_ret (x := (1 : Rat)) (Ev.q (q := 1) (ev_gref' T.g_WHOLE) rfl) (hret.eq (by rw [worth_eq, if_pos c_1]))
  refine bk_then ?_
  have hw : plan.worth name = Pl.worths plan.weights plan.parts name := by rw [worth_eq, if_neg (by rw [c_1]; simp)]
  refine bk_for (fun _ : Unit => [.sh (rWk K (cW K)) plan, .sh rStr name, .no, .no]) (fun i _ => Pl.worths plan.weights (plan.parts.drop i) name = plan.worth name) () (passes_of rfl) (ei_lst (ev_held T.ok (ev_v 0))) (tg_tup2 (tg_name 2 sc_worth_of.nd) (tg_name 3 sc_worth_of.nd)) (by rw [List.drop_zero]; exact hw.symm) (fun _ _ _ h => h) (fun Fq i _ q m e => ?_) (fun _ e => ?_)
  · have mm : q ∈ plan.parts := List.mem_of_getElem? m
    have hq := Pl.part_depth mm
    obtain ⟨k0, k1, k2, k3⟩ := part_lim hf mm
    have hpl : plan.parts.length ≤ 1000 := by
      obtain ⟨r, n, ps, e3⟩ := lot_of k0
      rw [e3] at hf ⊢
      have := fit_len hf
      show ps.length ≤ 1000
      omega
    have hwl := worth_lim q.2 name k3
    refine bk_if (p := (!(q.2.find name).isNone)) (et_notN nn_wk (ev_vm h_m_work_of hr (by first | decide | omega) (q.2, name) (by (try dsimp only); omega) (ev_v 3) (ea_cons (t := ⟨rStr, name⟩) (ev_v 1) ea_nil)) ev_unit) (fun c_2 => ?_) (fun c_2 => ?_)
    · exact bk_ret (x := qd q.1 plan.weights * q.2.worth name) (ev_call h_of_it hr (by first | decide | omega) (qd q.1 plan.weights, q.2.worth name) ⟨10, 10 * q.2.depth, by omega, k2, hwl⟩ (ea_cons (ev_call h_share hr (by first | decide | omega) (q.1, plan.weights) k1 (ea_cons (ev_v 2) (ea_cons (t := ⟨rInt, plan.weights⟩) (ev_vm0 h_m_weights hr (by first | decide | omega) plan hpl (ev_v 0) rfl) ea_nil))) (ea_cons (ev_call h_worth_of hr (by first | decide | omega) (q.2, name) ⟨⟨k3, by (try dsimp only); omega⟩, by (try dsimp only); omega⟩ (ea_cons (ev_v 3) (ea_cons (ev_v 1) ea_nil))) ea_nil))) (hret.eq (by rw [← e]; exact worths_in m c_2))
    · refine bk_then ?_
      exact bk_end fun G H σ h => ⟨(), (worths_next m c_2).symm.trans e, G, Holds.forget 3 (Holds.forget 2 h)⟩
  · exact bk_ret (x := (1 : Rat)) (Ev.q (q := 1) (ev_gref' T.g_WHOLE) rfl) (hret.eq (by rw [← e, List.drop_length]; rfl))
abbrev s_worth : Stmt := top 44
theorem sc_worth : FnScope ["plan", "name", "run", "now"] ["plan", "name", "run"] (defScope s_worth) := ⟨rfl, rfl, rfl, by decide +kernel, rfl, by decide +kernel, by decide +kernel⟩
abbrev sp_worth (K : PySem.W.Frag) : Sp := PSp (fun y : Pl × Str × Option (List Tel) => RunOk y.1 (y.2.2.getD []) ∧ ((runC y.1 (y.2.2.getD [])).plan.find y.2.1).isNone = false) (fun y => [⟨rWk K (cW K), y.1⟩, ⟨rStr, y.2.1⟩, ⟨rOpt (rLst (rTel K)), y.2.2⟩]) (rQ K) (fun y => (runC y.1 (y.2.2.getD [])).plan.worth y.2.1)
theorem ok_worth {f : Addr} {fd : FuncData} (F : FunD K "worth" "worth" (defArgs s_worth) (defBody s_worth) (defScope s_worth) [.non] [] f fd) (T : Facts K mg) (h_course_ofP : Has P w K mg base "course_of" 23 (sp_course_ofP K)) (h_asked_work : Has P w K mg base "asked_work" 9 (sp_asked_work K)) (h_worth_of : Has P w K mg base "worth_of" 16 (sp_worth_of K 7)) : FnOk P w K mg base (CXL P w) 24 f fd ["plan", "name", "run"] (sp_worth K) := by
  refine fn_pure F sc_worth (fun _ => rfl) fun y hp cdv A outer s H E0 G D hr hret hnx => ?_
  obtain ⟨plan, name, run⟩ := y
  try dsimp only at hp hret hnx
  obtain ⟨hrun, hn⟩ := hp
  have co := hrun.last
  have hd := co.plan.deep
  refine bk_set 3 sc_worth.nd (ev_csP T.cr (ev_t3a (ev_call h_course_ofP hr (by first | decide | omega) (plan, run.getD []) hrun (ea_cons (ev_v 0) (ea_cons (t := ⟨rLst (rTel K), run.getD []⟩) (Ev.eq (ev_ifE (x := ([] : List Tel)) (x' := run.getD []) (et_isN nn_lst (ev_v 2) ev_unit) (fun _ => EvO.ev (eo_nil (r := rTel K))) (fun q => ev_unopt q (ev_v 2))) (by cases run <;> rfl)) ea_nil))))) ?_
  refine bk_expr (ev_call h_asked_work hr (by first | decide | omega) ((runC plan (run.getD [])).plan, name) ⟨by (try dsimp only); omega, hn⟩ (ea_cons (ev_v 3) (ea_cons (ev_v 1) ea_nil))) ?_
  exact bk_ret (x := (runC plan (run.getD [])).plan.worth name) (ev_call h_worth_of hr (by first | decide | omega) ((runC plan (run.getD [])).plan, name) ⟨⟨co.plan.fit, by (try dsimp only); omega⟩, by (try dsimp only); omega⟩ (ea_cons (ev_v 3) (ea_cons (ev_v 1) ea_nil))) hret
abbrev sp_worth2 (K : PySem.W.Frag) : Sp := PSp (fun y : Pl × Str => PlanOk y.1 ∧ (y.1.find y.2).isNone = false) (fun y => [⟨rWk K (cW K), y.1⟩, ⟨rStr, y.2⟩]) (rQ K) (fun y => y.1.worth y.2)
theorem run_nil {p : Pl} (h : PlanOk p) : RunOk p [] := runOk_few h (fun i t e => by simp at e) (by decide)
theorem worth2_imp {K : PySem.W.Frag} {E : XK} (vs : List V) (H : Hp) (Q : VK) (h : sp_worth2 K vs H Q E) : sp_worth K (vs ++ [.non]) H Q E := by
  obtain ⟨y, G, hp, e, a, k⟩ := h
  match vs, a with
  | [v1, v2], ⟨h1, h2, _⟩ => exact ⟨(y.1, y.2, none), G, ⟨run_nil hp.1, hp.2⟩, e, ⟨h1, h2, rfl, trivial⟩, k⟩
end
end Hf


namespace Hf
open PySem PySem.Spec PyProof.Rows L2 ClX
section
variable {P : Program} {w : World} {K : PySem.W.Frag} {mg : Str → Option Value} {base : Heap}
abbrev s_is_pace : Stmt := top 47
theorem sc_is_pace : FnScope ["pace"] ["pace"] (defScope s_is_pace) := ⟨rfl, rfl, rfl, by decide +kernel, rfl, by decide +kernel, by decide +kernel⟩
abbrev sp_is_pace (K : PySem.W.Frag) : Sp := PSp (fun y : (Int × Int) => True) (fun y => [⟨(rT2 K rInt rInt), y⟩]) rBool (fun y => isPaceB y)
theorem ok_is_pace {f : Addr} {fd : FuncData} (F : FunD K "is_pace" "is_pace" (defArgs s_is_pace) (defBody s_is_pace) (defScope s_is_pace) [] [] f fd) (T : Facts K mg) (h_is_number : Has P w K mg base "is_number" 1 (sp_is_number K)) : FnOk P w K mg base (CXL P w) 2 f fd ["pace"] (sp_is_pace K) := by
  refine fn_pure F sc_is_pace (fun _ => rfl) fun pace hp cdv A outer s H E0 G D hr hret hnx => ?_
  try dsimp only at hp hret hnx
  refine bk_if (p := ((!true) || (!decide ((2 : Int) = (2 : Int))))) (et_bool (ew_or (et_not (et_val (ev_isi (T := "tuple") (C := "tuple") (b := true) (ev_v 0) kind_T2 (by decide +kernel) T.f_isinstance T.f_tuple (by decide +kernel)))) (fun q1 => (ew_or1 (et_neI (ev_lenT2 (ev_v 0) T.f_len) ev_int))))) (fun c_1 => ?_) (fun c_1 => ?_)
  · exact bk_ret (x := false) ev_bool (hret.eq (by simp at c_1))
  · refine bk_then ?_
    exact bk_ret (x := ((isNum pace.1 (0 : Int) (1000 : Int)) && (isNum pace.2 pace.1 (1000 : Int)))) (ev_and (ev_call h_is_number hr (by first | decide | omega) (pace.1, (0 : Int), (1000 : Int)) trivial (ea_cons (ev_fst (ev_v 0)) (ea_cons ev_int (ea_cons (ev_gint T.g_TICKS) ea_nil)))) (fun q2 => (ev_one (ev_call h_is_number hr (by first | decide | omega) (pace.2, pace.1, (1000 : Int)) trivial (ea_cons (ev_snd (ev_v 0)) (ea_cons (ev_fst (ev_v 0)) (ea_cons (ev_gint T.g_TICKS) ea_nil))))))) (hret.eq rfl)
abbrev s_Row_together : Stmt := inClass (top 31) 1
theorem sc_Row_together : FnScope ["self", "times"] ["self", "times"] (defScope s_Row_together) := ⟨rfl, rfl, rfl, by decide +kernel, rfl, by decide +kernel, by decide +kernel⟩
abbrev sp_Row_together (K : PySem.W.Frag) : Sp := PSp (fun y : Pl × (List Int) => y.1.isRow = true ∧ y.2 ≠ []) (fun y => [⟨(rWk K (cW K)), y.1⟩, ⟨(rLst rInt), y.2⟩]) rInt (fun y => togV y.1.isRow y.2)
theorem ok_Row_together {f : Addr} {fd : FuncData} (F : FunD K "together" "Row.together" (defArgs s_Row_together) (defBody s_Row_together) (defScope s_Row_together) [] [] f fd) (T : Facts K mg)  : FnOk P w K mg base (CXL P w) 1 f fd ["self", "times"] (sp_Row_together K) := by
  refine fn_pure F sc_Row_together (fun _ => rfl) fun y hp cdv A outer s H E0 G D hr hret hnx => ?_
  obtain ⟨self, times⟩ := y
  try dsimp only at hp hret hnx
  exact bk_ret (x := times.sum) (ev_sum (Ev.bor (ev_v 1)) T.f_sum) (hret.eq (by rw [hp.1]; rfl))
abbrev s_Bundle_together : Stmt := inClass (top 32) 1
theorem sc_Bundle_together : FnScope ["self", "times"] ["self", "times"] (defScope s_Bundle_together) := ⟨rfl, rfl, rfl, by decide +kernel, rfl, by decide +kernel, by decide +kernel⟩
abbrev sp_Bundle_together (K : PySem.W.Frag) : Sp := PSp (fun y : Pl × (List Int) => y.1.isBun = true ∧ y.2 ≠ []) (fun y => [⟨(rWk K (cW K)), y.1⟩, ⟨(rLst rInt), y.2⟩]) rInt (fun y => togV y.1.isRow y.2)
theorem ok_Bundle_together {f : Addr} {fd : FuncData} (F : FunD K "together" "Bundle.together" (defArgs s_Bundle_together) (defBody s_Bundle_together) (defScope s_Bundle_together) [] [] f fd) (T : Facts K mg)  : FnOk P w K mg base (CXL P w) 1 f fd ["self", "times"] (sp_Bundle_together K) := by
  refine fn_pure F sc_Bundle_together (fun _ => rfl) fun y hp cdv A outer s H E0 G D hr hret hnx => ?_
  obtain ⟨self, times⟩ := y
  try dsimp only at hp hret hnx
  exact bk_ret (x := (maxL times)) (ev_maxL hp.2 (Ev.bor (ev_v 1)) T.f_max) (hret.eq (by rw [bun_row hp.1]; rfl))
abbrev s_Leaf_left : Stmt := inClass (top 28) 5
theorem sc_Leaf_left : FnScope ["self", "did", "paces", "which"] ["self", "did", "paces", "which"] (defScope s_Leaf_left) := ⟨rfl, rfl, rfl, by decide +kernel, rfl, by decide +kernel, by decide +kernel⟩
abbrev sp_Leaf_left (K : PySem.W.Frag) : Sp := PSp (fun y : Pl × (List (Str × Int)) × (List (Str × (Int × Int))) × Int => y.1.isLeaf = true ∧ LeftOk y.1 y.2.1 y.2.2.1 ∧ (y.2.2.2 = 0 ∨ y.2.2.2 = 1)) (fun y => [⟨(rWk K (cW K)), y.1⟩, ⟨(rDic rInt), y.2.1⟩, ⟨(rDic (rT2 K rInt rInt)), y.2.2.1⟩, ⟨rInt, y.2.2.2⟩]) (rOpt rInt) (fun y => Pl.leftV y.2.1 y.2.2.1 y.2.2.2 y.1)
theorem ok_Leaf_left {f : Addr} {fd : FuncData} (F : FunD K "left" "Leaf.left" (defArgs s_Leaf_left) (defBody s_Leaf_left) (defScope s_Leaf_left) [] [] f fd) (T : Facts K mg)  : FnOk P w K mg base (CXL P w) 1 f fd ["self", "did", "paces", "which"] (sp_Leaf_left K) := by
  refine fn_pure F sc_Leaf_left (fun _ => rfl) fun y hp cdv A outer s H E0 G D hr hret hnx => ?_
  obtain ⟨self, did, paces, which⟩ := y
  try dsimp only at hp hret hnx
  refine bk_if (p := (self.steps).isNone) (et_isN nn_int (ev_many T.ok (ev_v 0)) ev_unit) (fun c_1 => ?_) (fun c_1 => ?_)
  · exact bk_ret (x := (none : Option Int)) (ev_none (r := rInt)) (hret.eq (left_leaf0 hp.1 c_1))
  · refine bk_then ?_
    exact bk_ret (x := (some (((self.steps.getD 0) - ((dGet did self.name).getD (0 : Int))) * (pk (pg paces self.name) which)))) (ev_some (r := rInt) (ev_mulR (i := ((self.steps.getD 0) - ((dGet did self.name).getD (0 : Int)))) (j := (pk (pg paces self.name) which)) (left_size hp.2.1 hp.1 c_1).1 (ev_sub (ev_unopt (d := 0) c_1 (ev_many T.ok (ev_v 0))) (ev_dgetD hr (Ev.borD (ev_v 1)) (ev_called T.ok (ev_v 0)) ev_int)) (ev_t2ix (ev_dix (x := pg paces self.name) hr (Ev.borD (ev_v 2)) (ev_called T.ok (ev_v 0)) (left_size (wh := which) hp.2.1 hp.1 c_1).2) (ev_v 3) hp.2.2))) (hret.eq (left_leaf hp.1 c_1))
abbrev s_Work_left : Stmt := inClass (top 27) 13
theorem sc_Work_left : FnScope ["self", "did", "paces", "which", "times", "weight", "work"] ["self", "did", "paces", "which"] (defScope s_Work_left) := ⟨rfl, rfl, rfl, by decide +kernel, rfl, by decide +kernel, by decide +kernel⟩
abbrev sp_Work_left (K : PySem.W.Frag) (d : Nat) : Sp := PSp (fun y : Pl × (List (Str × Int)) × (List (Str × (Int × Int))) × Int => (y.1.isLeaf = false ∧ LeftOk y.1 y.2.1 y.2.2.1 ∧ (y.2.2.2 = 0 ∨ y.2.2.2 = 1)) ∧ y.1.depth < d) (fun y => [⟨(rWk K (cW K)), y.1⟩, ⟨(rDic rInt), y.2.1⟩, ⟨(rDic (rT2 K rInt rInt)), y.2.2.1⟩, ⟨rInt, y.2.2.2⟩]) (rOpt rInt) (fun y => Pl.leftV y.2.1 y.2.2.1 y.2.2.2 y.1)
theorem ok_Work_left {f : Addr} {fd : FuncData} (F : FunD K "left" "Work.left" (defArgs s_Work_left) (defBody s_Work_left) (defScope s_Work_left) [] [] f fd) (T : Facts K mg) {d : Nat} (h_m_left : HasV P w K mg base (cW K) "left" (2 + d) (fun y : Pl × (List (Str × Int)) × (List (Str × (Int × Int))) × Int => y.1) (fun y : Pl × (List (Str × Int)) × (List (Str × (Int × Int))) × Int => (LeftOk y.1 y.2.1 y.2.2.1 ∧ (y.2.2.2 = 0 ∨ y.2.2.2 = 1)) ∧ y.1.depth < d) (fun y : Pl × (List (Str × Int)) × (List (Str × (Int × Int))) × Int => [⟨(rDic rInt), y.2.1⟩, ⟨(rDic (rT2 K rInt rInt)), y.2.2.1⟩, ⟨rInt, y.2.2.2⟩]) (rOpt rInt) (fun y => Pl.leftV y.2.1 y.2.2.1 y.2.2.2 y.1)) (h_m_together : HasV P w K mg base (cW K) "together" 1 (fun y : Pl × (List Int) => y.1) (fun y : Pl × (List Int) => y.1.isLeaf = false ∧ y.2 ≠ []) (fun y : Pl × (List Int) => [⟨(rLst rInt), y.2⟩]) rInt (fun y => togV y.1.isRow y.2)) : FnOk P w K mg base (CXL P w) (2 + d + 1) f fd ["self", "did", "paces", "which"] (sp_Work_left K (d + 1)) := by
  refine fn_pure F sc_Work_left (fun _ => rfl) fun y hp cdv A outer s H E0 G D hr hret hnx => ?_
  obtain ⟨self, did, paces, which⟩ := y
  try dsimp only at hp hret hnx
  obtain ⟨hp, hd⟩ := hp
  refine bk_setLm (as := self.parts) (s := (rOpt rInt)) (val := fun q1 : (Int × Pl) => (Pl.leftV did paces which q1.2)) 4 [("weight", 5), ("work", 6)] sc_Work_left.nd (ei_lst (ev_held T.ok (ev_v 0))) (blkOk_by (N := ["self", "did", "paces", "which", "times", "weight", "work"]) (sc := defScope s_Work_left) (by decide +kernel)) (fun _ => (tg_tup2 (tg_name 5 sc_Work_left.nd) (tg_name 6 sc_Work_left.nd))) (fun _ q1 q2 => (ev_vm h_m_left hr (by first | decide | omega) (q1.2, did, paces, which) (by (try dsimp only); exact ⟨⟨hp.2.1.part q2, hp.2.2⟩, by have := Pl.part_depth q2; omega⟩) (ev_v 6) (ea_cons (ev_v 1) (ea_cons (ev_v 2) (ea_cons (ev_v 3) ea_nil))))) (by have := fit_few hp.2.1.fit; omega) ?_
  exact bk_ret (x := (if ((self.parts.map (fun q1 : (Int × Pl) => (Pl.leftV did paces which q1.2))).any fun o => o.isNone) = true then (none : Option Int) else (some (togV self.isRow ((self.parts.map (fun q1 : (Int × Pl) => (Pl.leftV did paces which q1.2))).map fun o => o.getD 0))))) (ev_ifE (et_inN ev_unit (ev_v 4)) (fun q3 => (ev_none (r := rInt))) (fun q3 => (ev_some (r := rInt) (ev_vm h_m_together hr (by first | decide | omega) (self, ((self.parts.map (fun q1 : (Int × Pl) => (Pl.leftV did paces which q1.2))).map fun o => o.getD 0)) (by (try dsimp only); exact ⟨hp.1, by simpa using fit_ne hp.2.1.fit hp.1⟩) (ev_v 0) (ea_cons (t := ⟨rLst rInt, ((self.parts.map (fun q1 : (Int × Pl) => (Pl.leftV did paces which q1.2))).map fun o => o.getD 0)⟩) (ev_unopts q3 (ev_v 4)) ea_nil))))) (hret.eq (left_lot hp.1))
abbrev s_left : Stmt := top 48
theorem sc_left : FnScope ["plan", "run", "paces", "course", "names", "least", "leaf", "name"] ["plan", "run", "paces"] (defScope s_left) := ⟨rfl, rfl, rfl, by decide +kernel, rfl, by decide +kernel, by decide +kernel⟩
abbrev sp_left (K : PySem.W.Frag) : Sp := PSp (fun y : Pl × List Tel × List (Str × (Int × Int)) => RunOk y.1 y.2.1 ∧ PacesOk (runC y.1 y.2.1).plan y.2.2) (fun y => [⟨rWk K (cW K), y.1⟩, ⟨rLst (rTel K), y.2.1⟩, ⟨rDic (rT2 K rInt rInt), y.2.2⟩]) (rOpt (rT2 K rInt rInt)) (fun y => leftT (runC y.1 y.2.1).plan (runC y.1 y.2.1).did y.2.2)
theorem ok_left {f : Addr} {fd : FuncData} (F : FunD K "left" "left" (defArgs s_left) (defBody s_left) (defScope s_left) [] [] f fd) (T : Facts K mg) (h_course_ofP : Has P w K mg base "course_of" 23 (sp_course_ofP K)) (h_is_pace : Has P w K mg base "is_pace" 2 (sp_is_pace K)) (h_m_left : HasV P w K mg base (cW K) "left" 9 (fun y : Pl × (List (Str × Int)) × (List (Str × (Int × Int))) × Int => y.1) (fun y : Pl × (List (Str × Int)) × (List (Str × (Int × Int))) × Int => (LeftOk y.1 y.2.1 y.2.2.1 ∧ (y.2.2.2 = 0 ∨ y.2.2.2 = 1)) ∧ y.1.depth < 7) (fun y : Pl × (List (Str × Int)) × (List (Str × (Int × Int))) × Int => [⟨(rDic rInt), y.2.1⟩, ⟨(rDic (rT2 K rInt rInt)), y.2.2.1⟩, ⟨rInt, y.2.2.2⟩]) (rOpt rInt) (fun y => Pl.leftV y.2.1 y.2.2.1 y.2.2.2 y.1)) (h_m_leaves : HasVO P w K mg base (cW K) "leaves" 8 (fun y : Pl => y) (fun y : Pl => (y.names.length ≤ 1000) ∧ y.depth < 7) (fun y : Pl => []) (fun y => oLst (rWk K (cW K)) (y.leaves))) : FnOk P w K mg base (CXL P w) 24 f fd ["plan", "run", "paces"] (sp_left K) := by
  refine fn_pure F sc_left (fun _ => rfl) fun y hp cdv A outer s H E0 G D hr hret hnx => ?_
  obtain ⟨plan, ts, pc⟩ := y
  try dsimp only at hp hret hnx
  obtain ⟨hrun, hpc⟩ := hp
  have co := hrun.last
  have hd := co.plan.deep
  have hc := co.plan.count
  have hll := leaves_len (runC plan ts).plan
  have lo : LeftOk (runC plan ts).plan (runC plan ts).did pc := ⟨co.plan.fit, co.cnt, hc, fun l hl => by obtain ⟨a, e, h⟩ := hpc.pace l hl; exact ⟨a, e, pace_ok h⟩⟩
  refine bk_set 3 sc_left.nd (ev_t3a (ev_call h_course_ofP hr (by first | decide | omega) (plan, ts) hrun (ea_cons (ev_v 0) (ea_cons (ev_v 1) ea_nil)))) ?_
  refine bk_setLm (as := (runC plan ts).plan.leaves) (s := rStr) (val := fun q : Pl => q.name) 4 [("leaf", 6)] sc_left.nd (ei_lst (EvO.ev (eo_vm0 h_m_leaves hr (by first | decide | omega) (runC plan ts).plan (by (try dsimp only); exact ⟨by omega, by omega⟩) (ev_csP T.cr (ev_v 3)) rfl rfl))) (blkOk_by (N := ["plan", "run", "paces", "course", "names", "least", "leaf", "name"]) (sc := defScope s_left) (by decide +kernel)) (fun _ => tg_name 6 sc_left.nd) (fun _ q m => ev_called T.ok (ev_v 6)) (by omega) ?_
  refine bk_if (p := (!true || !decide ((pc.length : Int) = (((runC plan ts).plan.leaves.map fun q : Pl => q.name).length : Int)))) (et_bool (ew_or (et_not (et_val (ev_isi (T := "dict") (C := "dict") (b := true) (ev_v 2) kind_dic (by decide +kernel) T.f_isinstance T.f_dict (by decide +kernel)))) (fun _ => ew_or1 (et_neI (ev_lenD (Ev.borD (ev_v 2)) T.f_len) (ev_len (ev_v 4) T.f_len))))) (fun c => absurd c (by rw [List.length_map, hpc.len]; simp)) (fun _ => ?_)
  refine bk_then ?_
  have hall : ∀ n ∈ (runC plan ts).plan.leaves.map (fun q : Pl => q.name), ∃ a, dGet pc n = some a ∧ isPaceB a = true := fun n hn => by
    obtain ⟨l, hl, rfl⟩ := List.mem_map.mp hn
    exact hpc.pace l hl
  refine bk_if (p := !((((runC plan ts).plan.leaves.map fun q : Pl => q.name).map fun n : Str => (dGet pc n).isSome && isPaceB (pg pc n)).all id)) (et_not (et_val (ev_all (EvO.bor (eo_lcm (val := fun n : Str => (dGet pc n).isSome && isPaceB (pg pc n)) [("name", 7)] sc_left.nd (ei_lst (ev_v 4)) (blkOk_by (N := ["plan", "run", "paces", "course", "names", "least", "leaf", "name"]) (sc := defScope s_left) (by decide +kernel)) (fun _ => tg_name 7 sc_left.nd) (fun _ n mn => ev_and (ev_inD hr (ev_v 7) (Ev.borD (ev_v 2))) (fun q => ev_one (ev_call h_is_pace hr (by first | decide | omega) (pg pc n) trivial (ea_cons (t := ⟨rT2 K rInt rInt, pg pc n⟩) (ev_dix hr (Ev.borD (ev_v 2)) (ev_v 7) (by obtain ⟨a, e, _⟩ := hall n mn; unfold pg; rw [e]; rfl)) ea_nil)))) (by rw [List.length_map]; omega))) T.f_all))) (fun c => ?_) (fun _ => ?_)
  · refine absurd c ?_
    rw [show (((runC plan ts).plan.leaves.map fun q : Pl => q.name).map fun n : Str => (dGet pc n).isSome && isPaceB (pg pc n)).all id = true from List.all_eq_true.mpr fun b hb => by
      obtain ⟨n, hn, rfl⟩ := List.mem_map.mp hb
      obtain ⟨a, e, h⟩ := hall n hn
      have e2 : pg pc n = a := by unfold pg; rw [e]; rfl
      rw [e2, e]
      simpa using h]
    simp
  refine bk_then ?_
  refine bk_set 5 sc_left.nd (ev_vm h_m_left hr (by first | decide | omega) ((runC plan ts).plan, (runC plan ts).did, pc, 0) (by (try dsimp only); exact ⟨⟨lo, .inl rfl⟩, by omega⟩) (ev_csP T.cr (ev_v 3)) (ea_cons (t := ⟨rDic rInt, (runC plan ts).did⟩) (ev_csD T.cr (ev_v 3)) (ea_cons (t := ⟨rDic (rT2 K rInt rInt), pc⟩) (ev_v 2) (ea_cons (t := ⟨rInt, 0⟩) ev_int ea_nil)))) ?_
  exact bk_ret (x := leftT (runC plan ts).plan (runC plan ts).did pc) (ev_ifE (x := none) (x' := some ((Pl.leftV (runC plan ts).did pc 0 (runC plan ts).plan).getD 0, (Pl.leftV (runC plan ts).did pc 1 (runC plan ts).plan).getD 0)) (et_isN nn_int (ev_v 5) ev_unit) (fun _ => ev_none) (fun q => ev_some (ev_tup2 (ea_cons (t := ⟨rInt, (Pl.leftV (runC plan ts).did pc 0 (runC plan ts).plan).getD 0⟩) (ev_unopt q (ev_v 5)) (ea_cons (t := ⟨rInt, (Pl.leftV (runC plan ts).did pc 1 (runC plan ts).plan).getD 0⟩) (ev_unopt (by rw [left_none (a := 1) (b := 0)]; exact q) (ev_vm h_m_left hr (by first | decide | omega) ((runC plan ts).plan, (runC plan ts).did, pc, 1) (by (try dsimp only); exact ⟨⟨lo, .inr rfl⟩, by omega⟩) (ev_csP T.cr (ev_v 3)) (ea_cons (t := ⟨rDic rInt, (runC plan ts).did⟩) (ev_csD T.cr (ev_v 3)) (ea_cons (t := ⟨rDic (rT2 K rInt rInt), pc⟩) (ev_v 2) (ea_cons (t := ⟨rInt, 1⟩) ev_int ea_nil))))) ea_nil))))) hret
end
end Hf


set_option maxHeartbeats 0
namespace Hf
open PySem PySem.Spec PyProof.Rows L2 ClX
section
variable {P : Program} {w : World} {K : PySem.W.Frag} {mg : Str → Option Value} {base : Heap}
abbrev s__law_cell_at : Stmt := top 50
theorem sc__law_cell_at : FnScope ["_law_script", "_law_k"] ["_law_script", "_law_k"] (defScope s__law_cell_at) := ⟨rfl, rfl, rfl, by decide +kernel, rfl, by decide +kernel, by decide +kernel⟩
abbrev sp__law_cell_at (K : PySem.W.Frag) : Sp := PSp (fun y : (List Int) × Int => 0 ≤ y.2) (fun y => [⟨(rSeq K rInt), y.1⟩, ⟨rInt, y.2⟩]) rInt (fun y => cellAt y.1 y.2)
theorem ok__law_cell_at {f : Addr} {fd : FuncData} (F : FnD K "_law_cell_at" s__law_cell_at [] f fd) (T : Facts K mg) : FnOk P w K mg base (CXL P w) 1 f fd ["_law_script", "_law_k"] (sp__law_cell_at K) := by
  refine fn_pure F sc__law_cell_at (fun _ => rfl) fun y hp cdv A outer s H E0 G D hr hret hnx => ?_
  obtain ⟨script, k⟩ := y
  try dsimp only at hp hret hnx
  refine bk_if (p := decide (k < (script.length : Int))) (et_lt (ev_v 1) (ev_lenS (ev_v 0) T.f_len)) (fun c_1 => ?_) (fun c_1 => ?_)
  · exact bk_ret (x := (script.getD (k).toNat 0)) (ev_atS (r := rInt) (as := script) (i := k) (d := 0) (by have := of_decide_eq_true c_1; omega) (ev_v 0) (ev_v 1)) (hret.eq (by simp only [cellAt, c_1, if_true]))
  · refine bk_then ?_
    refine bk_if (p := (PyData.eqv (pdInts script) (pdInts ([] : (List Int))))) (et_eqD hr eqv_seqInts eqv_ints (ev_v 0) (EvO.ev (eo_nil (r := rInt)))) (fun c_2 => ?_) (fun c_2 => ?_)
    · exact bk_ret (x := (k * (48271 : Int))) (ev_mulR (by decide) (ev_v 1) ev_int) (hret.eq (by simp only [cellAt, c_1, c_2, if_true, if_false, Bool.false_eq_true]))
    · refine bk_then ?_
      exact bk_ret (x := ((((script.getD ((k % (script.length : Int))).toNat 0) + k) * (48271 : Int)) % (2147483647 : Int))) (ev_mod (i := (((script.getD ((k % (script.length : Int))).toNat 0) + k) * (48271 : Int))) (j := (2147483647 : Int)) (by decide) (ev_mulR (by decide) (ev_add (ev_atS (r := rInt) (as := script) (i := (k % (script.length : Int))) (d := 0) ⟨Int.emod_nonneg _ (by have := cell_ne c_2; omega), Int.emod_lt_of_pos _ (cell_ne c_2)⟩ (ev_v 0) (ev_mod (i := k) (j := (script.length : Int)) (cell_ne c_2) (ev_v 1) (ev_lenS (ev_v 0) T.f_len))) (ev_v 1)) ev_int) ev_int) (hret.eq (by simp only [cellAt, c_1, c_2, if_true, if_false, Bool.false_eq_true]))
abbrev s__law_share : Stmt := top 51
theorem sc__law_share : FnScope ["_law_top", "_law_bottom", "_law_part", "_law_other"] ["_law_top", "_law_bottom"] (defScope s__law_share) := ⟨rfl, rfl, rfl, by decide +kernel, rfl, by decide +kernel, by decide +kernel⟩
abbrev sp__law_share (K : PySem.W.Frag) : Sp := PSp (fun y : Int × Int => 0 ≤ y.1 ∧ Bot y.2) (fun y => [⟨rInt, y.1⟩, ⟨rInt, y.2⟩]) (rQ K) (fun y => qd y.1 y.2)
theorem ok__law_share {f : Addr} {fd : FuncData} (F : FunD K "_law_share" "_law_share" (defArgs s__law_share) (defBody s__law_share) (defScope s__law_share) [] [] f fd) (T : Facts K mg)  : FnOk P w K mg base (CXL P w) 1 f fd ["_law_top", "_law_bottom"] (sp__law_share K) := by
  refine fn_pure F sc__law_share (fun _ => rfl) fun y hp cdv A outer s H E0 G D hr hret hnx => ?_
  obtain ⟨top, bottom⟩ := y
  try dsimp only at hp hret hnx
  obtain ⟨h0, hb⟩ := hp
  have hbp := hb.1
  refine bk_par 2 3 sc__law_share.nd (ev_v 1) (ev_v 0) ?_
  refine bk_while (fun s : Int × Int => [.sh rInt top, .sh rInt bottom, .sh rInt s.1, .sh rInt s.2]) (fun s => 0 ≤ s.1 ∧ 0 ≤ s.2 ∧ Int.gcd s.1 s.2 = Int.gcd bottom top) (fun s => s.2.toNat) (fun s => !decide (s.2 = 0)) (bottom, top) (passes_of rfl) ⟨by (try dsimp only); omega, h0, rfl⟩ (fun _ _ _ h => h) (fun s _ => et_neI (ev_v 3) ev_int) (fun s hs hb => ?_) (fun s hs hb2 => ?_)
  · obtain ⟨x, y⟩ := s
    have hy : y ≠ 0 := by simpa using hb
    have hy1 : 0 < y := by have := hs.2.1; simp only at this; omega
    refine bk_par 2 3 sc__law_share.nd (ev_v 3) (ev_mod hy1 (ev_v 2) (ev_v 3)) ?_
    refine bk_end fun G H σ hh => ⟨(y, x % y), ⟨⟨hs.2.1, Int.emod_nonneg _ hy, ?_⟩, ?_⟩, G, hh⟩
    · rw [← hs.2.2]
      exact gcd_step hs.1 hs.2.1
    · have := Int.emod_lt_of_pos x hy1
      have := Int.emod_nonneg x hy
      show (x % y).toNat < y.toNat
      omega
  · obtain ⟨x, y⟩ := s
    have hy : y = 0 := by simpa using hb2
    subst hy
    have hx : x = (Int.gcd top bottom : Int) := by
      have z := hs.2.2
      have z0 := hs.1
      simp only at z z0
      rw [Int.gcd_zero, Int.gcd_comm bottom top] at z
      omega
    subst hx
    have hd : ∀ {i : Int}, CDivW i (Int.gcd top bottom : Int) := fun {i} => hb.le (gcd_pos_r hb.1) (gcd_le_r hb.1)
    exact bk_ret (x := qd top bottom) (Ev.q (q := qd top bottom) (ev_tup2 (ea_cons (t := ⟨rInt, top / (Int.gcd top bottom : Int)⟩) (ev_divW hd (ev_v 0) (ev_v 2)) (ea_cons (t := ⟨rInt, bottom / (Int.gcd top bottom : Int)⟩) (ev_divW hd (ev_v 1) (ev_v 2)) ea_nil))) (share_cn hb.1)) hret
abbrev s__law_row_right : Stmt := top 52
theorem sc__law_row_right : FnScope ["_law_script", "_law_plan", "_law_run", "_law_due", "_law_again", "_law_lacking", "_law_v", "_law_w", "_law_u", "_law_s", "_law_k"] ["_law_script"] (defScope s__law_row_right) := ⟨rfl, rfl, rfl, by decide +kernel, rfl, by decide +kernel, by decide +kernel⟩
abbrev sp__law_row_right (K : PySem.W.Frag) : Sp := PSp (fun y : List Int => y.length ≤ 63) (fun y => [⟨rSeq K rInt, y⟩]) rBool (fun _ => true)
theorem ok__law_row_right {f : Addr} {fd : FuncData} (F : FunD K "_law_row_right" "_law_row_right" (defArgs s__law_row_right) (defBody s__law_row_right) (defScope s__law_row_right) [] [] f fd) (T : Facts K mg) (h__law_cell_at : Has P w K mg base "_law_cell_at" 1 (sp__law_cell_at K)) (h_Row : HasI P w K mg base "Row" (cW K).R 9 (sp_Lot_initF K true)) (h_Leaf : HasI P w K mg base "Leaf" (cW K).L 3 (sp_Leaf_init K)) (h__law_share : Has P w K mg base "_law_share" 1 (sp__law_share K)) (h_told : Has P w K mg base "told" 24 (sp_told K)) (h_falls : Has P w K mg base "falls" 24 (sp_falls K)) (h_far2 : Has P w K mg base "far" 24 (sp_far2 K)) (h_worth : Has P w K mg base "worth" 24 (sp_worth K)) : FnOk P w K mg base (CXL P w) 25 f fd ["_law_script"] (sp__law_row_right K) := by
  refine fn_pure F sc__law_row_right (fun _ => rfl) fun script hp cdv A outer s0 H E0 G D hr hret hnx => ?_
  try dsimp only at hp hret hnx
  refine bk_asg (x := (1 + cellAt script 0 % 9, 1 + cellAt script 1 % 9, 1 + cellAt script 2 % 9, 1 + cellAt script 3 % 9)) (Ev.l4 (Ev.eq (EvO.ev (eo_lcm (xs := rangeL 0 4) (s := rInt) (val := fun k : Int => 1 + cellAt script k % 9) [("_law_k", 10)] sc__law_row_right.nd (ei_range1 (n := 4) ev_int ⟨by decide, by decide⟩ T.f_range) (blkOk_by (N := ["_law_script", "_law_plan", "_law_run", "_law_due", "_law_again", "_law_lacking", "_law_v", "_law_w", "_law_u", "_law_s", "_law_k"]) (sc := defScope s__law_row_right) (by decide +kernel)) (fun _ => tg_name 10 sc__law_row_right.nd) (fun _ k mk => ev_add ev_int (ev_mod (by decide) (ev_call h__law_cell_at hr (by first | decide | omega) (script, k) (range_k mk) (ea_cons (ev_v 0) (ea_cons (t := ⟨rInt, k⟩) (ev_v 10) ea_nil))) ev_int)) (by decide))) rfl)) (tg_lst4 (tg_name 6 sc__law_row_right.nd) (tg_name 7 sc__law_row_right.nd) (tg_name 8 sc__law_row_right.nd) (tg_name 9 sc__law_row_right.nd)) ?_
  have hn : RowN (1 + cellAt script 0 % 9) (1 + cellAt script 1 % 9) (1 + cellAt script 2 % 9) (1 + cellAt script 3 % 9) := ⟨by omega, by omega, by omega, by omega⟩
  generalize 1 + cellAt script 0 % 9 = v at *
  generalize 1 + cellAt script 1 % 9 = w' at *
  generalize 1 + cellAt script 2 % 9 = u at *
  generalize 1 + cellAt script 3 % 9 = s at *
  have hv := hn.v
  have hw := hn.w
  have hu := hn.u
  have hs := hn.s
  have hP := rowP_ok hn
  refine bk_set 1 sc__law_row_right.nd (x := (rowP v w' s)) (ev_make (ss := []) h_Row hr (by first | decide | omega) ("a", [(v, Pl.leaf "b" (some s)), (w', Pl.leaf "c" (some 1))]) (hP.lot rfl) (ep_ty (t := ⟨rStr, "a"⟩) ev_str (ep_ty (t := ⟨rLst (rT2 K rInt (rWk K (cW K))), [(v, Pl.leaf "b" (some s)), (w', Pl.leaf "c" (some 1))]⟩) (EvO.ev (eo_lst (r := rT2 K rInt (rWk K (cW K))) (as := [(v, Pl.leaf "b" (some s)), (w', Pl.leaf "c" (some 1))]) (ea_cons (t := ⟨rT2 K rInt (rWk K (cW K)), (v, Pl.leaf "b" (some s))⟩) (ev_tup2 (ea_cons (t := ⟨rInt, v⟩) (ev_v 6) (ea_cons (t := ⟨rWk K (cW K), Pl.leaf "b" (some s)⟩) (ev_make (ss := []) h_Leaf hr (by first | decide | omega) ("b", some s) ⟨⟨nm_b.1, nm_b.2.1⟩, st_num (by omega)⟩ (ep_ty (t := ⟨rStr, "b"⟩) ev_str (ep_ty (t := ⟨rOpt rInt, some s⟩) (ev_some (ev_v 9)) ep_nil)) (frz_wk (w := Pl.leaf "b" (some s)))) ea_nil))) (ea_cons (t := ⟨rT2 K rInt (rWk K (cW K)), (w', Pl.leaf "c" (some 1))⟩) (ev_tup2 (ea_cons (t := ⟨rInt, w'⟩) (ev_v 7) (ea_cons (t := ⟨rWk K (cW K), Pl.leaf "c" (some 1)⟩) (ev_make (ss := []) h_Leaf hr (by first | decide | omega) ("c", some 1) ⟨⟨nm_c.1, nm_c.2.1⟩, st_one⟩ (ep_ty (t := ⟨rStr, "c"⟩) ev_str (ep_ty (t := ⟨rOpt rInt, some 1⟩) (ev_some (ev_int (i := 1))) ep_nil)) (frz_wk (w := Pl.leaf "c" (some 1)))) ea_nil))) ea_nil)) (by simp))) ep_nil)) (frz_wk (w := (rowP v w' s)))) ?_
  refine bk_set 2 sc__law_row_right.nd (x := [r1 s, r2 u, r3, r4]) (EvO.ev (eo_lst (r := rTel K) (as := [r1 s, r2 u, r3, r4]) (ea_cons (t := ⟨rTel K, r1 s⟩) (Ev.telDid (ev_tup3 (ea_cons (t := ⟨rStr, "did"⟩) ev_str (ea_cons (t := ⟨rStr, "b"⟩) ev_str (ea_cons (t := ⟨rInt, s⟩) (ev_v 9) ea_nil))))) (ea_cons (t := ⟨rTel K, r2 u⟩) (ev_telFound (ea_cons (t := ⟨rStr, "found"⟩) ev_str (ea_cons (t := ⟨rStr, "a"⟩) ev_str (ea_cons (t := ⟨rInt, u⟩) (ev_v 8) (ea_cons (t := ⟨rStr, "d"⟩) ev_str (ea_cons (t := ⟨rOpt rInt, some 1⟩) (ev_some ev_int) ea_nil)))))) (ea_cons (t := ⟨rTel K, r3⟩) (Ev.telDid (ev_tup3 (ea_cons (t := ⟨rStr, "did"⟩) ev_str (ea_cons (t := ⟨rStr, "c"⟩) ev_str (ea_cons (t := ⟨rInt, 1⟩) (ev_int (i := 1)) ea_nil))))) (ea_cons (t := ⟨rTel K, r4⟩) (Ev.telDid (ev_tup3 (ea_cons (t := ⟨rStr, "did"⟩) ev_str (ea_cons (t := ⟨rStr, "d"⟩) ev_str (ea_cons (t := ⟨rInt, 1⟩) (ev_int (i := 1)) ea_nil))))) ea_nil)))) (by simp))) ?_
  refine bk_setO 3 sc__law_row_right.nd (eo_lst (r := rQ K) (as := [(0 : Rat), qd v (v + w'), qd v (v + w')]) (ea_cons (t := ⟨rQ K, (0 : Rat)⟩) (Ev.q (q := 0) (ev_tup2 (ea_cons (t := ⟨rInt, 0⟩) ev_int (ea_cons (t := ⟨rInt, 1⟩) ev_int ea_nil))) rfl) (ea_cons (t := ⟨rQ K, qd v (v + w')⟩) (ev_call h__law_share hr (by first | decide | omega) (v, v + w') ⟨by omega, bot_of (k := 30) (by omega) (show _ < 1073741824 by omega) (by decide) (by decide)⟩ (ea_cons (t := ⟨rInt, v⟩) (ev_v 6) (ea_cons (t := ⟨rInt, v + w'⟩) (ev_add (ev_v 6) (ev_v 7)) ea_nil))) (ea_cons (t := ⟨rQ K, qd v (v + w')⟩) (ev_call h__law_share hr (by first | decide | omega) (v, v + w') ⟨by omega, bot_of (k := 30) (by omega) (show _ < 1073741824 by omega) (by decide) (by decide)⟩ (ea_cons (t := ⟨rInt, v⟩) (ev_v 6) (ea_cons (t := ⟨rInt, v + w'⟩) (ev_add (ev_v 6) (ev_v 7)) ea_nil))) ea_nil))) (by simp)) ?_
  have b1 : 0 ≤ v * (u + w') := Int.mul_nonneg (by omega) (by omega)
  have b2 : v * (u + w') ≤ 9 * 18 := Int.mul_le_mul (by omega) (by omega) (by omega) (by omega)
  have b3 : 0 ≤ w' * w' := Int.mul_nonneg (by omega) (by omega)
  have b4 : w' * w' ≤ 9 * 9 := Int.mul_le_mul (by omega) (by omega) (by omega) (by omega)
  have b5 : 0 < (v + w') * (u + w') := Int.mul_pos (by omega) (by omega)
  have b6 : (v + w') * (u + w') ≤ 18 * 18 := Int.mul_le_mul (by omega) (by omega) (by omega) (by omega)
  refine bk_append 3 rfl (ev_call h__law_share hr (by first | decide | omega) (v * (u + w') + w' * w', (v + w') * (u + w')) ⟨by omega, bot_of (k := 30) (by omega) (show _ < 1073741824 by omega) (by decide) (by decide)⟩ (ea_cons (t := ⟨rInt, v * (u + w') + w' * w'⟩) (ev_add (ev_mulL ⟨by omega, by omega⟩ (ev_v 6) (ev_add (ev_v 8) (ev_v 7))) (ev_mulL ⟨by omega, by omega⟩ (ev_v 7) (ev_v 7))) (ea_cons (t := ⟨rInt, (v + w') * (u + w')⟩) (ev_mulL ⟨by omega, by omega⟩ (ev_add (ev_v 6) (ev_v 7)) (ev_add (ev_v 8) (ev_v 7))) ea_nil))) (Evl.sz_lt (by simp)) ?_
  refine bk_append 3 rfl (Ev.q (q := 1) (ev_tup2 (ea_cons (t := ⟨rInt, 1⟩) ev_int (ea_cons (t := ⟨rInt, 1⟩) ev_int ea_nil))) rfl) (Evl.sz_lt (by simp)) ?_
  have dd : ([(0 : Rat), qd v (v + w'), qd v (v + w')] ++ [qd (v * (u + w') + w' * w') ((v + w') * (u + w'))] ++ [1]) = [0, f1 v w', f1 v w', s3 v w' u, 1] := by rw [due_1 hn, due_3 hn]; rfl
  refine bk_if (p := (false || false)) (et_bool (ew_or (EvT.eq (et_lookS 3 rfl frz_lst (et_neD hr (eqv_qs (l := shownL (rowP v w' s) [r1 s, r2 u, r3, r4])) (eqv_qs (l := ([(0 : Rat), qd v (v + w'), qd v (v + w')] ++ [qd (v * (u + w') + w' * w') ((v + w') * (u + w'))] ++ [1]))) (EvO.ev (eo_call h_told hr (by first | decide | omega) ((rowP v w' s), [r1 s, r2 u, r3, r4]) (row_run hn) (ea_cons (ev_v 1) (ea_cons (ev_v 2) ea_nil)))) (ev_v 3))) (by rw [qs_eqv, row_shown hn, dd]; simp)) (fun _ => ew_or1 (EvT.eq (et_neD hr (eqv_ints (ns := fallsL (rowP v w' s) [r1 s, r2 u, r3, r4])) (eqv_ints (ns := [1])) (EvO.ev (eo_call h_falls hr (by first | decide | omega) ((rowP v w' s), [r1 s, r2 u, r3, r4]) (row_run hn) (ea_cons (ev_v 1) (ea_cons (ev_v 2) ea_nil)))) (EvO.ev (eo_lst (r := rInt) (as := [1]) (ea_cons (t := ⟨rInt, 1⟩) ev_int ea_nil) (by simp)))) (by rw [pdInts_eqv, row_falls hn]; simp))))) (fun c => absurd c (by simp)) (fun _ => ?_)
  refine bk_then ?_
  obtain ⟨wo, wf⟩ := row_worth hn
  refine bk_if (p := (false || false)) (et_bool (ew_or (EvT.eq (et_neD hr (eqv_q (q := f2 v w' u)) (eqv_q (q := qd v (v + w' + u))) (Ev.eq (y := f2 v w' u) (ev_call h_far2 hr (by first | decide | omega) ((rowP v w' s), [r1 s, r2 u]) (row_run2 hn) (ea_cons (ev_v 1) (ea_cons (t := ⟨rLst (rTel K), [r1 s, r2 u]⟩) (Ev.eq (y := [r1 s, r2 u]) (EvO.ev (eo_to (as := [r1 s, r2 u, r3, r4]) (Ev.bor (ev_v 2)) (ev_int (i := 2)))) (by rw [cutL_to (by decide)]; rfl)) ea_nil))) (row_far2 hn)) (ev_call h__law_share hr (by first | decide | omega) (v, v + w' + u) ⟨by omega, bot_of (k := 30) (by omega) (show _ < 1073741824 by omega) (by decide) (by decide)⟩ (ea_cons (t := ⟨rInt, v⟩) (ev_v 6) (ea_cons (t := ⟨rInt, v + w' + u⟩) (ev_add (ev_add (ev_v 6) (ev_v 7)) (ev_v 8)) ea_nil)))) (by rw [q_eqv, due_2 hn]; simp)) (fun _ => ew_or1 (EvT.eq (et_neD hr (eqv_q (q := qd u (v + w' + u))) (eqv_q (q := qd u (v + w' + u))) (Ev.eq (y := qd u (v + w' + u)) (ev_call h_worth hr (by first | decide | omega) ((rowP v w' s), "d", some [r1 s, r2 u]) (by (try dsimp only); exact ⟨row_run2 hn, wf⟩) (ea_cons (ev_v 1) (ea_cons (t := ⟨rStr, "d"⟩) ev_str (ea_cons (t := ⟨rOpt (rLst (rTel K)), some [r1 s, r2 u]⟩) (ev_some (Ev.eq (y := [r1 s, r2 u]) (EvO.ev (eo_to (as := [r1 s, r2 u, r3, r4]) (Ev.bor (ev_v 2)) (ev_int (i := 2)))) (by rw [cutL_to (by decide)]; rfl))) ea_nil)))) wo) (ev_call h__law_share hr (by first | decide | omega) (u, v + w' + u) ⟨by omega, bot_of (k := 30) (by omega) (show _ < 1073741824 by omega) (by decide) (by decide)⟩ (ea_cons (t := ⟨rInt, u⟩) (ev_v 8) (ea_cons (t := ⟨rInt, v + w' + u⟩) (ev_add (ev_add (ev_v 6) (ev_v 7)) (ev_v 8)) ea_nil)))) (by rw [q_eqv]; simp))))) (fun c => absurd c (by simp)) (fun _ => ?_)
  refine bk_then ?_
  refine bk_set 4 sc__law_row_right.nd (x := [r1 s, r2 u, r3, r5, r4]) (Ev.eq (EvO.ev (eo_cat (EvO.bor (eo_to (as := [r1 s, r2 u, r3, r4]) (Ev.bor (ev_v 2)) (ev_int (i := 3)))) (EvO.bor (eo_lst (r := rTel K) (as := [r5, r4]) (ea_cons (t := ⟨rTel K, r5⟩) (Ev.telAgain (ev_tup2 (ea_cons (t := ⟨rStr, "again"⟩) ev_str (ea_cons (t := ⟨rStr, "a"⟩) ev_str ea_nil)))) (ea_cons (t := ⟨rTel K, r4⟩) (Ev.telDid (ev_tup3 (ea_cons (t := ⟨rStr, "did"⟩) ev_str (ea_cons (t := ⟨rStr, "d"⟩) ev_str (ea_cons (t := ⟨rInt, 1⟩) (ev_int (i := 1)) ea_nil))))) ea_nil)) (by simp))) (Evl.sz_of (by rw [cutL_to (by decide)]; simp)))) (by rw [cutL_to (by decide)]; rfl)) ?_
  refine bk_if (p := (false || false)) (et_bool (ew_or (EvT.eq (et_neD hr (eqv_ints (ns := fallsL (rowP v w' s) [r1 s, r2 u, r3, r5, r4])) (eqv_ints (ns := [1, 3])) (EvO.ev (eo_call h_falls hr (by first | decide | omega) ((rowP v w' s), [r1 s, r2 u, r3, r5, r4]) (row_again hn) (ea_cons (ev_v 1) (ea_cons (ev_v 4) ea_nil)))) (EvO.ev (eo_lst (r := rInt) (as := [1, 3]) (ea_cons (t := ⟨rInt, 1⟩) ev_int (ea_cons (t := ⟨rInt, 3⟩) ev_int ea_nil)) (by simp)))) (by rw [pdInts_eqv, row_falls2 hn]; simp)) (fun _ => ew_or1 (EvT.eq (et_neD hr (eqv_q (q := s3 v w' u)) (eqv_q (q := s3 v w' u)) (Ev.eq (y := s3 v w' u) (ev_atB (as := shownL (rowP v w' s) [r1 s, r2 u, r3, r5, r4]) (i := 4) (d := 0) (by rw [row_shown2 hn]; simp) (EvO.bor (eo_call h_told hr (by first | decide | omega) ((rowP v w' s), [r1 s, r2 u, r3, r5, r4]) (row_again hn) (ea_cons (ev_v 1) (ea_cons (ev_v 4) ea_nil)))) ev_int) (by rw [row_shown2 hn]; rfl)) (Ev.eq (y := s3 v w' u) (ev_atB (as := ([(0 : Rat), qd v (v + w'), qd v (v + w')] ++ [qd (v * (u + w') + w' * w') ((v + w') * (u + w'))] ++ [1])) (i := 3) (d := 0) (by simp) (eb_v 3) ev_int) (by rw [dd]; rfl))) (by rw [q_eqv]; simp))))) (fun c => absurd c (by simp)) (fun _ => ?_)
  refine bk_then ?_
  have sl := s3_lim hn
  have so := s3_ok hn
  have sp := den_pos (s3 v w' u)
  have sn := (num_bound so.nn so.le)
  have sd := sl.2
  have sd2 : ((s3 v w' u).den : Int) < 1048576 := by
    have e : (2 : Nat) ^ 20 = 1048576 := rfl
    rw [e] at sd
    omega
  refine bk_set 5 sc__law_row_right.nd (x := (((s3 v w' u).den : Int) - (s3 v w' u).num) * (v + w')) (ev_mulR ⟨by omega, by omega⟩ (ev_sub (ev_snd (Ev.q2 (Ev.eq (y := s3 v w' u) (ev_atB (as := ([(0 : Rat), qd v (v + w'), qd v (v + w')] ++ [qd (v * (u + w') + w' * w') ((v + w') * (u + w'))] ++ [1])) (i := 3) (d := 0) (by simp) (eb_v 3) ev_int) (by rw [dd]; rfl)))) (ev_fst (Ev.q2 (Ev.eq (y := s3 v w' u) (ev_atB (as := ([(0 : Rat), qd v (v + w'), qd v (v + w')] ++ [qd (v * (u + w') + w' * w') ((v + w') * (u + w'))] ++ [1])) (i := 3) (d := 0) (by simp) (eb_v 3) ev_int) (by rw [dd]; rfl))))) (ev_add (ev_v 6) (ev_v 7))) ?_
  have c1 : 0 ≤ ((s3 v w' u).den : Int) * (v + w' + u) - (((s3 v w' u).den : Int) - (s3 v w' u).num) * (v + w') := by
    have e : ((s3 v w' u).den : Int) * (v + w' + u) - (((s3 v w' u).den : Int) - (s3 v w' u).num) * (v + w') = ((s3 v w' u).den : Int) * u + (s3 v w' u).num * (v + w') := by grind
    rw [e]
    have x1 := Int.mul_nonneg (show 0 ≤ ((s3 v w' u).den : Int) by omega) (show 0 ≤ u by omega)
    have x2 := Int.mul_nonneg sn.1 (show 0 ≤ v + w' by omega)
    omega
  have c2 : 0 < ((s3 v w' u).den : Int) * (v + w' + u) := Int.mul_pos sp (by omega)
  have c3 : ((s3 v w' u).den : Int) * (v + w' + u) ≤ 1048576 * 27 := Int.mul_le_mul (by omega) (by omega) (by omega) (by omega)
  exact bk_ret (x := true) (Ev.eq (ev_eqD hr (eqv_q (q := s5 v w' u)) (eqv_q (q := s5 v w' u)) (Ev.eq (y := s5 v w' u) (ev_atB (as := shownL (rowP v w' s) [r1 s, r2 u, r3, r5, r4]) (i := 5) (d := 0) (by rw [row_shown2 hn]; simp) (EvO.bor (eo_call h_told hr (by first | decide | omega) ((rowP v w' s), [r1 s, r2 u, r3, r5, r4]) (row_again hn) (ea_cons (ev_v 1) (ea_cons (ev_v 4) ea_nil)))) ev_int) (by rw [row_shown2 hn]; rfl)) (Ev.eq (y := s5 v w' u) (ev_call h__law_share hr (by first | decide | omega) (((s3 v w' u).den : Int) * (v + w' + u) - (((s3 v w' u).den : Int) - (s3 v w' u).num) * (v + w'), ((s3 v w' u).den : Int) * (v + w' + u)) ⟨c1, bot_of (k := 30) c2 (show _ < 1073741824 by omega) (by decide) (by decide)⟩ (ea_cons (t := ⟨rInt, ((s3 v w' u).den : Int) * (v + w' + u) - (((s3 v w' u).den : Int) - (s3 v w' u).num) * (v + w')⟩) (ev_sub (ev_mulR ⟨by omega, by omega⟩ (ev_snd (Ev.q2 (Ev.eq (y := s3 v w' u) (ev_atB (as := ([(0 : Rat), qd v (v + w'), qd v (v + w')] ++ [qd (v * (u + w') + w' * w') ((v + w') * (u + w'))] ++ [1])) (i := 3) (d := 0) (by simp) (eb_v 3) ev_int) (by rw [dd]; rfl)))) (ev_add (ev_add (ev_v 6) (ev_v 7)) (ev_v 8))) (ev_v 5)) (ea_cons (t := ⟨rInt, ((s3 v w' u).den : Int) * (v + w' + u)⟩) (ev_mulR ⟨by omega, by omega⟩ (ev_snd (Ev.q2 (Ev.eq (y := s3 v w' u) (ev_atB (as := ([(0 : Rat), qd v (v + w'), qd v (v + w')] ++ [qd (v * (u + w') + w' * w') ((v + w') * (u + w'))] ++ [1])) (i := 3) (d := 0) (by simp) (eb_v 3) ev_int) (by rw [dd]; rfl)))) (ev_add (ev_add (ev_v 6) (ev_v 7)) (ev_v 8))) ea_nil))) (due_6 hn))) (by rw [q_eqv]; simp)) hret
abbrev s__law_unknown_right : Stmt := top 53
theorem sc__law_unknown_right : FnScope ["_law_script", "_law_plan", "_law_run", "_law_due", "_law_slow", "_law_many", "_law_did"] ["_law_script"] (defScope s__law_unknown_right) := ⟨rfl, rfl, rfl, by decide +kernel, rfl, by decide +kernel, by decide +kernel⟩
abbrev sp__law_unknown_right (K : PySem.W.Frag) : Sp := PSp (fun y : List Int => y.length ≤ 63) (fun y => [⟨rSeq K rInt, y⟩]) rBool (fun _ => true)
theorem ok__law_unknown_right {f : Addr} {fd : FuncData} (F : FunD K "_law_unknown_right" "_law_unknown_right" (defArgs s__law_unknown_right) (defBody s__law_unknown_right) (defScope s__law_unknown_right) [] [] f fd) (T : Facts K mg) (h__law_cell_at : Has P w K mg base "_law_cell_at" 1 (sp__law_cell_at K)) (h_Bundle : HasI P w K mg base "Bundle" (cW K).B 9 (sp_Lot_initF K false)) (h_Leaf : HasI P w K mg base "Leaf" (cW K).L 3 (sp_Leaf_init K)) (h_Leaf1 : HasI P w K mg base "Leaf" (cW K).L 3 (sp_Leaf1 K)) (h__law_share : Has P w K mg base "_law_share" 1 (sp__law_share K)) (h_told : Has P w K mg base "told" 24 (sp_told K)) (h_falls : Has P w K mg base "falls" 24 (sp_falls K)) (h_left : Has P w K mg base "left" 24 (sp_left K)) : FnOk P w K mg base (CXL P w) 25 f fd ["_law_script"] (sp__law_unknown_right K) := by
  refine fn_pure F sc__law_unknown_right (fun _ => rfl) fun script hp cdv A outer s0 H E0 G D hr hret hnx => ?_
  try dsimp only at hp hret hnx
  refine bk_par 5 6 sc__law_unknown_right.nd (ev_add (ev_int (i := 1)) (ev_mod (by decide) (ev_call h__law_cell_at hr (by first | decide | omega) (script, 4) (by (try dsimp only); omega) (ea_cons (ev_v 0) (ea_cons (t := ⟨rInt, 4⟩) ev_int ea_nil))) (ev_int (i := 50)))) (ev_add (ev_int (i := 1)) (ev_mod (by decide) (ev_call h__law_cell_at hr (by first | decide | omega) (script, 5) (by (try dsimp only); omega) (ea_cons (ev_v 0) (ea_cons (t := ⟨rInt, 5⟩) ev_int ea_nil))) (ev_int (i := 50)))) ?_
  have hn : BunN (1 + cellAt script 5 % 50) (1 + cellAt script 4 % 50) := ⟨by omega, by omega⟩
  generalize 1 + cellAt script 4 % 50 = m at *
  generalize 1 + cellAt script 5 % 50 = k at *
  have hk := hn.k
  have hm := hn.m
  refine bk_set 1 sc__law_unknown_right.nd (x := bunP) (ev_make (ss := []) h_Bundle hr (by first | decide | omega) ("row", [((1 : Int), Pl.leaf "did" none), ((1 : Int), Pl.leaf "b" (some 1))]) (bunP_ok.lot rfl) (ep_ty (t := ⟨rStr, "row"⟩) ev_str (ep_ty (t := ⟨rLst (rT2 K rInt (rWk K (cW K))), [((1 : Int), Pl.leaf "did" none), ((1 : Int), Pl.leaf "b" (some 1))]⟩) (EvO.ev (eo_lst (r := rT2 K rInt (rWk K (cW K))) (as := [((1 : Int), Pl.leaf "did" none), ((1 : Int), Pl.leaf "b" (some 1))]) (ea_cons (t := ⟨rT2 K rInt (rWk K (cW K)), ((1 : Int), Pl.leaf "did" none)⟩) (ev_tup2 (ea_cons (t := ⟨rInt, 1⟩) (ev_int (i := 1)) (ea_cons (t := ⟨rWk K (cW K), Pl.leaf "did" none⟩) (ev_make (ss := []) h_Leaf1 hr (by first | decide | omega) "did" ⟨nm_did.1, nm_did.2.1⟩ (ep_ty (t := ⟨rStr, "did"⟩) ev_str ep_nil) (frz_wk (w := Pl.leaf "did" none))) ea_nil))) (ea_cons (t := ⟨rT2 K rInt (rWk K (cW K)), ((1 : Int), Pl.leaf "b" (some 1))⟩) (ev_tup2 (ea_cons (t := ⟨rInt, 1⟩) (ev_int (i := 1)) (ea_cons (t := ⟨rWk K (cW K), Pl.leaf "b" (some 1)⟩) (ev_make (ss := []) h_Leaf hr (by first | decide | omega) ("b", some 1) ⟨⟨nm_b.1, nm_b.2.1⟩, st_one⟩ (ep_ty (t := ⟨rStr, "b"⟩) ev_str (ep_ty (t := ⟨rOpt rInt, some 1⟩) (ev_some (ev_int (i := 1))) ep_nil)) (frz_wk (w := Pl.leaf "b" (some 1)))) ea_nil))) ea_nil)) (by simp))) ep_nil)) (frz_wk (w := bunP))) ?_
  refine bk_set 2 sc__law_unknown_right.nd (x := [q1 k, q2 (k + m), q3]) (EvO.ev (eo_lst (r := rTel K) (as := [q1 k, q2 (k + m), q3]) (ea_cons (t := ⟨rTel K, q1 k⟩) (Ev.telDid (ev_tup3 (ea_cons (t := ⟨rStr, "did"⟩) ev_str (ea_cons (t := ⟨rStr, "did"⟩) ev_str (ea_cons (t := ⟨rInt, k⟩) (ev_v 6) ea_nil))))) (ea_cons (t := ⟨rTel K, q2 (k + m)⟩) (Ev.telKnows (ev_tup3 (ea_cons (t := ⟨rStr, "knows"⟩) ev_str (ea_cons (t := ⟨rStr, "did"⟩) ev_str (ea_cons (t := ⟨rInt, k + m⟩) (ev_add (ev_v 6) (ev_v 5)) ea_nil))))) (ea_cons (t := ⟨rTel K, q3⟩) (Ev.telDid (ev_tup3 (ea_cons (t := ⟨rStr, "did"⟩) ev_str (ea_cons (t := ⟨rStr, "b"⟩) ev_str (ea_cons (t := ⟨rInt, 1⟩) (ev_int (i := 1)) ea_nil))))) ea_nil))) (by simp))) ?_
  refine bk_setO 3 sc__law_unknown_right.nd (eo_lst (r := rQ K) (as := [(0 : Rat), (0 : Rat), qd k (2 * (k + m))]) (ea_cons (t := ⟨rQ K, (0 : Rat)⟩) (Ev.q (q := 0) (ev_tup2 (ea_cons (t := ⟨rInt, 0⟩) ev_int (ea_cons (t := ⟨rInt, 1⟩) ev_int ea_nil))) rfl) (ea_cons (t := ⟨rQ K, (0 : Rat)⟩) (Ev.q (q := 0) (ev_tup2 (ea_cons (t := ⟨rInt, 0⟩) ev_int (ea_cons (t := ⟨rInt, 1⟩) ev_int ea_nil))) rfl) (ea_cons (t := ⟨rQ K, qd k (2 * (k + m))⟩) (ev_call h__law_share hr (by first | decide | omega) (k, 2 * (k + m)) ⟨by omega, bot_of (k := 30) (by omega) (show _ < 1073741824 by omega) (by decide) (by decide)⟩ (ea_cons (t := ⟨rInt, k⟩) (ev_v 6) (ea_cons (t := ⟨rInt, 2 * (k + m)⟩) (ev_mulL ⟨by decide, by decide⟩ ev_int (ev_add (ev_v 6) (ev_v 5))) ea_nil))) ea_nil))) (by simp)) ?_
  refine bk_append 3 rfl (ev_call h__law_share hr (by first | decide | omega) (k + k + m, 2 * (k + m)) ⟨by omega, bot_of (k := 30) (by omega) (show _ < 1073741824 by omega) (by decide) (by decide)⟩ (ea_cons (t := ⟨rInt, k + k + m⟩) (ev_add (ev_add (ev_v 6) (ev_v 6)) (ev_v 5)) (ea_cons (t := ⟨rInt, 2 * (k + m)⟩) (ev_mulL ⟨by decide, by decide⟩ ev_int (ev_add (ev_v 6) (ev_v 5))) ea_nil))) (Evl.sz_lt (by simp)) ?_
  refine bk_if (p := (false || false)) (et_bool (ew_or (EvT.eq (et_lookS 3 rfl frz_lst (et_neD hr (eqv_qs (l := shownL bunP [q1 k, q2 (k + m), q3])) (eqv_qs (l := ([(0 : Rat), 0, qd k (2 * (k + m))] ++ [qd (k + k + m) (2 * (k + m))]))) (EvO.ev (eo_call h_told hr (by first | decide | omega) (bunP, [q1 k, q2 (k + m), q3]) (bun_run hn) (ea_cons (ev_v 1) (ea_cons (ev_v 2) ea_nil)))) (ev_v 3))) (by rw [qs_eqv, bun_shown hn]; simp)) (fun _ => ew_or1 (EvT.eq (et_neD hr (eqv_ints (ns := fallsL bunP [q1 k, q2 (k + m), q3])) (eqv_ints (ns := [])) (EvO.ev (eo_call h_falls hr (by first | decide | omega) (bunP, [q1 k, q2 (k + m), q3]) (bun_run hn) (ea_cons (ev_v 1) (ea_cons (ev_v 2) ea_nil)))) (EvO.ev (eo_nil (r := rInt)))) (by rw [pdInts_eqv, bun_falls hn]; simp))))) (fun c => absurd c (by simp)) (fun _ => ?_)
  refine bk_then ?_
  refine bk_if (p := false) (EvT.eq (et_notN nn_T2 (ev_call h_left hr (by first | decide | omega) (bunP, [q1 k], dPut (dPut [] "did" (1, 2)) "b" (3, 4)) (by (try dsimp only); exact ⟨bun_run1 hn, (bun_paces hn (by decide) (by decide)).1⟩) (ea_cons (ev_v 1) (ea_cons (t := ⟨rLst (rTel K), [q1 k]⟩) (Ev.eq (y := [q1 k]) (EvO.ev (eo_to (as := [q1 k, q2 (k + m), q3]) (Ev.bor (ev_v 2)) (ev_int (i := 1)))) (by rw [cutL_to (by decide)]; rfl)) (ea_cons (t := ⟨rDic (rT2 K rInt rInt), dPut (dPut [] "did" (1, 2)) "b" (3, 4)⟩) (EvO.evD (eo_disp2 (r := rT2 K rInt rInt) (n := "did") (m := "b") (x := ((1 : Int), (2 : Int))) (x2 := ((3 : Int), (4 : Int))) (ev_tup2 (ea_cons (t := ⟨rInt, 1⟩) (ev_int (i := 1)) (ea_cons (t := ⟨rInt, 2⟩) (ev_int (i := 2)) ea_nil))) (ev_tup2 (ea_cons (t := ⟨rInt, 3⟩) (ev_int (i := 3)) (ea_cons (t := ⟨rInt, 4⟩) (ev_int (i := 4)) ea_nil))))) ea_nil)))) ev_unit) (by rw [bun_left1 hn]; rfl)) (fun c => absurd c (by simp)) (fun _ => ?_)
  refine bk_then ?_
  refine bk_set 4 sc__law_unknown_right.nd (ev_mod (by decide) (ev_call h__law_cell_at hr (by first | decide | omega) (script, 6) (by (try dsimp only); omega) (ea_cons (ev_v 0) (ea_cons (t := ⟨rInt, 6⟩) ev_int ea_nil))) (ev_int (i := 9))) ?_
  have hx : 0 ≤ cellAt script 6 % 9 ∧ cellAt script 6 % 9 < 9 := ⟨by omega, by omega⟩
  generalize cellAt script 6 % 9 = x at *
  have pc : isPaceB (x, 100) = true := by
    simp only [isPaceB, isNum, Bool.and_eq_true, decide_eq_true_eq]
    omega
  exact bk_ret (x := true) (Ev.eq (ev_eqD hr (eqv_pair (a := (if x > m then x else m, if 100 > 2 * m then 100 else 2 * m))) (eqv_pair (a := (if x > m then x else m, if 100 > 2 * m then 100 else 2 * m)))
    (ev_unopt (o := some (if x > m then x else m, if 100 > 2 * m then 100 else 2 * m)) (d := (if x > m then x else m, if 100 > 2 * m then 100 else 2 * m)) rfl (Ev.eq (ev_call h_left hr (by first | decide | omega) (bunP, [q1 k, q2 (k + m)], dPut (dPut [] "did" (1, 2)) "b" (x, 100)) (by (try dsimp only); exact ⟨bun_run2 hn, (bun_paces hn (by decide) pc).2⟩) (ea_cons (ev_v 1) (ea_cons (t := ⟨rLst (rTel K), [q1 k, q2 (k + m)]⟩) (Ev.eq (y := [q1 k, q2 (k + m)]) (EvO.ev (eo_to (as := [q1 k, q2 (k + m), q3]) (Ev.bor (ev_v 2)) (ev_int (i := 2)))) (by rw [cutL_to (by decide)]; rfl)) (ea_cons (t := ⟨rDic (rT2 K rInt rInt), dPut (dPut [] "did" (1, 2)) "b" (x, 100)⟩) (EvO.evD (eo_disp2 (r := rT2 K rInt rInt) (n := "did") (m := "b") (x := ((1 : Int), (2 : Int))) (x2 := (x, (100 : Int))) (ev_tup2 (ea_cons (t := ⟨rInt, 1⟩) (ev_int (i := 1)) (ea_cons (t := ⟨rInt, 2⟩) (ev_int (i := 2)) ea_nil))) (ev_tup2 (ea_cons (t := ⟨rInt, x⟩) (ev_v 4) (ea_cons (t := ⟨rInt, 100⟩) (ev_int (i := 100)) ea_nil))))) ea_nil)))) (bun_left2 hn)))
    (ev_tup2 (ea_cons (t := ⟨rInt, if x > m then x else m⟩) (ev_max2 (i := m) (j := x) (ea_cons (t := ⟨rInt, m⟩) (ev_v 5) (ea_cons (t := ⟨rInt, x⟩) (ev_v 4) ea_nil)) T.f_max) (ea_cons (t := ⟨rInt, if 100 > 2 * m then 100 else 2 * m⟩) (ev_max2 (i := 2 * m) (j := 100) (ea_cons (t := ⟨rInt, 2 * m⟩) (ev_mulL ⟨by decide, by decide⟩ ev_int (ev_v 5)) (ea_cons (t := ⟨rInt, 100⟩) ev_int ea_nil)) T.f_max) ea_nil)))) (by rw [pdPair_eqv]; simp)) hret
abbrev s__law_long_right : Stmt := top 54
theorem sc__law_long_right : FnScope ["_law_script", "_law_steps", "_law_plan", "_law_run", "_law_k"] ["_law_script"] (defScope s__law_long_right) := ⟨rfl, rfl, rfl, by decide +kernel, rfl, by decide +kernel, by decide +kernel⟩
abbrev sp__law_long_right (K : PySem.W.Frag) : Sp := PSp (fun y : List Int => y.length ≤ 63) (fun y => [⟨rSeq K rInt, y⟩]) rBool (fun _ => true)
theorem ok__law_long_right {f : Addr} {fd : FuncData} (F : FunD K "_law_long_right" "_law_long_right" (defArgs s__law_long_right) (defBody s__law_long_right) (defScope s__law_long_right) [] [] f fd) (T : Facts K mg) (h__law_cell_at : Has P w K mg base "_law_cell_at" 1 (sp__law_cell_at K)) (h_Leaf : HasI P w K mg base "Leaf" (cW K).L 3 (sp_Leaf_init K)) (h__law_share : Has P w K mg base "_law_share" 1 (sp__law_share K)) (h_told : Has P w K mg base "told" 24 (sp_told K)) (h_falls : Has P w K mg base "falls" 24 (sp_falls K)) (h_left : Has P w K mg base "left" 24 (sp_left K)) : FnOk P w K mg base (CXL P w) 25 f fd ["_law_script"] (sp__law_long_right K) := by
  refine fn_pure F sc__law_long_right (fun _ => rfl) fun script hp cdv A outer s0 H E0 G D hr hret hnx => ?_
  try dsimp only at hp hret hnx
  refine bk_set 1 sc__law_long_right.nd (ev_add (ev_int (i := 100)) (ev_mod (by decide) (ev_call h__law_cell_at hr (by first | decide | omega) (script, 7) (by (try dsimp only); omega) (ea_cons (ev_v 0) (ea_cons (t := ⟨rInt, 7⟩) ev_int ea_nil))) (ev_int (i := 200)))) ?_
  obtain ⟨n, hn, h⟩ : ∃ n : Nat, 100 + cellAt script 7 % 200 = (n : Int) ∧ (100 ≤ n ∧ n ≤ 299) := ⟨(100 + cellAt script 7 % 200).toNat, by omega, by omega⟩
  rw [hn]
  refine bk_set 2 sc__law_long_right.nd (x := lfP (n : Int)) (ev_make (ss := []) h_Leaf hr (by first | decide | omega) ("a", some (n : Int)) ⟨⟨nm_a.1, nm_a.2.1⟩, st_num (by omega)⟩ (ep_ty (t := ⟨rStr, "a"⟩) ev_str (ep_ty (t := ⟨rOpt rInt, some (n : Int)⟩) (ev_some (ev_v 1)) ep_nil)) (frz_wk (w := lfP (n : Int)))) ?_
  have rp : repL [l1] (n : Int) = List.replicate n l1 := by rw [rep_one, Int.toNat_natCast]
  refine bk_set 3 sc__law_long_right.nd (x := List.replicate n l1) (Ev.eq (EvO.ev (eo_rep (as := [l1]) (i := (n : Int)) (EvO.bor (eo_lst (r := rTel K) (as := [l1]) (ea_cons (t := ⟨rTel K, l1⟩) (Ev.telDid (ev_tup3 (ea_cons (t := ⟨rStr, "did"⟩) ev_str (ea_cons (t := ⟨rStr, "a"⟩) ev_str (ea_cons (t := ⟨rInt, 1⟩) (ev_int (i := 1)) ea_nil))))) ea_nil) (by simp))) (ev_v 1) ⟨by omega, by omega, Evl.sz_of (by simp; omega)⟩)) rp) ?_
  refine bk_if (p := false) (EvT.eq (et_neD hr (eqv_qs (l := shownL (lfP (n : Int)) (List.replicate n l1))) (eqv_qs (l := (rangeL 0 ((n : Int) + 1).toNat).map fun k : Int => qd k (n : Int))) (EvO.ev (eo_call h_told hr (by first | decide | omega) (lfP (n : Int), List.replicate n l1) (lf_run h (Nat.le_refl n)) (ea_cons (ev_v 2) (ea_cons (ev_v 3) ea_nil)))) (EvO.ev (eo_lcm (s := rQ K) (val := fun k : Int => qd k (n : Int)) [("_law_k", 4)] sc__law_long_right.nd (ei_range1 (n := (n : Int) + 1) (ev_add (ev_v 1) ev_int) ⟨by omega, by omega⟩ T.f_range) (blkOk_by (N := ["_law_script", "_law_steps", "_law_plan", "_law_run", "_law_k"]) (sc := defScope s__law_long_right) (by decide +kernel)) (fun _ => tg_name 4 sc__law_long_right.nd) (fun _ k mk => ev_call h__law_share hr (by first | decide | omega) (k, (n : Int)) ⟨range_k mk, bot_of (k := 30) (by (try dsimp only); omega) (show _ < 1073741824 by (try dsimp only); omega) (by decide) (by decide)⟩ (ea_cons (t := ⟨rInt, k⟩) (ev_v 4) (ea_cons (t := ⟨rInt, (n : Int)⟩) (ev_v 1) ea_nil))) (by simp [rangeL]; omega)))) (by rw [qs_eqv, lf_shown h, show ((n : Int) + 1).toNat = n + 1 by omega]; simp)) (fun c => absurd c (by simp)) (fun _ => ?_)
  refine bk_then ?_
  refine bk_if (p := false) (EvT.eq (et_neD hr (eqv_ints (ns := fallsL (lfP (n : Int)) (List.replicate n l1 ++ [.again "a"]))) (eqv_ints (ns := [(n : Int)])) (EvO.ev (eo_call h_falls hr (by first | decide | omega) (lfP (n : Int), List.replicate n l1 ++ [.again "a"]) (lf_again h) (ea_cons (ev_v 2) (ea_cons (t := ⟨rLst (rTel K), List.replicate n l1 ++ [.again "a"]⟩) (EvO.ev (eo_cat (Ev.bor (ev_v 3)) (EvO.bor (eo_lst (r := rTel K) (as := [Tel.again "a"]) (ea_cons (t := ⟨rTel K, Tel.again "a"⟩) (Ev.telAgain (ev_tup2 (ea_cons (t := ⟨rStr, "again"⟩) ev_str (ea_cons (t := ⟨rStr, "a"⟩) ev_str ea_nil)))) ea_nil) (by simp))) (Evl.sz_of (by simp; omega)))) ea_nil)))) (EvO.ev (eo_lst (r := rInt) (as := [(n : Int)]) (ea_cons (t := ⟨rInt, (n : Int)⟩) (ev_v 1) ea_nil) (by simp)))) (by rw [pdInts_eqv, lf_falls h]; simp)) (fun c => absurd c (by simp)) (fun _ => ?_)
  refine bk_then ?_
  have e7 : cutL (List.replicate n l1) none (some 7) = List.replicate 7 l1 := by
    rw [cutL_to (by decide), List.take_replicate]
    congr 1
    show min 7 n = 7
    omega
  have e0 : shownL (lfP (n : Int)) [] = [0] := rfl
  exact bk_ret (x := (true && true)) (ev_and (Ev.eq (ev_eqD hr (eqv_pair (a := (3 * ((n : Int) - 7), 5 * ((n : Int) - 7)))) (eqv_pair (a := (3 * ((n : Int) - 7), 5 * ((n : Int) - 7))))
      (ev_unopt (o := some (3 * ((n : Int) - 7), 5 * ((n : Int) - 7))) (d := (3 * ((n : Int) - 7), 5 * ((n : Int) - 7))) rfl (Ev.eq (ev_call h_left hr (by first | decide | omega) (lfP (n : Int), List.replicate 7 l1, dPut [] "a" (3, 5)) (by (try dsimp only); exact ⟨lf_run h (by omega), lf_paces h (by decide)⟩) (ea_cons (ev_v 2) (ea_cons (t := ⟨rLst (rTel K), List.replicate 7 l1⟩) (Ev.eq (EvO.ev (eo_to (as := List.replicate n l1) (Ev.bor (ev_v 3)) (ev_int (i := 7)))) e7) (ea_cons (t := ⟨rDic (rT2 K rInt rInt), dPut [] "a" (3, 5)⟩) (EvO.evD (eo_disp1 (r := rT2 K rInt rInt) (n := "a") (x := ((3 : Int), (5 : Int))) (ev_tup2 (ea_cons (t := ⟨rInt, 3⟩) (ev_int (i := 3)) (ea_cons (t := ⟨rInt, 5⟩) (ev_int (i := 5)) ea_nil))))) ea_nil)))) (lf_left h)))
      (ev_tup2 (ea_cons (t := ⟨rInt, 3 * ((n : Int) - 7)⟩) (ev_mulL ⟨by decide, by decide⟩ ev_int (ev_sub (ev_v 1) ev_int)) (ea_cons (t := ⟨rInt, 5 * ((n : Int) - 7)⟩) (ev_mulL ⟨by decide, by decide⟩ ev_int (ev_sub (ev_v 1) ev_int)) ea_nil)))) (by rw [pdPair_eqv]; simp))
    (fun _ => ev_one (Ev.eq (ev_eqD hr (eqv_qs (l := shownL (lfP (n : Int)) [])) (eqv_qs (l := [0])) (EvO.ev (eo_call h_told hr (by first | decide | omega) (lfP (n : Int), []) (run_nil (lfP_ok h)) (ea_cons (ev_v 2) (ea_cons (t := ⟨rLst (rTel K), []⟩) (EvO.ev (eo_nil (r := rTel K))) ea_nil)))) (EvO.ev (eo_lst (r := rQ K) (as := [0]) (ea_cons (t := ⟨rQ K, 0⟩) (Ev.q (q := 0) (ev_tup2 (ea_cons (t := ⟨rInt, 0⟩) ev_int (ea_cons (t := ⟨rInt, 1⟩) ev_int ea_nil))) rfl) ea_nil) (by simp)))) (by rw [qs_eqv, e0]; simp)))) hret
abbrev s_law : Stmt := top 55
theorem sc_law : FnScope ["_law_script"] ["_law_script"] (defScope s_law) := ⟨rfl, rfl, rfl, by decide +kernel, rfl, by decide +kernel, by decide +kernel⟩
abbrev sp_law (K : PySem.W.Frag) : Sp := PSp (fun y : List Int => y.length ≤ 63) (fun y => [⟨rSeq K rInt, y⟩]) rBool (fun _ => true)
theorem ok_law {f : Addr} {fd : FuncData} (F : FunD K "law" "law" (defArgs s_law) (defBody s_law) (defScope s_law) [] [] f fd) (T : Facts K mg) (h__law_row_right : Has P w K mg base "_law_row_right" 25 (sp__law_row_right K)) (h__law_unknown_right : Has P w K mg base "_law_unknown_right" 25 (sp__law_unknown_right K)) (h__law_long_right : Has P w K mg base "_law_long_right" 25 (sp__law_long_right K)) : FnOk P w K mg base (CXL P w) 26 f fd ["_law_script"] (sp_law K) := by
  refine fn_pure F sc_law (fun _ => rfl) fun script hp cdv A outer s0 H E0 G D hr hret hnx => ?_
  try dsimp only at hp hret hnx
  exact bk_ret (x := (true && (true && true))) (ev_and (ev_call h__law_row_right hr (by first | decide | omega) script hp (ea_cons (ev_v 0) ea_nil)) (fun _ => ev_and (ev_call h__law_unknown_right hr (by first | decide | omega) script hp (ea_cons (ev_v 0) ea_nil)) (fun _ => ev_one (ev_call h__law_long_right hr (by first | decide | omega) script hp (ea_cons (ev_v 0) ea_nil))))) hret
end
end Hf


namespace Hd
open PySem PySem.Spec PyProof.Rows L2 PySem.W PySem.Calls Hf
def d_Work_init : He.DefD := ⟨("Work", some "__init__"), "__init__", "Work.__init__", defArgs s_Work_init, defBody s_Work_init, defScope s_Work_init, [], []⟩
def d_Leaf_init : He.DefD := ⟨("Leaf", some "__init__"), "__init__", "Leaf.__init__", defArgs s_Leaf_init, defBody s_Leaf_init, defScope s_Leaf_init, [.non], []⟩
def d_Lot_init : He.DefD := ⟨("Lot", some "__init__"), "__init__", "Lot.__init__", defArgs s_Lot_init, defBody s_Lot_init, defScope s_Lot_init, [], []⟩
def d_common : He.DefD := ⟨("common", none), "common", "common", defArgs s_common, defBody s_common, defScope s_common, [], []⟩
def d_share : He.DefD := ⟨("share", none), "share", "share", defArgs s_share, defBody s_share, defScope s_share, [], []⟩
def d_plus : He.DefD := ⟨("plus", none), "plus", "plus", defArgs s_plus, defBody s_plus, defScope s_plus, [], []⟩
def d_less : He.DefD := ⟨("less", none), "less", "less", defArgs s_less, defBody s_less, defScope s_less, [], []⟩
def d_of_it : He.DefD := ⟨("of_it", none), "of_it", "of_it", defArgs s_of_it, defBody s_of_it, defScope s_of_it, [], []⟩
def d_is_more : He.DefD := ⟨("is_more", none), "is_more", "is_more", defArgs s_is_more, defBody s_is_more, defScope s_is_more, [], []⟩
def d_parted : He.DefD := ⟨("parted", none), "parted", "parted", defArgs s_parted, defBody s_parted, defScope s_parted, [], []⟩
def d_is_number : He.DefD := ⟨("is_number", none), "is_number", "is_number", defArgs s_is_number, defBody s_is_number, defScope s_is_number, [], []⟩
def d_is_name : He.DefD := ⟨("is_name", none), "is_name", "is_name", defArgs s_is_name, defBody s_is_name, defScope s_is_name, [], []⟩
def d_are_parts : He.DefD := ⟨("are_parts", none), "are_parts", "are_parts", defArgs s_are_parts, defBody s_are_parts, defScope s_are_parts, [], []⟩
def d_Work_names : He.DefD := ⟨("Work", some "names"), "names", "Work.names", defArgs s_Work_names, defBody s_Work_names, defScope s_Work_names, [], []⟩
def d_Work_depth : He.DefD := ⟨("Work", some "depth"), "depth", "Work.depth", defArgs s_Work_depth, defBody s_Work_depth, defScope s_Work_depth, [], []⟩
def d_Leaf_leaves : He.DefD := ⟨("Leaf", some "leaves"), "leaves", "Leaf.leaves", defArgs s_Leaf_leaves, defBody s_Leaf_leaves, defScope s_Leaf_leaves, [], []⟩
def d_Work_leaves : He.DefD := ⟨("Work", some "leaves"), "leaves", "Work.leaves", defArgs s_Work_leaves, defBody s_Work_leaves, defScope s_Work_leaves, [], []⟩
def d_Work_work_of : He.DefD := ⟨("Work", some "work_of"), "work_of", "Work.work_of", defArgs s_Work_work_of, defBody s_Work_work_of, defScope s_Work_work_of, [], []⟩
def d_Work_weights : He.DefD := ⟨("Work", some "weights"), "weights", "Work.weights", defArgs s_Work_weights, defBody s_Work_weights, defScope s_Work_weights, [], []⟩
def d_Leaf_far : He.DefD := ⟨("Leaf", some "far"), "far", "Leaf.far", defArgs s_Leaf_far, defBody s_Leaf_far, defScope s_Leaf_far, [], []⟩
def d_Work_far : He.DefD := ⟨("Work", some "far"), "far", "Work.far", defArgs s_Work_far, defBody s_Work_far, defScope s_Work_far, [], []⟩
def d_Row_anew : He.DefD := ⟨("Row", some "anew"), "anew", "Row.anew", defArgs s_Row_anew, defBody s_Row_anew, defScope s_Row_anew, [], []⟩
def d_Bundle_anew : He.DefD := ⟨("Bundle", some "anew"), "anew", "Bundle.anew", defArgs s_Bundle_anew, defBody s_Bundle_anew, defScope s_Bundle_anew, [], []⟩
def d_Leaf_with_leaf : He.DefD := ⟨("Leaf", some "with_leaf"), "with_leaf", "Leaf.with_leaf", defArgs s_Leaf_with_leaf, defBody s_Leaf_with_leaf, defScope s_Leaf_with_leaf, [], []⟩
def d_Work_with_leaf : He.DefD := ⟨("Work", some "with_leaf"), "with_leaf", "Work.with_leaf", defArgs s_Work_with_leaf, defBody s_Work_with_leaf, defScope s_Work_with_leaf, [], []⟩
def d_Leaf_with_steps : He.DefD := ⟨("Leaf", some "with_steps"), "with_steps", "Leaf.with_steps", defArgs s_Leaf_with_steps, defBody s_Leaf_with_steps, defScope s_Leaf_with_steps, [], []⟩
def d_Work_with_steps : He.DefD := ⟨("Work", some "with_steps"), "with_steps", "Work.with_steps", defArgs s_Work_with_steps, defBody s_Work_with_steps, defScope s_Work_with_steps, [], []⟩
def d_is_telling : He.DefD := ⟨("is_telling", none), "is_telling", "is_telling", defArgs s_is_telling, defBody s_is_telling, defScope s_is_telling, [], []⟩
def d_Course_init : He.DefD := ⟨("Course", some "__init__"), "__init__", "Course.__init__", defArgs s_Course_init, defBody s_Course_init, defScope s_Course_init, [], []⟩
def d_Course_far : He.DefD := ⟨("Course", some "far"), "far", "Course.far", defArgs s_Course_far, defBody s_Course_far, defScope s_Course_far, [], []⟩
def d_Course_find : He.DefD := ⟨("Course", some "find"), "find", "Course.find", defArgs s_Course_find, defBody s_Course_find, defScope s_Course_find, [], []⟩
def d_Course_can : He.DefD := ⟨("Course", some "can_take"), "can_take", "Course.can_take", defArgs s_Course_can, defBody s_Course_can, defScope s_Course_can, [], []⟩
def d_Course_take : He.DefD := ⟨("Course", some "take"), "take", "Course.take", defArgs s_Course_take, defBody s_Course_take, defScope s_Course_take, [], []⟩
def d_course_of : He.DefD := ⟨("course_of", none), "course_of", "course_of", defArgs s_course_of, defBody s_course_of, defScope s_course_of, [], []⟩
def d_told : He.DefD := ⟨("told", none), "told", "told", defArgs s_told, defBody s_told, defScope s_told, [], []⟩
def d_falls : He.DefD := ⟨("falls", none), "falls", "falls", defArgs s_falls, defBody s_falls, defScope s_falls, [], []⟩
def d_asked_work : He.DefD := ⟨("asked_work", none), "asked_work", "asked_work", defArgs s_asked_work, defBody s_asked_work, defScope s_asked_work, [], []⟩
def d_far : He.DefD := ⟨("far", none), "far", "far", defArgs s_far, defBody s_far, defScope s_far, [.non], []⟩
def d_worth_of : He.DefD := ⟨("worth_of", none), "worth_of", "worth_of", defArgs s_worth_of, defBody s_worth_of, defScope s_worth_of, [], []⟩
def d_worth : He.DefD := ⟨("worth", none), "worth", "worth", defArgs s_worth, defBody s_worth, defScope s_worth, [.non], []⟩
def d_is_pace : He.DefD := ⟨("is_pace", none), "is_pace", "is_pace", defArgs s_is_pace, defBody s_is_pace, defScope s_is_pace, [], []⟩
def d_Row_together : He.DefD := ⟨("Row", some "together"), "together", "Row.together", defArgs s_Row_together, defBody s_Row_together, defScope s_Row_together, [], []⟩
def d_Bundle_together : He.DefD := ⟨("Bundle", some "together"), "together", "Bundle.together", defArgs s_Bundle_together, defBody s_Bundle_together, defScope s_Bundle_together, [], []⟩
def d_Leaf_left : He.DefD := ⟨("Leaf", some "left"), "left", "Leaf.left", defArgs s_Leaf_left, defBody s_Leaf_left, defScope s_Leaf_left, [], []⟩
def d_Work_left : He.DefD := ⟨("Work", some "left"), "left", "Work.left", defArgs s_Work_left, defBody s_Work_left, defScope s_Work_left, [], []⟩
def d_left : He.DefD := ⟨("left", none), "left", "left", defArgs s_left, defBody s_left, defScope s_left, [], []⟩
def d__law_cell_at : He.DefD := ⟨("_law_cell_at", none), "_law_cell_at", "_law_cell_at", defArgs s__law_cell_at, defBody s__law_cell_at, defScope s__law_cell_at, [], []⟩
def d__law_share : He.DefD := ⟨("_law_share", none), "_law_share", "_law_share", defArgs s__law_share, defBody s__law_share, defScope s__law_share, [], []⟩
def d__law_row_right : He.DefD := ⟨("_law_row_right", none), "_law_row_right", "_law_row_right", defArgs s__law_row_right, defBody s__law_row_right, defScope s__law_row_right, [], []⟩
def d__law_unknown_right : He.DefD := ⟨("_law_unknown_right", none), "_law_unknown_right", "_law_unknown_right", defArgs s__law_unknown_right, defBody s__law_unknown_right, defScope s__law_unknown_right, [], []⟩
def d__law_long_right : He.DefD := ⟨("_law_long_right", none), "_law_long_right", "_law_long_right", defArgs s__law_long_right, defBody s__law_long_right, defScope s__law_long_right, [], []⟩
def d_law : He.DefD := ⟨("law", none), "law", "law", defArgs s_law, defBody s_law, defScope s_law, [], []⟩
def fn : List He.DefD := [d_Work_init, d_Leaf_init, d_Lot_init, d_common, d_share, d_plus, d_less, d_of_it, d_is_more, d_parted, d_is_number, d_is_name, d_are_parts, d_Work_names, d_Work_depth, d_Leaf_leaves, d_Work_leaves, d_Work_work_of, d_Work_weights, d_Leaf_far, d_Work_far, d_Row_anew, d_Bundle_anew, d_Leaf_with_leaf, d_Work_with_leaf, d_Leaf_with_steps, d_Work_with_steps, d_is_telling, d_Course_init, d_Course_far, d_Course_find, d_Course_can, d_Course_take, d_course_of, d_told, d_falls, d_asked_work, d_far, d_worth_of, d_worth, d_is_pace, d_Row_together, d_Bundle_together, d_Leaf_left, d_Work_left, d_left, d__law_cell_at, d__law_share, d__law_row_right, d__law_unknown_right, d__law_long_right, d_law]
def fa0 : List He.Fa := [.glo "common", .glo "share", .glo "plus", .glo "less", .glo "of_it", .glo "is_more", .glo "parted", .glo "is_number", .glo "is_name", .glo "are_parts", .glo "is_telling", .glo "course_of", .glo "told", .glo "falls", .glo "asked_work", .glo "far", .glo "worth_of", .glo "worth", .glo "is_pace", .glo "left", .glo "_law_cell_at", .glo "_law_share", .glo "_law_row_right", .glo "_law_unknown_right", .glo "_law_long_right", .glo "law", .free "len", .free "abs", .free "all", .free "isinstance", .free "tuple", .free "list", .free "dict", .free "int", .free "str", .free "bool", .free "range", .free "max", .free "set", .free "enumerate"]
def fa1 : List He.Fa := [.free "sum", .int "LONGEST" 8, .int "STEPS" 1000, .int "WEIGHT" 100, .int "PARTS" 6, .int "WORKS" 20, .int "DEEP" 5, .int "TICKS" 1000, .str "LETTERS" letters, .glo "NOUGHT", .glo "WHOLE", .glo "Work", .glo "Leaf", .glo "Row", .glo "Bundle", .cls "Leaf", .mkr "Leaf", .cls "Row", .mkr "Row", .cls "Bundle", .mkr "Bundle", .noat "Leaf" "called", .noat "Leaf" "held", .noat "Leaf" "many", .noat "Row" "called", .noat "Row" "held", .noat "Row" "many", .noat "Bundle" "called", .noat "Bundle" "held", .noat "Bundle" "many", .meth "Leaf" "anew", .meth "Leaf" "depth", .meth "Leaf" "far", .meth "Leaf" "leaves", .meth "Leaf" "left", .meth "Leaf" "names", .meth "Leaf" "together", .meth "Leaf" "weights", .meth "Leaf" "with_leaf", .meth "Leaf" "with_steps"]
def fa2 : List He.Fa := [.meth "Leaf" "work_of", .meth "Row" "anew", .meth "Row" "depth", .meth "Row" "far", .meth "Row" "leaves", .meth "Row" "left", .meth "Row" "names", .meth "Row" "together", .meth "Row" "weights", .meth "Row" "with_leaf", .meth "Row" "with_steps", .meth "Row" "work_of", .meth "Bundle" "anew", .meth "Bundle" "depth", .meth "Bundle" "far", .meth "Bundle" "leaves", .meth "Bundle" "left", .meth "Bundle" "names", .meth "Bundle" "together", .meth "Bundle" "weights", .meth "Bundle" "with_leaf", .meth "Bundle" "with_steps", .meth "Bundle" "work_of", .glo "Course", .cls "Course", .mkr "Course", .noat "Course" "plan", .noat "Course" "did", .noat "Course" "shown", .meth "Course" "far", .meth "Course" "find", .meth "Course" "can_take", .meth "Course" "take", .glo "Lot", .glo "FORMS"]
def fa : List He.Fa := fa0 ++ fa1 ++ fa2
def exs (K : PySem.W.Frag) : List Bool := [tyB K, clsB K (cW K).L, clsB K (cW K).R, clsB K (cW K).B, kitB3 K (He.ga K "Work") true true true, kitB3 K (cW K).L true false false, kitB3 K (cW K).R false true false, kitB3 K (cW K).B false false true, unbB K (He.ga K "Work") "__init__", decide (He.ma K (He.ga K "Row") "__init__" = He.ma K (He.ga K "Lot") "__init__"), decide (He.ma K (He.ga K "Bundle") "__init__" = He.ma K (He.ga K "Lot") "__init__"), decide (He.ma K (He.ga K "Leaf") "depth" = He.ma K (He.ga K "Work") "depth"), decide (He.ma K (He.ga K "Row") "depth" = He.ma K (He.ga K "Work") "depth"), decide (He.ma K (He.ga K "Bundle") "depth" = He.ma K (He.ga K "Work") "depth"), decide (He.ma K (He.ga K "Row") "far" = He.ma K (He.ga K "Work") "far"), decide (He.ma K (He.ga K "Bundle") "far" = He.ma K (He.ga K "Work") "far"), decide (He.ma K (He.ga K "Row") "leaves" = He.ma K (He.ga K "Work") "leaves"), decide (He.ma K (He.ga K "Bundle") "leaves" = He.ma K (He.ga K "Work") "leaves"), decide (He.ma K (He.ga K "Row") "left" = He.ma K (He.ga K "Work") "left"), decide (He.ma K (He.ga K "Bundle") "left" = He.ma K (He.ga K "Work") "left"), decide (He.ma K (He.ga K "Leaf") "names" = He.ma K (He.ga K "Work") "names"), decide (He.ma K (He.ga K "Row") "names" = He.ma K (He.ga K "Work") "names"), decide (He.ma K (He.ga K "Bundle") "names" = He.ma K (He.ga K "Work") "names"), decide (He.ma K (He.ga K "Leaf") "weights" = He.ma K (He.ga K "Work") "weights"), decide (He.ma K (He.ga K "Row") "weights" = He.ma K (He.ga K "Work") "weights"), decide (He.ma K (He.ga K "Bundle") "weights" = He.ma K (He.ga K "Work") "weights"), decide (He.ma K (He.ga K "Row") "with_leaf" = He.ma K (He.ga K "Work") "with_leaf"), decide (He.ma K (He.ga K "Bundle") "with_leaf" = He.ma K (He.ga K "Work") "with_leaf"), decide (He.ma K (He.ga K "Row") "with_steps" = He.ma K (He.ga K "Work") "with_steps"), decide (He.ma K (He.ga K "Bundle") "with_steps" = He.ma K (He.ga K "Work") "with_steps"), decide (He.ma K (He.ga K "Leaf") "work_of" = He.ma K (He.ga K "Work") "work_of"), decide (He.ma K (He.ga K "Row") "work_of" = He.ma K (He.ga K "Work") "work_of"), decide (He.ma K (He.ga K "Bundle") "work_of" = He.ma K (He.ga K "Work") "work_of"), He.tupB K "NOUGHT" [.int 0, .int 1], He.tupB K "WHOLE" [.int 1, .int 1], kitB3 K (He.ga K "Lot") false true true, He.valsB K (He.ga K "FORMS") [("did", .int 3), ("knows", .int 3), ("found", .int 5), ("again", .int 2)]]
def ex (K : PySem.W.Frag) : Bool := (exs K).all id
abbrev R : PySem.W.OpenRow := PySem.W.OpenLaw.row PySem.Challenge.rw_howfar_k14_whole_known
def ts : List He.Tab := [(fun K => He.ga K "FORMS", ["did", "knows", "found", "again"])]
abbrev hk : PySem.W.Hook := Hk.hk 1200 fa fn ts ex
def ob (s : PySem.W.SharedT) : Hk.Seen := Hk.see 1200 fa fn ts ex (HandSHeadRun.getT s)
theorem ob_eq (s : PySem.W.SharedT) : ob s = hk.obs s.abs := Hk.see_eq (HandSHeadRun.getT_eq s)
def names0 : List PySem.Str := ["_wall", "FarError", "BadWork", "BadName", "BadRun", "BadPaces", "NOUGHT", "WHOLE", "common", "share", "plus", "less", "of_it", "is_more", "parted", "LETTERS"]
def names1 : List PySem.Str := ["LONGEST", "STEPS", "WEIGHT", "PARTS", "WORKS", "DEEP", "is_number", "is_name", "Work", "Leaf", "are_parts", "Lot", "Row", "Bundle", "FORMS", "is_telling"]
def names2 : List PySem.Str := ["Course", "course_of", "asked_work", "far", "told", "falls", "worth_of", "worth", "TICKS", "is_pace", "left", "_law_cell_at", "_law_share", "_law_row_right", "_law_unknown_right", "_law_long_right"]
def names : List PySem.Str := names0 ++ names1 ++ names2
theorem runF (w : World) : HandSHeadRun.RunEq R (PySem.W.view R.prog [55]) hk ob 20000 names (w.withFollow "special-get-raises" false) := by
  intro os
  kernel_rfl
theorem runT (w : World) : HandSHeadRun.RunEq R (PySem.W.view R.prog [55]) hk ob 20000 names (w.withFollow "special-get-raises" true) := by
  intro os
  kernel_rfl
theorem run (w : World) : HandSHeadRun.RunEq R (PySem.W.view R.prog [55]) hk ob 20000 names w :=
  byRow2 "special-get-raises" (P := fun w => HandSHeadRun.RunEq R (PySem.W.view R.prog [55]) hk ob 20000 names w) runF runT w
theorem facts {P : Program} {w : World} {K : PySem.W.Frag} {h : Heap} {mg : Str → Option Value} {f : Addr} (X : K.In h) (G : h.Ns mainGlobals mg) (hfa : mg ("law" : Str) = some (.ref f)) (c : Hk.Tells fa fn ts ex w K) :
    ∃ fd : FuncData, (∀ (s : Shared) (v : Value), BindsTo s fd ⟨[v], []⟩ [("_law_script", v)]) ∧ ∀ base : Heap, K.In base → base.Ns mainGlobals mg → FnOk P w K mg base CX0 26 f fd ["_law_script"] (sp_law K) := by
  have cd := c.t.d
  obtain ⟨fd_Work_init, F_Work_init⟩ := cd.def_ 0 (d := d_Work_init) rfl
  obtain ⟨fd_Leaf_init, F_Leaf_init⟩ := cd.def_ 1 (d := d_Leaf_init) rfl
  obtain ⟨fd_Lot_init, F_Lot_init⟩ := cd.def_ 2 (d := d_Lot_init) rfl
  obtain ⟨fd_common, F_common⟩ := cd.def_ 3 (d := d_common) rfl
  obtain ⟨fd_share, F_share⟩ := cd.def_ 4 (d := d_share) rfl
  obtain ⟨fd_plus, F_plus⟩ := cd.def_ 5 (d := d_plus) rfl
  obtain ⟨fd_less, F_less⟩ := cd.def_ 6 (d := d_less) rfl
  obtain ⟨fd_of_it, F_of_it⟩ := cd.def_ 7 (d := d_of_it) rfl
  obtain ⟨fd_is_more, F_is_more⟩ := cd.def_ 8 (d := d_is_more) rfl
  obtain ⟨fd_parted, F_parted⟩ := cd.def_ 9 (d := d_parted) rfl
  obtain ⟨fd_is_number, F_is_number⟩ := cd.def_ 10 (d := d_is_number) rfl
  obtain ⟨fd_is_name, F_is_name⟩ := cd.def_ 11 (d := d_is_name) rfl
  obtain ⟨fd_are_parts, F_are_parts⟩ := cd.def_ 12 (d := d_are_parts) rfl
  obtain ⟨fd_Work_names, F_Work_names⟩ := cd.def_ 13 (d := d_Work_names) rfl
  obtain ⟨fd_Work_depth, F_Work_depth⟩ := cd.def_ 14 (d := d_Work_depth) rfl
  obtain ⟨fd_Leaf_leaves, F_Leaf_leaves⟩ := cd.def_ 15 (d := d_Leaf_leaves) rfl
  obtain ⟨fd_Work_leaves, F_Work_leaves⟩ := cd.def_ 16 (d := d_Work_leaves) rfl
  obtain ⟨fd_Work_work_of, F_Work_work_of⟩ := cd.def_ 17 (d := d_Work_work_of) rfl
  obtain ⟨fd_Work_weights, F_Work_weights⟩ := cd.def_ 18 (d := d_Work_weights) rfl
  obtain ⟨fd_Leaf_far, F_Leaf_far⟩ := cd.def_ 19 (d := d_Leaf_far) rfl
  obtain ⟨fd_Work_far, F_Work_far⟩ := cd.def_ 20 (d := d_Work_far) rfl
  obtain ⟨fd_Row_anew, F_Row_anew⟩ := cd.def_ 21 (d := d_Row_anew) rfl
  obtain ⟨fd_Bundle_anew, F_Bundle_anew⟩ := cd.def_ 22 (d := d_Bundle_anew) rfl
  obtain ⟨fd_Leaf_with_leaf, F_Leaf_with_leaf⟩ := cd.def_ 23 (d := d_Leaf_with_leaf) rfl
  obtain ⟨fd_Work_with_leaf, F_Work_with_leaf⟩ := cd.def_ 24 (d := d_Work_with_leaf) rfl
  obtain ⟨fd_Leaf_with_steps, F_Leaf_with_steps⟩ := cd.def_ 25 (d := d_Leaf_with_steps) rfl
  obtain ⟨fd_Work_with_steps, F_Work_with_steps⟩ := cd.def_ 26 (d := d_Work_with_steps) rfl
  obtain ⟨fd_is_telling, F_is_telling⟩ := cd.def_ 27 (d := d_is_telling) rfl
  obtain ⟨fd_Course_init, F_Course_init⟩ := cd.def_ 28 (d := d_Course_init) rfl
  obtain ⟨fd_Course_far, F_Course_far⟩ := cd.def_ 29 (d := d_Course_far) rfl
  obtain ⟨fd_Course_find, F_Course_find⟩ := cd.def_ 30 (d := d_Course_find) rfl
  obtain ⟨fd_Course_can, F_Course_can⟩ := cd.def_ 31 (d := d_Course_can) rfl
  obtain ⟨fd_Course_take, F_Course_take⟩ := cd.def_ 32 (d := d_Course_take) rfl
  obtain ⟨fd_course_of, F_course_of⟩ := cd.def_ 33 (d := d_course_of) rfl
  obtain ⟨fd_told, F_told⟩ := cd.def_ 34 (d := d_told) rfl
  obtain ⟨fd_falls, F_falls⟩ := cd.def_ 35 (d := d_falls) rfl
  obtain ⟨fd_asked_work, F_asked_work⟩ := cd.def_ 36 (d := d_asked_work) rfl
  obtain ⟨fd_far, F_far⟩ := cd.def_ 37 (d := d_far) rfl
  obtain ⟨fd_worth_of, F_worth_of⟩ := cd.def_ 38 (d := d_worth_of) rfl
  obtain ⟨fd_worth, F_worth⟩ := cd.def_ 39 (d := d_worth) rfl
  obtain ⟨fd_is_pace, F_is_pace⟩ := cd.def_ 40 (d := d_is_pace) rfl
  obtain ⟨fd_Row_together, F_Row_together⟩ := cd.def_ 41 (d := d_Row_together) rfl
  obtain ⟨fd_Bundle_together, F_Bundle_together⟩ := cd.def_ 42 (d := d_Bundle_together) rfl
  obtain ⟨fd_Leaf_left, F_Leaf_left⟩ := cd.def_ 43 (d := d_Leaf_left) rfl
  obtain ⟨fd_Work_left, F_Work_left⟩ := cd.def_ 44 (d := d_Work_left) rfl
  obtain ⟨fd_left, F_left⟩ := cd.def_ 45 (d := d_left) rfl
  obtain ⟨fd__law_cell_at, F__law_cell_at⟩ := cd.def_ 46 (d := d__law_cell_at) rfl
  obtain ⟨fd__law_share, F__law_share⟩ := cd.def_ 47 (d := d__law_share) rfl
  obtain ⟨fd__law_row_right, F__law_row_right⟩ := cd.def_ 48 (d := d__law_row_right) rfl
  obtain ⟨fd__law_unknown_right, F__law_unknown_right⟩ := cd.def_ 49 (d := d__law_unknown_right) rfl
  obtain ⟨fd__law_long_right, F__law_long_right⟩ := cd.def_ 50 (d := d__law_long_right) rfl
  obtain ⟨fd_law, F_law⟩ := cd.def_ 51 (d := d_law) rfl
  have cl : ∀ w, Cls K ((cW K).of w) := ofW (c := cW K) (p := fun C => Cls K C) (He.cls_ok (cd.fact 55 (f := .cls "Leaf") rfl)) (He.cls_ok (cd.fact 57 (f := .cls "Row") rfl)) (He.cls_ok (cd.fact 59 (f := .cls "Bundle") rfl))
  have na_called : ∀ w, NoAttr K ((cW K).of w) "called" := ofW (c := cW K) (p := fun C => NoAttr K C "called") (He.noat_ok (cd.fact 61 (f := .noat "Leaf" "called") rfl)) (He.noat_ok (cd.fact 64 (f := .noat "Row" "called") rfl)) (He.noat_ok (cd.fact 67 (f := .noat "Bundle" "called") rfl))
  have na_held : ∀ w, NoAttr K ((cW K).of w) "held" := ofW (c := cW K) (p := fun C => NoAttr K C "held") (He.noat_ok (cd.fact 62 (f := .noat "Leaf" "held") rfl)) (He.noat_ok (cd.fact 65 (f := .noat "Row" "held") rfl)) (He.noat_ok (cd.fact 68 (f := .noat "Bundle" "held") rfl))
  have na_many : ∀ w, NoAttr K ((cW K).of w) "many" := ofW (c := cW K) (p := fun C => NoAttr K C "many") (He.noat_ok (cd.fact 63 (f := .noat "Leaf" "many") rfl)) (He.noat_ok (cd.fact 66 (f := .noat "Row" "many") rfl)) (He.noat_ok (cd.fact 69 (f := .noat "Bundle" "many") rfl))
  have T : Facts K mg := { f_len := He.free_ok X G (cd.fact 26 (f := .free "len") rfl), f_abs := He.free_ok X G (cd.fact 27 (f := .free "abs") rfl), f_all := He.free_ok X G (cd.fact 28 (f := .free "all") rfl), f_isinstance := He.free_ok X G (cd.fact 29 (f := .free "isinstance") rfl), f_tuple := He.free_ok X G (cd.fact 30 (f := .free "tuple") rfl), f_list := He.free_ok X G (cd.fact 31 (f := .free "list") rfl), f_dict := He.free_ok X G (cd.fact 32 (f := .free "dict") rfl), f_int := He.free_ok X G (cd.fact 33 (f := .free "int") rfl), f_str := He.free_ok X G (cd.fact 34 (f := .free "str") rfl), f_bool := He.free_ok X G (cd.fact 35 (f := .free "bool") rfl), f_range := He.free_ok X G (cd.fact 36 (f := .free "range") rfl), f_max := He.free_ok X G (cd.fact 37 (f := .free "max") rfl), f_set := He.free_ok X G (cd.fact 38 (f := .free "set") rfl), f_enumerate := He.free_ok X G (cd.fact 39 (f := .free "enumerate") rfl), f_sum := He.free_ok X G (cd.fact 40 (f := .free "sum") rfl), g_LONGEST := He.int_ok X G (cd.fact 41 (f := .int "LONGEST" 8) rfl), g_STEPS := He.int_ok X G (cd.fact 42 (f := .int "STEPS" 1000) rfl), g_WEIGHT := He.int_ok X G (cd.fact 43 (f := .int "WEIGHT" 100) rfl), g_PARTS := He.int_ok X G (cd.fact 44 (f := .int "PARTS" 6) rfl), g_WORKS := He.int_ok X G (cd.fact 45 (f := .int "WORKS" 20) rfl), g_DEEP := He.int_ok X G (cd.fact 46 (f := .int "DEEP" 5) rfl), g_TICKS := He.int_ok X G (cd.fact 47 (f := .int "TICKS" 1000) rfl), g_LETTERS := He.str_ok X G (cd.fact 48 (f := .str "LETTERS" letters) rfl), g_NOUGHT := ⟨_, He.glo_ok X G (cd.fact 49 (f := .glo "NOUGHT") rfl), fun G => ⟨_, _, _, rfl, He.tupB_ok (bAt c.more 33 (b := He.tupB K "NOUGHT" [.int 0, .int 1]) rfl) G, rfl, rfl⟩⟩, g_WHOLE := ⟨_, He.glo_ok X G (cd.fact 50 (f := .glo "WHOLE") rfl), fun G => ⟨_, _, _, rfl, He.tupB_ok (bAt c.more 34 (b := He.tupB K "WHOLE" [.int 1, .int 1]) rfl) G, rfl, rfl⟩⟩, c_Work := He.glo_ok X G (cd.fact 51 (f := .glo "Work") rfl), c_Leaf := He.glo_ok X G (cd.fact 52 (f := .glo "Leaf") rfl), c_Row := He.glo_ok X G (cd.fact 53 (f := .glo "Row") rfl), c_Bundle := He.glo_ok X G (cd.fact 54 (f := .glo "Bundle") rfl), ok := ⟨cl, na_called, na_held, na_many⟩, ty := wcTy_of (bAt c.more 0 (b := tyB K) rfl) (bAt c.more 1 (b := clsB K (cW K).L) rfl) (bAt c.more 2 (b := clsB K (cW K).R) rfl) (bAt c.more 3 (b := clsB K (cW K).B) rfl) (bAt c.more 4 (b := kitB3 K (He.ga K "Work") true true true) rfl) (bAt c.more 5 (b := kitB3 K (cW K).L true false false) rfl) (bAt c.more 6 (b := kitB3 K (cW K).R false true false) rfl) (bAt c.more 7 (b := kitB3 K (cW K).B false false true) rfl), cr := ⟨He.cls_ok (cd.fact 104 (f := .cls "Course") rfl), He.noat_ok (cd.fact 106 (f := .noat "Course" "plan") rfl), He.noat_ok (cd.fact 107 (f := .noat "Course" "did") rfl), He.noat_ok (cd.fact 108 (f := .noat "Course" "shown") rfl)⟩, c_Course := He.glo_ok X G (cd.fact 103 (f := .glo "Course") rfl), c_Lot := He.glo_ok X G (cd.fact 113 (f := .glo "Lot") rfl), lot := kit3 (g := fun w => !w.isLeaf) (bAt c.more 35 (b := kitB3 K (He.ga K "Lot") false true true) rfl) (fun _ _ => rfl) (fun _ _ => rfl) (fun _ _ => rfl), FORMS_ := trivial }
  have e := hfa.symm.trans (He.glo_ok X G (cd.fact 25 (f := .glo "law") rfl))
  cases e
  have bl := FunD.bindsA (ps := ["_law_script"]) F_law fun _ _ _ _ _ _ us hl => match us, hl with | [_], _ => rfl
  refine ⟨fd_law, fun s v => bl s [v] rfl, fun base _ _ => ?_⟩
  have o_common := ok_common (P := P) (w := w) (base := base) F_common T
  have h_common : Has P w K mg base "common" 1 (sp_common K) := Has.mk0 (He.glo_ok X G (cd.fact 0 (f := .glo "common") rfl)) F_common.kp (FunD.bindsN F_common fun _ _ _ _ _ _ us hl => match us, hl with | [_, _], _ => rfl) o_common
  have o_share := ok_share (P := P) (w := w) (base := base) F_share T h_common
  have h_share : Has P w K mg base "share" 2 (sp_share K) := Has.mk0 (He.glo_ok X G (cd.fact 1 (f := .glo "share") rfl)) F_share.kp (FunD.bindsN F_share fun _ _ _ _ _ _ us hl => match us, hl with | [_, _], _ => rfl) o_share
  have o_plus := ok_plus (P := P) (w := w) (base := base) F_plus T h_share
  have h_plus : Has P w K mg base "plus" 3 (sp_plus K) := Has.mk0 (He.glo_ok X G (cd.fact 2 (f := .glo "plus") rfl)) F_plus.kp (FunD.bindsN F_plus fun _ _ _ _ _ _ us hl => match us, hl with | [_, _], _ => rfl) o_plus
  have o_less := ok_less (P := P) (w := w) (base := base) F_less T h_share
  have h_less : Has P w K mg base "less" 3 (sp_less K) := Has.mk0 (He.glo_ok X G (cd.fact 3 (f := .glo "less") rfl)) F_less.kp (FunD.bindsN F_less fun _ _ _ _ _ _ us hl => match us, hl with | [_, _], _ => rfl) o_less
  have o_of_it := ok_of_it (P := P) (w := w) (base := base) F_of_it T h_share
  have h_of_it : Has P w K mg base "of_it" 3 (sp_of_it K) := Has.mk0 (He.glo_ok X G (cd.fact 4 (f := .glo "of_it") rfl)) F_of_it.kp (FunD.bindsN F_of_it fun _ _ _ _ _ _ us hl => match us, hl with | [_, _], _ => rfl) o_of_it
  have o_is_more := ok_is_more (P := P) (w := w) (base := base) F_is_more T
  have h_is_more : Has P w K mg base "is_more" 1 (sp_is_more K) := Has.mk0 (He.glo_ok X G (cd.fact 5 (f := .glo "is_more") rfl)) F_is_more.kp (FunD.bindsN F_is_more fun _ _ _ _ _ _ us hl => match us, hl with | [_, _], _ => rfl) o_is_more
  have o_parted := ok_parted (P := P) (w := w) (base := base) F_parted T h_share
  have h_parted : Has P w K mg base "parted" 3 (sp_parted K) := Has.mk0 (He.glo_ok X G (cd.fact 6 (f := .glo "parted") rfl)) F_parted.kp (FunD.bindsN F_parted fun _ _ _ _ _ _ us hl => match us, hl with | [_, _], _ => rfl) o_parted
  have o_is_number := ok_is_number (P := P) (w := w) (base := base) F_is_number T
  have h_is_number : Has P w K mg base "is_number" 1 (sp_is_number K) := Has.mk0 (He.glo_ok X G (cd.fact 7 (f := .glo "is_number") rfl)) F_is_number.kp (FunD.bindsN F_is_number fun _ _ _ _ _ _ us hl => match us, hl with | [_, _, _], _ => rfl) o_is_number
  have o_is_name := ok_is_name (P := P) (w := w) (base := base) F_is_name T
  have h_is_name : Has P w K mg base "is_name" 1 (sp_is_name K) := Has.mk0 (He.glo_ok X G (cd.fact 8 (f := .glo "is_name") rfl)) F_is_name.kp (FunD.bindsN F_is_name fun _ _ _ _ _ _ us hl => match us, hl with | [_], _ => rfl) o_is_name
  have o_are_parts := ok_are_parts (P := P) (w := w) (base := base) F_are_parts T h_is_number
  have h_are_parts : Has P w K mg base "are_parts" 2 (sp_are_parts K) := Has.mk0 (He.glo_ok X G (cd.fact 9 (f := .glo "are_parts") rfl)) F_are_parts.kp (FunD.bindsN F_are_parts fun _ _ _ _ _ _ us hl => match us, hl with | [_], _ => rfl) o_are_parts
  have o_Work_names : ∀ d : Nat, FnOk P w K mg base (CXL P w) (1 + d) (He.fAd K d_Work_names.at_) fd_Work_names ["self"] (sp_Work_names K d) := by
    intro d
    induction d with
    | zero => exact fn_vac (vac_O (fun y h => absurd h.2 (Nat.not_lt_zero _)))
    | succ d ih => exact ok_Work_names F_Work_names T (HasVO.mk cl (ofW (c := cW K) (p := fun C => Meth K C "names" (He.ma K (He.ga K "Work") "names")) (meth_eq (He.meth_ok (cd.fact 75 (f := .meth "Leaf" "names") rfl)) (of_decide_eq_true (bAt c.more 20 (b := decide (He.ma K (He.ga K "Leaf") "names" = He.ma K (He.ga K "Work") "names")) rfl))) (meth_eq (He.meth_ok (cd.fact 86 (f := .meth "Row" "names") rfl)) (of_decide_eq_true (bAt c.more 21 (b := decide (He.ma K (He.ga K "Row") "names" = He.ma K (He.ga K "Work") "names")) rfl))) (meth_eq (He.meth_ok (cd.fact 97 (f := .meth "Bundle" "names") rfl)) (of_decide_eq_true (bAt c.more 22 (b := decide (He.ma K (He.ga K "Bundle") "names" = He.ma K (He.ga K "Work") "names")) rfl)))) (FunD.bindsN F_Work_names fun _ _ _ _ _ _ us hl => match us, hl with | [_], _ => rfl) ih)
  have h_m_names : HasVO P w K mg base (cW K) "names" 8 (fun y : Pl => y) (fun y : Pl => (y.names.length ≤ 1000) ∧ y.depth < 7) (fun y : Pl => []) (fun y => oLst rStr (y.names)) := HasVO.mk cl (ofW (c := cW K) (p := fun C => Meth K C "names" (He.ma K (He.ga K "Work") "names")) (meth_eq (He.meth_ok (cd.fact 75 (f := .meth "Leaf" "names") rfl)) (of_decide_eq_true (bAt c.more 20 (b := decide (He.ma K (He.ga K "Leaf") "names" = He.ma K (He.ga K "Work") "names")) rfl))) (meth_eq (He.meth_ok (cd.fact 86 (f := .meth "Row" "names") rfl)) (of_decide_eq_true (bAt c.more 21 (b := decide (He.ma K (He.ga K "Row") "names" = He.ma K (He.ga K "Work") "names")) rfl))) (meth_eq (He.meth_ok (cd.fact 97 (f := .meth "Bundle" "names") rfl)) (of_decide_eq_true (bAt c.more 22 (b := decide (He.ma K (He.ga K "Bundle") "names" = He.ma K (He.ga K "Work") "names")) rfl)))) (FunD.bindsN F_Work_names fun _ _ _ _ _ _ us hl => match us, hl with | [_], _ => rfl) (o_Work_names 7)
  have o_Work_depth : ∀ d : Nat, FnOk P w K mg base (CXL P w) (1 + d) (He.fAd K d_Work_depth.at_) fd_Work_depth ["self"] (sp_Work_depth K d) := by
    intro d
    induction d with
    | zero => exact fn_vac (vac_P (fun y h => absurd h.2 (Nat.not_lt_zero _)))
    | succ d ih => exact ok_Work_depth F_Work_depth T (HasV.mk cl (ofW (c := cW K) (p := fun C => Meth K C "depth" (He.ma K (He.ga K "Work") "depth")) (meth_eq (He.meth_ok (cd.fact 71 (f := .meth "Leaf" "depth") rfl)) (of_decide_eq_true (bAt c.more 11 (b := decide (He.ma K (He.ga K "Leaf") "depth" = He.ma K (He.ga K "Work") "depth")) rfl))) (meth_eq (He.meth_ok (cd.fact 82 (f := .meth "Row" "depth") rfl)) (of_decide_eq_true (bAt c.more 12 (b := decide (He.ma K (He.ga K "Row") "depth" = He.ma K (He.ga K "Work") "depth")) rfl))) (meth_eq (He.meth_ok (cd.fact 93 (f := .meth "Bundle" "depth") rfl)) (of_decide_eq_true (bAt c.more 13 (b := decide (He.ma K (He.ga K "Bundle") "depth" = He.ma K (He.ga K "Work") "depth")) rfl)))) (FunD.bindsN F_Work_depth fun _ _ _ _ _ _ us hl => match us, hl with | [_], _ => rfl) ih)
  have h_m_depth : HasV P w K mg base (cW K) "depth" 8 (fun y : Pl => y) (fun y : Pl => (y.parts.length ≤ 1000 ∧ Small y) ∧ y.depth < 7) (fun y : Pl => []) rInt (fun y => (y.depth : Int)) := HasV.mk cl (ofW (c := cW K) (p := fun C => Meth K C "depth" (He.ma K (He.ga K "Work") "depth")) (meth_eq (He.meth_ok (cd.fact 71 (f := .meth "Leaf" "depth") rfl)) (of_decide_eq_true (bAt c.more 11 (b := decide (He.ma K (He.ga K "Leaf") "depth" = He.ma K (He.ga K "Work") "depth")) rfl))) (meth_eq (He.meth_ok (cd.fact 82 (f := .meth "Row" "depth") rfl)) (of_decide_eq_true (bAt c.more 12 (b := decide (He.ma K (He.ga K "Row") "depth" = He.ma K (He.ga K "Work") "depth")) rfl))) (meth_eq (He.meth_ok (cd.fact 93 (f := .meth "Bundle" "depth") rfl)) (of_decide_eq_true (bAt c.more 13 (b := decide (He.ma K (He.ga K "Bundle") "depth" = He.ma K (He.ga K "Work") "depth")) rfl)))) (FunD.bindsN F_Work_depth fun _ _ _ _ _ _ us hl => match us, hl with | [_], _ => rfl) (o_Work_depth 7)
  have o_Leaf_leaves := ok_Leaf_leaves (P := P) (w := w) (base := base) F_Leaf_leaves T
  have o_Work_leaves : ∀ d : Nat, FnOk P w K mg base (CXL P w) (1 + d) (He.fAd K d_Work_leaves.at_) fd_Work_leaves ["self"] (sp_Work_leaves K d) := by
    intro d
    induction d with
    | zero => exact fn_vac (vac_O (fun y h => absurd h.2 (Nat.not_lt_zero _)))
    | succ d ih => exact ok_Work_leaves F_Work_leaves T (HasVO.mk2 cl (He.meth_ok (cd.fact 73 (f := .meth "Leaf" "leaves") rfl)) (FunD.bindsN F_Leaf_leaves fun _ _ _ _ _ _ us hl => match us, hl with | [_], _ => rfl) o_Leaf_leaves (by omega) (meth_eq (He.meth_ok (cd.fact 84 (f := .meth "Row" "leaves") rfl)) (of_decide_eq_true (bAt c.more 16 (b := decide (He.ma K (He.ga K "Row") "leaves" = He.ma K (He.ga K "Work") "leaves")) rfl))) (meth_eq (He.meth_ok (cd.fact 95 (f := .meth "Bundle" "leaves") rfl)) (of_decide_eq_true (bAt c.more 17 (b := decide (He.ma K (He.ga K "Bundle") "leaves" = He.ma K (He.ga K "Work") "leaves")) rfl))) (FunD.bindsN F_Work_leaves fun _ _ _ _ _ _ us hl => match us, hl with | [_], _ => rfl) ih (fun y hy => ⟨fun z => ⟨z, hy.1⟩, fun z => ⟨⟨z, hy.1⟩, hy.2⟩⟩))
  have h_m_leaves : HasVO P w K mg base (cW K) "leaves" 8 (fun y : Pl => y) (fun y : Pl => (y.names.length ≤ 1000) ∧ y.depth < 7) (fun y : Pl => []) (fun y => oLst (rWk K (cW K)) (y.leaves)) := HasVO.mk2 cl (He.meth_ok (cd.fact 73 (f := .meth "Leaf" "leaves") rfl)) (FunD.bindsN F_Leaf_leaves fun _ _ _ _ _ _ us hl => match us, hl with | [_], _ => rfl) o_Leaf_leaves (by omega) (meth_eq (He.meth_ok (cd.fact 84 (f := .meth "Row" "leaves") rfl)) (of_decide_eq_true (bAt c.more 16 (b := decide (He.ma K (He.ga K "Row") "leaves" = He.ma K (He.ga K "Work") "leaves")) rfl))) (meth_eq (He.meth_ok (cd.fact 95 (f := .meth "Bundle" "leaves") rfl)) (of_decide_eq_true (bAt c.more 17 (b := decide (He.ma K (He.ga K "Bundle") "leaves" = He.ma K (He.ga K "Work") "leaves")) rfl))) (FunD.bindsN F_Work_leaves fun _ _ _ _ _ _ us hl => match us, hl with | [_], _ => rfl) (o_Work_leaves 7) (fun y hy => ⟨fun z => ⟨z, hy.1⟩, fun z => ⟨⟨z, hy.1⟩, hy.2⟩⟩)
  have o_Work_work_of : ∀ d : Nat, FnOk P w K mg base (CXL P w) (1 + d) (He.fAd K d_Work_work_of.at_) fd_Work_work_of ["self", "name"] (sp_Work_work_of K d) := by
    intro d
    induction d with
    | zero => exact fn_vac (vac_P (fun y h => absurd h (Nat.not_lt_zero _)))
    | succ d ih => exact ok_Work_work_of F_Work_work_of T (HasV.mk cl (ofW (c := cW K) (p := fun C => Meth K C "work_of" (He.ma K (He.ga K "Work") "work_of")) (meth_eq (He.meth_ok (cd.fact 80 (f := .meth "Leaf" "work_of") rfl)) (of_decide_eq_true (bAt c.more 30 (b := decide (He.ma K (He.ga K "Leaf") "work_of" = He.ma K (He.ga K "Work") "work_of")) rfl))) (meth_eq (He.meth_ok (cd.fact 91 (f := .meth "Row" "work_of") rfl)) (of_decide_eq_true (bAt c.more 31 (b := decide (He.ma K (He.ga K "Row") "work_of" = He.ma K (He.ga K "Work") "work_of")) rfl))) (meth_eq (He.meth_ok (cd.fact 102 (f := .meth "Bundle" "work_of") rfl)) (of_decide_eq_true (bAt c.more 32 (b := decide (He.ma K (He.ga K "Bundle") "work_of" = He.ma K (He.ga K "Work") "work_of")) rfl)))) (FunD.bindsN F_Work_work_of fun _ _ _ _ _ _ us hl => match us, hl with | [_, _], _ => rfl) ih)
  have h_m_work_of : HasV P w K mg base (cW K) "work_of" 8 (fun y : Pl × Str => y.1) (fun y : Pl × Str => y.1.depth < 7) (fun y : Pl × Str => [⟨rStr, y.2⟩]) (rOpt (rWk K (cW K))) (fun y => y.1.find y.2) := HasV.mk cl (ofW (c := cW K) (p := fun C => Meth K C "work_of" (He.ma K (He.ga K "Work") "work_of")) (meth_eq (He.meth_ok (cd.fact 80 (f := .meth "Leaf" "work_of") rfl)) (of_decide_eq_true (bAt c.more 30 (b := decide (He.ma K (He.ga K "Leaf") "work_of" = He.ma K (He.ga K "Work") "work_of")) rfl))) (meth_eq (He.meth_ok (cd.fact 91 (f := .meth "Row" "work_of") rfl)) (of_decide_eq_true (bAt c.more 31 (b := decide (He.ma K (He.ga K "Row") "work_of" = He.ma K (He.ga K "Work") "work_of")) rfl))) (meth_eq (He.meth_ok (cd.fact 102 (f := .meth "Bundle" "work_of") rfl)) (of_decide_eq_true (bAt c.more 32 (b := decide (He.ma K (He.ga K "Bundle") "work_of" = He.ma K (He.ga K "Work") "work_of")) rfl)))) (FunD.bindsN F_Work_work_of fun _ _ _ _ _ _ us hl => match us, hl with | [_, _], _ => rfl) (o_Work_work_of 7)
  have o_Work_weights := ok_Work_weights (P := P) (w := w) (base := base) F_Work_weights T
  have h_m_weights : HasV P w K mg base (cW K) "weights" 1 (fun y : Pl => y) (fun y : Pl => y.parts.length ≤ 1000) (fun y : Pl => []) rInt (fun y => y.weights) := HasV.mk cl (ofW (c := cW K) (p := fun C => Meth K C "weights" (He.ma K (He.ga K "Work") "weights")) (meth_eq (He.meth_ok (cd.fact 77 (f := .meth "Leaf" "weights") rfl)) (of_decide_eq_true (bAt c.more 23 (b := decide (He.ma K (He.ga K "Leaf") "weights" = He.ma K (He.ga K "Work") "weights")) rfl))) (meth_eq (He.meth_ok (cd.fact 88 (f := .meth "Row" "weights") rfl)) (of_decide_eq_true (bAt c.more 24 (b := decide (He.ma K (He.ga K "Row") "weights" = He.ma K (He.ga K "Work") "weights")) rfl))) (meth_eq (He.meth_ok (cd.fact 99 (f := .meth "Bundle" "weights") rfl)) (of_decide_eq_true (bAt c.more 25 (b := decide (He.ma K (He.ga K "Bundle") "weights" = He.ma K (He.ga K "Work") "weights")) rfl)))) (FunD.bindsN F_Work_weights fun _ _ _ _ _ _ us hl => match us, hl with | [_], _ => rfl) o_Work_weights
  have o_Leaf_far := ok_Leaf_far (P := P) (w := w) (base := base) F_Leaf_far T h_share
  have o_Work_far : ∀ d : Nat, FnOk P w K mg base (CXL P w) (4 + d) (He.fAd K d_Work_far.at_) fd_Work_far ["self", "did"] (sp_Work_far K d) := by
    intro d
    induction d with
    | zero => exact fn_vac (vac_P (fun y h => absurd h.2 (Nat.not_lt_zero _)))
    | succ d ih => exact ok_Work_far F_Work_far T (HasV.mk2 cl (He.meth_ok (cd.fact 72 (f := .meth "Leaf" "far") rfl)) (FunD.bindsN F_Leaf_far fun _ _ _ _ _ _ us hl => match us, hl with | [_, _], _ => rfl) o_Leaf_far (by omega) (meth_eq (He.meth_ok (cd.fact 83 (f := .meth "Row" "far") rfl)) (of_decide_eq_true (bAt c.more 14 (b := decide (He.ma K (He.ga K "Row") "far" = He.ma K (He.ga K "Work") "far")) rfl))) (meth_eq (He.meth_ok (cd.fact 94 (f := .meth "Bundle" "far") rfl)) (of_decide_eq_true (bAt c.more 15 (b := decide (He.ma K (He.ga K "Bundle") "far" = He.ma K (He.ga K "Work") "far")) rfl))) (FunD.bindsN F_Work_far fun _ _ _ _ _ _ us hl => match us, hl with | [_, _], _ => rfl) ih (fun y hy => ⟨fun z => ⟨z, hy.1⟩, fun z => ⟨⟨z, hy.1⟩, hy.2⟩⟩)) h_share h_plus h_of_it h_m_weights
  have h_m_far : HasV P w K mg base (cW K) "far" 11 (fun y : Pl × (List (Str × Int)) => y.1) (fun y : Pl × (List (Str × Int)) => (FarOk y.1 y.2) ∧ y.1.depth < 7) (fun y : Pl × (List (Str × Int)) => [⟨(rDic rInt), y.2⟩]) (rQ K) (fun y => y.1.far y.2) := HasV.mk2 cl (He.meth_ok (cd.fact 72 (f := .meth "Leaf" "far") rfl)) (FunD.bindsN F_Leaf_far fun _ _ _ _ _ _ us hl => match us, hl with | [_, _], _ => rfl) o_Leaf_far (by omega) (meth_eq (He.meth_ok (cd.fact 83 (f := .meth "Row" "far") rfl)) (of_decide_eq_true (bAt c.more 14 (b := decide (He.ma K (He.ga K "Row") "far" = He.ma K (He.ga K "Work") "far")) rfl))) (meth_eq (He.meth_ok (cd.fact 94 (f := .meth "Bundle" "far") rfl)) (of_decide_eq_true (bAt c.more 15 (b := decide (He.ma K (He.ga K "Bundle") "far" = He.ma K (He.ga K "Work") "far")) rfl))) (FunD.bindsN F_Work_far fun _ _ _ _ _ _ us hl => match us, hl with | [_, _], _ => rfl) (o_Work_far 7) (fun y hy => ⟨fun z => ⟨z, hy.1⟩, fun z => ⟨⟨z, hy.1⟩, hy.2⟩⟩)
  have hu := unb_of (bAt c.more 8 (b := unbB K (He.ga K "Work") "__init__") rfl)
  have h_Work : HasU P w K mg base "Work" (He.ga K "Work") "__init__" 2 (sp_Work_init K) := HasU.mk0 T.c_Work hu (FunD.bindsN F_Work_init fun _ _ _ _ _ _ us hl => match us, hl with | [_, _], _ => rfl) (ok_Work_init (P := P) (w := w) (base := base) F_Work_init T h_is_name)
  have o_Leaf := ok_Leaf_init (P := P) (w := w) (base := base) F_Leaf_init T h_is_number h_Work
  have mk_L : Mk K (cW K).L (He.ma K (He.ga K "Leaf") "__init__") := He.mkr_ok (cd.fact 56 (f := .mkr "Leaf") rfl)
  have h_Leaf : HasI P w K mg base "Leaf" (cW K).L 3 (sp_Leaf_init K) := HasI.mkD (dvs := []) T.c_Leaf mk_L (FunD.binds1 (dvs := [V.non]) (ps := ["self", "name", "steps"]) F_Leaf_init 3 1 (by simp) rfl fun T kV doc pm an cdv ct us its l1 l2 => match us, its, l1, l2 with | [_, _, _], [_], _, _ => ⟨_, rfl, rfl⟩) o_Leaf (fun vs H Q z => by rw [List.append_nil]; exact z)
  have h_Leaf1 : HasI P w K mg base "Leaf" (cW K).L 3 (sp_Leaf1 K) := HasI.mkD (dvs := [.non]) T.c_Leaf mk_L (FunD.binds1 (dvs := [V.non]) (ps := ["self", "name", "steps"]) F_Leaf_init 2 0 (by simp) rfl fun T kV doc pm an cdv ct us its l1 l2 => match us, its, l1, l2 with | [_, _], [_], _, _ => ⟨_, rfl, rfl⟩) o_Leaf leaf1_imp
  have h_LeafK : HasK P w K mg base "Leaf" (cW K).L ["steps"] 3 (sp_Leaf_init K) := by
    obtain ⟨its, kb⟩ := FunD.kbindsD (dvs := [V.non]) (ps := ["self", "name", "steps"]) F_Leaf_init 2 ["steps"] (fun {α} us ds ws => us ++ ws) (by simp) (fun h1 _ h3 => h1.append h3) (fun T kV doc pm an cdv ct us its ws l1 l2 l3 => match us, its, ws, l1, l2, l3 with | [_, _], [_], [_], _, _, _ => ⟨_, rfl, rfl⟩)
    exact ⟨_, fd_Leaf_init, _, _, _, T.c_Leaf, mk_L, kb, o_Leaf, fun _ _ _ => rfl⟩
  have h_Row : HasI P w K mg base "Row" (cW K).R 9 (sp_Lot_initF K true) := HasI.mk0 T.c_Row (mk_eq (He.mkr_ok (cd.fact 58 (f := .mkr "Row") rfl)) (of_decide_eq_true (bAt c.more 9 (b := decide (He.ma K (He.ga K "Row") "__init__" = He.ma K (He.ga K "Lot") "__init__")) rfl))) (FunD.bindsN F_Lot_init fun _ _ _ _ _ _ us hl => match us, hl with | [_, _, _], _ => rfl) (ok_Lot_initF (P := P) (w := w) (base := base) true F_Lot_init T h_are_parts h_Work h_m_names h_m_depth)
  have h_Bundle : HasI P w K mg base "Bundle" (cW K).B 9 (sp_Lot_initF K false) := HasI.mk0 T.c_Bundle (mk_eq (He.mkr_ok (cd.fact 60 (f := .mkr "Bundle") rfl)) (of_decide_eq_true (bAt c.more 10 (b := decide (He.ma K (He.ga K "Bundle") "__init__" = He.ma K (He.ga K "Lot") "__init__")) rfl))) (FunD.bindsN F_Lot_init fun _ _ _ _ _ _ us hl => match us, hl with | [_, _, _], _ => rfl) (ok_Lot_initF (P := P) (w := w) (base := base) false F_Lot_init T h_are_parts h_Work h_m_names h_m_depth)
  have o_Row_anew := ok_Row_anew (P := P) (w := w) (base := base) F_Row_anew T h_Row
  have o_Bundle_anew := ok_Bundle_anew (P := P) (w := w) (base := base) F_Bundle_anew T h_Bundle
  have h_m_anew : HasV P w K mg base (cW K) "anew" 11 (fun y : Pl × (List (Int × Pl)) => y.1) (fun y : Pl × (List (Int × Pl)) => y.1.isLeaf = false ∧ LotOk y.1.isRow y.1.name y.2 ∧ y.1.name.length ≤ 1000) (fun y : Pl × (List (Int × Pl)) => [⟨(rLst (rT2 K rInt (rWk K (cW K)))), y.2⟩]) (rWk K (cW K)) (fun y => Pl.lot y.1.isRow y.1.name y.2) := HasV.mkRB cl (He.meth_ok (cd.fact 81 (f := .meth "Row" "anew") rfl)) (FunD.bindsN F_Row_anew fun _ _ _ _ _ _ us hl => match us, hl with | [_, _], _ => rfl) o_Row_anew (He.meth_ok (cd.fact 92 (f := .meth "Bundle" "anew") rfl)) (FunD.bindsN F_Bundle_anew fun _ _ _ _ _ _ us hl => match us, hl with | [_, _], _ => rfl) o_Bundle_anew (fun y hy => ⟨hy.1, fun z => ⟨z, hy.2⟩, fun z => ⟨z, hy.2⟩⟩)
  have o_Leaf_with_leaf := ok_Leaf_with_leaf (P := P) (w := w) (base := base) F_Leaf_with_leaf T
  have o_Work_with_leaf : ∀ d : Nat, FnOk P w K mg base (CXL P w) (12 + d) (He.fAd K d_Work_with_leaf.at_) fd_Work_with_leaf ["self", "name", "weight", "leaf"] (sp_Work_with_leaf K d) := by
    intro d
    induction d with
    | zero => exact fn_vac (vac_P (fun y h => absurd h.2 (Nat.not_lt_zero _)))
    | succ d ih => exact ok_Work_with_leaf F_Work_with_leaf T (HasV.mk2 cl (He.meth_ok (cd.fact 78 (f := .meth "Leaf" "with_leaf") rfl)) (FunD.bindsN F_Leaf_with_leaf fun _ _ _ _ _ _ us hl => match us, hl with | [_, _, _, _], _ => rfl) o_Leaf_with_leaf (by omega) (meth_eq (He.meth_ok (cd.fact 89 (f := .meth "Row" "with_leaf") rfl)) (of_decide_eq_true (bAt c.more 26 (b := decide (He.ma K (He.ga K "Row") "with_leaf" = He.ma K (He.ga K "Work") "with_leaf")) rfl))) (meth_eq (He.meth_ok (cd.fact 100 (f := .meth "Bundle" "with_leaf") rfl)) (of_decide_eq_true (bAt c.more 27 (b := decide (He.ma K (He.ga K "Bundle") "with_leaf" = He.ma K (He.ga K "Work") "with_leaf")) rfl))) (FunD.bindsN F_Work_with_leaf fun _ _ _ _ _ _ us hl => match us, hl with | [_, _, _, _], _ => rfl) ih (fun y hy => ⟨fun z => ⟨z, hy.1⟩, fun z => ⟨⟨z, hy.1⟩, hy.2⟩⟩)) h_m_anew
  have h_m_with_leaf : HasV P w K mg base (cW K) "with_leaf" 19 (fun y : Pl × Str × Int × Pl => y.1) (fun y : Pl × Str × Int × Pl => (PlanOk (Pl.withLeaf y.2.1 y.2.2.1 y.2.2.2 y.1)) ∧ y.1.depth < 7) (fun y : Pl × Str × Int × Pl => [⟨rStr, y.2.1⟩, ⟨rInt, y.2.2.1⟩, ⟨(rWk K (cW K)), y.2.2.2⟩]) (rWk K (cW K)) (fun y => Pl.withLeaf y.2.1 y.2.2.1 y.2.2.2 y.1) := HasV.mk2 cl (He.meth_ok (cd.fact 78 (f := .meth "Leaf" "with_leaf") rfl)) (FunD.bindsN F_Leaf_with_leaf fun _ _ _ _ _ _ us hl => match us, hl with | [_, _, _, _], _ => rfl) o_Leaf_with_leaf (by omega) (meth_eq (He.meth_ok (cd.fact 89 (f := .meth "Row" "with_leaf") rfl)) (of_decide_eq_true (bAt c.more 26 (b := decide (He.ma K (He.ga K "Row") "with_leaf" = He.ma K (He.ga K "Work") "with_leaf")) rfl))) (meth_eq (He.meth_ok (cd.fact 100 (f := .meth "Bundle" "with_leaf") rfl)) (of_decide_eq_true (bAt c.more 27 (b := decide (He.ma K (He.ga K "Bundle") "with_leaf" = He.ma K (He.ga K "Work") "with_leaf")) rfl))) (FunD.bindsN F_Work_with_leaf fun _ _ _ _ _ _ us hl => match us, hl with | [_, _, _, _], _ => rfl) (o_Work_with_leaf 7) (fun y hy => ⟨fun z => ⟨z, hy.1⟩, fun z => ⟨⟨z, hy.1⟩, hy.2⟩⟩)
  have o_Leaf_with_steps := ok_Leaf_with_steps (P := P) (w := w) (base := base) F_Leaf_with_steps T h_LeafK
  have o_Work_with_steps : ∀ d : Nat, FnOk P w K mg base (CXL P w) (12 + d) (He.fAd K d_Work_with_steps.at_) fd_Work_with_steps ["self", "name", "steps"] (sp_Work_with_steps K d) := by
    intro d
    induction d with
    | zero => exact fn_vac (vac_P (fun y h => absurd h.2 (Nat.not_lt_zero _)))
    | succ d ih => exact ok_Work_with_steps F_Work_with_steps T (HasV.mk2 cl (He.meth_ok (cd.fact 79 (f := .meth "Leaf" "with_steps") rfl)) (FunD.bindsN F_Leaf_with_steps fun _ _ _ _ _ _ us hl => match us, hl with | [_, _, _], _ => rfl) o_Leaf_with_steps (by omega) (meth_eq (He.meth_ok (cd.fact 90 (f := .meth "Row" "with_steps") rfl)) (of_decide_eq_true (bAt c.more 28 (b := decide (He.ma K (He.ga K "Row") "with_steps" = He.ma K (He.ga K "Work") "with_steps")) rfl))) (meth_eq (He.meth_ok (cd.fact 101 (f := .meth "Bundle" "with_steps") rfl)) (of_decide_eq_true (bAt c.more 29 (b := decide (He.ma K (He.ga K "Bundle") "with_steps" = He.ma K (He.ga K "Work") "with_steps")) rfl))) (FunD.bindsN F_Work_with_steps fun _ _ _ _ _ _ us hl => match us, hl with | [_, _, _], _ => rfl) ih (fun y hy => ⟨fun z => ⟨z, hy.1⟩, fun z => ⟨⟨z, hy.1⟩, hy.2⟩⟩)) h_m_anew
  have h_m_with_steps : HasV P w K mg base (cW K) "with_steps" 19 (fun y : Pl × Str × Int => y.1) (fun y : Pl × Str × Int => (PlanOk (Pl.withSteps y.2.1 y.2.2 y.1)) ∧ y.1.depth < 7) (fun y : Pl × Str × Int => [⟨rStr, y.2.1⟩, ⟨rInt, y.2.2⟩]) (rWk K (cW K)) (fun y => Pl.withSteps y.2.1 y.2.2 y.1) := HasV.mk2 cl (He.meth_ok (cd.fact 79 (f := .meth "Leaf" "with_steps") rfl)) (FunD.bindsN F_Leaf_with_steps fun _ _ _ _ _ _ us hl => match us, hl with | [_, _, _], _ => rfl) o_Leaf_with_steps (by omega) (meth_eq (He.meth_ok (cd.fact 90 (f := .meth "Row" "with_steps") rfl)) (of_decide_eq_true (bAt c.more 28 (b := decide (He.ma K (He.ga K "Row") "with_steps" = He.ma K (He.ga K "Work") "with_steps")) rfl))) (meth_eq (He.meth_ok (cd.fact 101 (f := .meth "Bundle" "with_steps") rfl)) (of_decide_eq_true (bAt c.more 29 (b := decide (He.ma K (He.ga K "Bundle") "with_steps" = He.ma K (He.ga K "Work") "with_steps")) rfl))) (FunD.bindsN F_Work_with_steps fun _ _ _ _ _ _ us hl => match us, hl with | [_, _, _], _ => rfl) (o_Work_with_steps 7) (fun y hy => ⟨fun z => ⟨z, hy.1⟩, fun z => ⟨⟨z, hy.1⟩, hy.2⟩⟩)
  obtain ⟨esF, nF, hDF⟩ := c.t.tab 0 rfl
  have h_FORMS : FormsOk K w mg := ⟨⟨_, esF, nF, He.glo_ok X G (cd.fact 114 (f := .glo "FORMS") rfl), hDF, fun t => by
    cases t with
    | did n k => exact He.valsB_ok (bAt c.more 36 (b := He.valsB K (He.ga K "FORMS") [("did", .int 3), ("knows", .int 3), ("found", .int 5), ("again", .int 2)]) rfl) (q := ("did", .int 3)) (by simp)
    | knows n k => exact He.valsB_ok (bAt c.more 36 (b := He.valsB K (He.ga K "FORMS") [("did", .int 3), ("knows", .int 3), ("found", .int 5), ("again", .int 2)]) rfl) (q := ("knows", .int 3)) (by simp)
    | found e w n s => exact He.valsB_ok (bAt c.more 36 (b := He.valsB K (He.ga K "FORMS") [("did", .int 3), ("knows", .int 3), ("found", .int 5), ("again", .int 2)]) rfl) (q := ("found", .int 5)) (by simp)
    | again n => exact He.valsB_ok (bAt c.more 36 (b := He.valsB K (He.ga K "FORMS") [("did", .int 3), ("knows", .int 3), ("found", .int 5), ("again", .int 2)]) rfl) (q := ("again", .int 2)) (by simp)
    ⟩⟩
  have o_is_telling := ok_is_telling (P := P) (w := w) (base := base) F_is_telling T h_is_number h_is_name h_FORMS
  have h_is_telling : Has P w K mg base "is_telling" 2 (sp_is_telling K) := Has.mk0 (He.glo_ok X G (cd.fact 10 (f := .glo "is_telling") rfl)) F_is_telling.kp (FunD.bindsN F_is_telling fun _ _ _ _ _ _ us hl => match us, hl with | [_], _ => rfl) o_is_telling
  have o_Course_init := ok_Course_init (P := P) (w := w) (base := base) F_Course_init T
  have h_Course : HasI P w K mg base "Course" (cCr K) 1 (ISp K) := HasI.mk0 T.c_Course (He.mkr_ok (cd.fact 105 (f := .mkr "Course") rfl)) (FunD.bindsN F_Course_init fun _ _ _ _ _ _ us hl => match us, hl with | [_, _], _ => rfl) o_Course_init
  have o_Course_far := ok_Course_far (P := P) (w := w) (base := base) F_Course_far T h_m_far
  have h_cr_far : HasM P w K mg base (cCr K) "far" 12 (sp_Course_far K) := HasM.mk0 T.cr.cls (He.meth_ok (cd.fact 109 (f := .meth "Course" "far") rfl)) (FunD.bindsN F_Course_far fun _ _ _ _ _ _ us hl => match us, hl with | [_], _ => rfl) o_Course_far
  have o_Course_find := ok_Course_find (P := P) (w := w) (base := base) F_Course_find T h_Leaf h_m_with_leaf
  have h_find : HasM P w K mg base (cCr K) "find" 20 (sp_Course_find K) := HasM.mk0 T.cr.cls (He.meth_ok (cd.fact 110 (f := .meth "Course" "find") rfl)) (FunD.bindsN F_Course_find fun _ _ _ _ _ _ us hl => match us, hl with | [_, _], _ => rfl) o_Course_find
  have o_Course_can := ok_Course_can (P := P) (w := w) (base := base) F_Course_can T h_m_work_of h_m_leaves h_m_with_steps h_find
  have h_can : HasM P w K mg base (cCr K) "can_take" 21 (sp_Course_can K) := HasM.mk0 T.cr.cls (He.meth_ok (cd.fact 111 (f := .meth "Course" "can_take") rfl)) (FunD.bindsN F_Course_can fun _ _ _ _ _ _ us hl => match us, hl with | [_, _], _ => rfl) o_Course_can
  have o_Course_take := ok_Course_take (P := P) (w := w) (base := base) F_Course_take T h_cr_far h_can h_is_telling h_less h_of_it h_parted h_is_more
  have h_take : HasM P w K mg base (cCr K) "take" 22 (sp_Course_take K) := HasM.mk0 T.cr.cls (He.meth_ok (cd.fact 112 (f := .meth "Course" "take") rfl)) (FunD.bindsN F_Course_take fun _ _ _ _ _ _ us hl => match us, hl with | [_, _], _ => rfl) o_Course_take
  have o_course_of := ok_course_of (P := P) (w := w) (base := base) F_course_of T h_Course h_cr_far h_take h_is_more
  have h_course_of : Has P w K mg base "course_of" 23 (sp_course_of K) := Has.mk0 (He.glo_ok X G (cd.fact 11 (f := .glo "course_of") rfl)) F_course_of.kp (FunD.bindsN F_course_of fun _ _ _ _ _ _ us hl => match us, hl with | [_, _], _ => rfl) o_course_of
  have h_course_ofP : Has P w K mg base "course_of" 23 (sp_course_ofP K) := h_course_of.sub course_ofP_imp
  have o_told := ok_told (P := P) (w := w) (base := base) F_told T h_course_of
  have h_told : Has P w K mg base "told" 24 (sp_told K) := Has.mk0 (He.glo_ok X G (cd.fact 12 (f := .glo "told") rfl)) F_told.kp (FunD.bindsN F_told fun _ _ _ _ _ _ us hl => match us, hl with | [_, _], _ => rfl) o_told
  have o_falls := ok_falls (P := P) (w := w) (base := base) F_falls T h_course_of
  have h_falls : Has P w K mg base "falls" 24 (sp_falls K) := Has.mk0 (He.glo_ok X G (cd.fact 13 (f := .glo "falls") rfl)) F_falls.kp (FunD.bindsN F_falls fun _ _ _ _ _ _ us hl => match us, hl with | [_, _], _ => rfl) o_falls
  have o_asked_work := ok_asked_work (P := P) (w := w) (base := base) F_asked_work T h_m_work_of
  have h_asked_work : Has P w K mg base "asked_work" 9 (sp_asked_work K) := Has.mk0 (He.glo_ok X G (cd.fact 14 (f := .glo "asked_work") rfl)) F_asked_work.kp (FunD.bindsN F_asked_work fun _ _ _ _ _ _ us hl => match us, hl with | [_, _], _ => rfl) o_asked_work
  have o_far := ok_far (P := P) (w := w) (base := base) F_far T h_course_ofP h_asked_work h_m_far
  have h_far : Has P w K mg base "far" 24 (sp_far K) := Has.mkD (dvs := []) (He.glo_ok X G (cd.fact 15 (f := .glo "far") rfl)) F_far.kp (FunD.binds1 (dvs := [V.non]) (ps := ["plan", "run", "name"]) F_far 3 1 (by simp) rfl fun T kV doc pm an cdv ct us its l1 l2 => match us, its, l1, l2 with | [_, _, _], [_], _, _ => ⟨_, rfl, rfl⟩) o_far (fun vs H Q z => by rw [List.append_nil]; exact z)
  have h_far2 : Has P w K mg base "far" 24 (sp_far2 K) := Has.mkD (dvs := [V.non]) (He.glo_ok X G (cd.fact 15 (f := .glo "far") rfl)) F_far.kp (FunD.binds1 (dvs := [V.non]) (ps := ["plan", "run", "name"]) F_far 2 0 (by simp) rfl fun T kV doc pm an cdv ct us its l1 l2 => match us, its, l1, l2 with | [_, _], [_], _, _ => ⟨_, rfl, rfl⟩) o_far far2_imp
  have o_worth_of : ∀ d : Nat, FnOk P w K mg base (CXL P w) (9 + d) (He.fAd K d_worth_of.at_) fd_worth_of ["plan", "name"] (sp_worth_of K d) := by
    intro d
    induction d with
    | zero => exact fn_vac (vac_P (fun y h => absurd h.2 (Nat.not_lt_zero _)))
    | succ d ih => exact ok_worth_of F_worth_of T (Has.mk0 (He.glo_ok X G (cd.fact 16 (f := .glo "worth_of") rfl)) F_worth_of.kp (FunD.bindsN F_worth_of fun _ _ _ _ _ _ us hl => match us, hl with | [_, _], _ => rfl) ih) h_m_work_of h_share h_of_it h_m_weights
  have h_worth_of : Has P w K mg base "worth_of" 16 (sp_worth_of K 7) := Has.mk0 (He.glo_ok X G (cd.fact 16 (f := .glo "worth_of") rfl)) F_worth_of.kp (FunD.bindsN F_worth_of fun _ _ _ _ _ _ us hl => match us, hl with | [_, _], _ => rfl) (o_worth_of 7)
  have o_worth := ok_worth (P := P) (w := w) (base := base) F_worth T h_course_ofP h_asked_work h_worth_of
  have h_worth : Has P w K mg base "worth" 24 (sp_worth K) := Has.mkD (dvs := []) (He.glo_ok X G (cd.fact 17 (f := .glo "worth") rfl)) F_worth.kp (FunD.binds1 (dvs := [V.non]) (ps := ["plan", "name", "run"]) F_worth 3 1 (by simp) rfl fun T kV doc pm an cdv ct us its l1 l2 => match us, its, l1, l2 with | [_, _, _], [_], _, _ => ⟨_, rfl, rfl⟩) o_worth (fun vs H Q z => by rw [List.append_nil]; exact z)
  have h_worth2 : Has P w K mg base "worth" 24 (sp_worth2 K) := Has.mkD (dvs := [V.non]) (He.glo_ok X G (cd.fact 17 (f := .glo "worth") rfl)) F_worth.kp (FunD.binds1 (dvs := [V.non]) (ps := ["plan", "name", "run"]) F_worth 2 0 (by simp) rfl fun T kV doc pm an cdv ct us its l1 l2 => match us, its, l1, l2 with | [_, _], [_], _, _ => ⟨_, rfl, rfl⟩) o_worth worth2_imp
  have o_is_pace := ok_is_pace (P := P) (w := w) (base := base) F_is_pace T h_is_number
  have h_is_pace : Has P w K mg base "is_pace" 2 (sp_is_pace K) := Has.mk0 (He.glo_ok X G (cd.fact 18 (f := .glo "is_pace") rfl)) F_is_pace.kp (FunD.bindsN F_is_pace fun _ _ _ _ _ _ us hl => match us, hl with | [_], _ => rfl) o_is_pace
  have o_Row_together := ok_Row_together (P := P) (w := w) (base := base) F_Row_together T
  have o_Bundle_together := ok_Bundle_together (P := P) (w := w) (base := base) F_Bundle_together T
  have h_m_together : HasV P w K mg base (cW K) "together" 1 (fun y : Pl × (List Int) => y.1) (fun y : Pl × (List Int) => y.1.isLeaf = false ∧ y.2 ≠ []) (fun y : Pl × (List Int) => [⟨(rLst rInt), y.2⟩]) rInt (fun y => togV y.1.isRow y.2) := HasV.mkRB cl (He.meth_ok (cd.fact 87 (f := .meth "Row" "together") rfl)) (FunD.bindsN F_Row_together fun _ _ _ _ _ _ us hl => match us, hl with | [_, _], _ => rfl) o_Row_together (He.meth_ok (cd.fact 98 (f := .meth "Bundle" "together") rfl)) (FunD.bindsN F_Bundle_together fun _ _ _ _ _ _ us hl => match us, hl with | [_, _], _ => rfl) o_Bundle_together (fun y hy => ⟨hy.1, fun z => ⟨z, hy.2⟩, fun z => ⟨z, hy.2⟩⟩)
  have o_Leaf_left := ok_Leaf_left (P := P) (w := w) (base := base) F_Leaf_left T
  have o_Work_left : ∀ d : Nat, FnOk P w K mg base (CXL P w) (2 + d) (He.fAd K d_Work_left.at_) fd_Work_left ["self", "did", "paces", "which"] (sp_Work_left K d) := by
    intro d
    induction d with
    | zero => exact fn_vac (vac_P (fun y h => absurd h.2 (Nat.not_lt_zero _)))
    | succ d ih => exact ok_Work_left F_Work_left T (HasV.mk2 cl (He.meth_ok (cd.fact 74 (f := .meth "Leaf" "left") rfl)) (FunD.bindsN F_Leaf_left fun _ _ _ _ _ _ us hl => match us, hl with | [_, _, _, _], _ => rfl) o_Leaf_left (by omega) (meth_eq (He.meth_ok (cd.fact 85 (f := .meth "Row" "left") rfl)) (of_decide_eq_true (bAt c.more 18 (b := decide (He.ma K (He.ga K "Row") "left" = He.ma K (He.ga K "Work") "left")) rfl))) (meth_eq (He.meth_ok (cd.fact 96 (f := .meth "Bundle" "left") rfl)) (of_decide_eq_true (bAt c.more 19 (b := decide (He.ma K (He.ga K "Bundle") "left" = He.ma K (He.ga K "Work") "left")) rfl))) (FunD.bindsN F_Work_left fun _ _ _ _ _ _ us hl => match us, hl with | [_, _, _, _], _ => rfl) ih (fun y hy => ⟨fun z => ⟨z, hy.1⟩, fun z => ⟨⟨z, hy.1⟩, hy.2⟩⟩)) h_m_together
  have h_m_left : HasV P w K mg base (cW K) "left" 9 (fun y : Pl × (List (Str × Int)) × (List (Str × (Int × Int))) × Int => y.1) (fun y : Pl × (List (Str × Int)) × (List (Str × (Int × Int))) × Int => (LeftOk y.1 y.2.1 y.2.2.1 ∧ (y.2.2.2 = 0 ∨ y.2.2.2 = 1)) ∧ y.1.depth < 7) (fun y : Pl × (List (Str × Int)) × (List (Str × (Int × Int))) × Int => [⟨(rDic rInt), y.2.1⟩, ⟨(rDic (rT2 K rInt rInt)), y.2.2.1⟩, ⟨rInt, y.2.2.2⟩]) (rOpt rInt) (fun y => Pl.leftV y.2.1 y.2.2.1 y.2.2.2 y.1) := HasV.mk2 cl (He.meth_ok (cd.fact 74 (f := .meth "Leaf" "left") rfl)) (FunD.bindsN F_Leaf_left fun _ _ _ _ _ _ us hl => match us, hl with | [_, _, _, _], _ => rfl) o_Leaf_left (by omega) (meth_eq (He.meth_ok (cd.fact 85 (f := .meth "Row" "left") rfl)) (of_decide_eq_true (bAt c.more 18 (b := decide (He.ma K (He.ga K "Row") "left" = He.ma K (He.ga K "Work") "left")) rfl))) (meth_eq (He.meth_ok (cd.fact 96 (f := .meth "Bundle" "left") rfl)) (of_decide_eq_true (bAt c.more 19 (b := decide (He.ma K (He.ga K "Bundle") "left" = He.ma K (He.ga K "Work") "left")) rfl))) (FunD.bindsN F_Work_left fun _ _ _ _ _ _ us hl => match us, hl with | [_, _, _, _], _ => rfl) (o_Work_left 7) (fun y hy => ⟨fun z => ⟨z, hy.1⟩, fun z => ⟨⟨z, hy.1⟩, hy.2⟩⟩)
  have o_left := ok_left (P := P) (w := w) (base := base) F_left T h_course_ofP h_is_pace h_m_left h_m_leaves
  have h_left : Has P w K mg base "left" 24 (sp_left K) := Has.mk0 (He.glo_ok X G (cd.fact 19 (f := .glo "left") rfl)) F_left.kp (FunD.bindsN F_left fun _ _ _ _ _ _ us hl => match us, hl with | [_, _, _], _ => rfl) o_left
  have o__law_cell_at := ok__law_cell_at (P := P) (w := w) (base := base) F__law_cell_at T
  have h__law_cell_at : Has P w K mg base "_law_cell_at" 1 (sp__law_cell_at K) := Has.mk0 (He.glo_ok X G (cd.fact 20 (f := .glo "_law_cell_at") rfl)) F__law_cell_at.kp (FunD.bindsN F__law_cell_at fun _ _ _ _ _ _ us hl => match us, hl with | [_, _], _ => rfl) o__law_cell_at
  have o__law_share := ok__law_share (P := P) (w := w) (base := base) F__law_share T
  have h__law_share : Has P w K mg base "_law_share" 1 (sp__law_share K) := Has.mk0 (He.glo_ok X G (cd.fact 21 (f := .glo "_law_share") rfl)) F__law_share.kp (FunD.bindsN F__law_share fun _ _ _ _ _ _ us hl => match us, hl with | [_, _], _ => rfl) o__law_share
  have o__law_row_right := ok__law_row_right (P := P) (w := w) (base := base) F__law_row_right T h__law_cell_at h_Row h_Leaf h__law_share h_told h_falls h_far2 h_worth
  have h__law_row_right : Has P w K mg base "_law_row_right" 25 (sp__law_row_right K) := Has.mk0 (He.glo_ok X G (cd.fact 22 (f := .glo "_law_row_right") rfl)) F__law_row_right.kp (FunD.bindsN F__law_row_right fun _ _ _ _ _ _ us hl => match us, hl with | [_], _ => rfl) o__law_row_right
  have o__law_unknown_right := ok__law_unknown_right (P := P) (w := w) (base := base) F__law_unknown_right T h__law_cell_at h_Bundle h_Leaf h_Leaf1 h__law_share h_told h_falls h_left
  have h__law_unknown_right : Has P w K mg base "_law_unknown_right" 25 (sp__law_unknown_right K) := Has.mk0 (He.glo_ok X G (cd.fact 23 (f := .glo "_law_unknown_right") rfl)) F__law_unknown_right.kp (FunD.bindsN F__law_unknown_right fun _ _ _ _ _ _ us hl => match us, hl with | [_], _ => rfl) o__law_unknown_right
  have o__law_long_right := ok__law_long_right (P := P) (w := w) (base := base) F__law_long_right T h__law_cell_at h_Leaf h__law_share h_told h_falls h_left
  have h__law_long_right : Has P w K mg base "_law_long_right" 25 (sp__law_long_right K) := Has.mk0 (He.glo_ok X G (cd.fact 24 (f := .glo "_law_long_right") rfl)) F__law_long_right.kp (FunD.bindsN F__law_long_right fun _ _ _ _ _ _ us hl => match us, hl with | [_], _ => rfl) o__law_long_right
  have o_law := ok_law (P := P) (w := w) (base := base) F_law T h__law_row_right h__law_unknown_right h__law_long_right
  exact fn_quiet o_law fun vs H Q E E' z => z
end Hd
open PySem PySem.W PySem.Calls PyProof.Rows
set_option maxRecDepth 100000 in
set_option maxHeartbeats 0 in
theorem PySem.Challenge.cw_howfar_k14_whole_known_holds : PySem.Challenge.rw_howfar_k14_whole_known.Holds := by
  w_on; o_law
  refine HandSHeadRun.head_any (r := OpenLaw.row PySem.Challenge.rw_howfar_k14_whole_known) (q := view (OpenLaw.row PySem.Challenge.rw_howfar_k14_whole_known).prog [55]) (H := Hd.hk) (ob := Hd.ob) (M := 20000) (loose := Hd.names) (d := HandSHeadRun.topDef (OpenLaw.row PySem.Challenge.rw_howfar_k14_whole_known).prog 55) (kwd := []) Hd.ob_eq
    (by kernel_rfl) (fun s => by kernel_rfl) Hd.run (by kernel_rfl) (by kernel_rfl) (by kernel_rfl) (by rfl) (by first | assumption | decide +kernel) (by decide +kernel) ⟨rfl, rfl, rfl, rfl, rfl, by decide +kernel⟩ ?hw ?hc
  case hw => w_witness2
  case hc =>
    refine L2.walk_ofE (l := PySem.Challenge.rw_howfar_k14_whole_known) (n := 63) (k := 26) (x := "_law_script") (CX := L2.CX0) rfl (by decide) (by kernel_rfl) ⟨rfl, by decide, by decide⟩ ?F (fun _ _ _ _ z => z)
    intro w mg fa h Y G hmg0
    obtain ⟨K, KX, c⟩ := Y
    have hmg : mg ("law" : PySem.Str) = some (.ref fa) := by
      have e : (HandSHeadRun.topDef (OpenLaw.row PySem.Challenge.rw_howfar_k14_whole_known).prog 55).name = ("law" : PySem.Str) := by kernel_rfl
      rw [← e]
      exact hmg0
    obtain ⟨fd, hb, hF⟩ := Hd.facts (P := (PySem.Challenge.rw_howfar_k14_whole_known).prog) (w := w) KX G hmg c
    exact ⟨K, fd, Hf.sp_law K, KX, hb, fun H a ns hl _ hS => ⟨ns, H, hl, fun _ _ z => z, ⟨⟨a, _, rfl, hS, Hf.all2_ofInt ns⟩, trivial⟩, fun v G' H' _ hv => hv⟩, hF⟩


