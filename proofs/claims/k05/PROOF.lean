import PyProof.Rows.All
import Wide.All
import OpenK.AllK
import Wide.FinOn
import KE.KStateDown
import HandS.ForMost
import HandS.Exc
import HandS.WordsExc
import HandS.Defaults
import HandS.Conv
import HandS.Flow
import HandS.IsInst
import HandS.Codes
import HandS.Dict
import HandS.Star
import HandS.Iter
import HandS.Zip
import HandS.Text
import HandS.TupAny
import HandS.Style
import HandS.SortInts
import PyProof.Rows.TmSorted
import PyProof.Rows.SortStr
import KE.KeyNested
import PyProof.DictRoadsH
import PyProof.Rows.TupTab
import HandS.Head0
import HandS.Head1
import HandS.Head2
import HandS.HeadEnd
import HandS.HeadHook1
import HandS.HeadHook2
import KE.KOpsOwn
import KE.KExcSuper
import HandS.ExcInit
import HandS.ExcField
import KE.SortData
import HandS.DictTup
import PyProof.DictMoreH
import HandS.NoneIn
import HandS.SetFor
import HandS.Strs
import KE.DataCmp
import HandS.Replace
import HandS.ReplaceList
import KE.KDictSum
import KE.KDictCopyH
import KE.KCallOwn
import HandS.FStr
import HandS.ExcValue
import HandS.Deep
import HandS.ExcOwn
import KE.KExcIs
import HandS.Property
import HandS.MakeKwOnly
import PySem.Challenge.RW_gluedlines_k05_patterns_joined
set_option Elab.async false
set_option linter.all false
set_option maxRecDepth 100000
set_option maxHeartbeats 4000000
set_option synthInstance.maxSize 1000
set_option synthInstance.maxHeartbeats 400000
namespace Gl
open PySem PySem.Spec PyProof.Rows L2

/-! ## partial results -/
def gd {α : Type} (b : Bool) (x : Option α) : Option α := match b with
  | true => x
  | false => none
theorem gd_some {α : Type} {b : Bool} {x : Option α} {r : α} (h : gd b x = some r) : b = true ∧ x = some r := by
  cases b with
  | true => exact ⟨rfl, h⟩
  | false => cases h
theorem gd_true {α : Type} {b : Bool} {x : Option α} (h : b = true) : gd b x = x := by rw [h]; rfl
theorem bd_some {α β : Type} {x : Option α} {k : α → Option β} {r : β} (h : x.bind k = some r) : ∃ a, x = some a ∧ k a = some r := by
  cases x with
  | none => cases h
  | some a => exact ⟨a, rfl, h⟩
/-- how a block ends: it goes on, it breaks off its loop, or it returns -/
inductive Ctl (S R : Type) where
  | nx (s : S) | bk (s : S) | rt (r : R)

/-! ## values that stand for Lean's -/
theorem pGet {α β : Type} {R : α → β → Prop} : ∀ {xs : List α} {ys : List β} {i : Nat} {y : β}, Paired R xs ys → ys[i]? = some y → ∃ x, xs[i]? = some x ∧ R x y
  | _, _, _, _, .nil, e => by simp at e
  | _, _, 0, _, .cons r _, e => by simp at e; subst e; exact ⟨_, rfl, r⟩
  | _, _, i + 1, y, .cons _ t, e => by
    obtain ⟨x, h1, h2⟩ := pGet (i := i) (y := y) t (by simpa using e)
    exact ⟨x, by simpa using h1, h2⟩
theorem pGetL {α β : Type} {R : α → β → Prop} : ∀ {xs : List α} {ys : List β} {i : Nat} {x : α}, Paired R xs ys → xs[i]? = some x → ∃ y, ys[i]? = some y ∧ R x y
  | _, _, _, _, .nil, e => by simp at e
  | _, _, 0, _, .cons r _, e => by simp at e; subst e; exact ⟨_, rfl, r⟩
  | _, _, i + 1, y, .cons _ t, e => by
    obtain ⟨x, h1, h2⟩ := pGetL (i := i) (x := y) t (by simpa using e)
    exact ⟨x, by simpa using h1, h2⟩
theorem pApp {α β : Type} {R : α → β → Prop} : ∀ {xs xs' : List α} {ys ys' : List β}, Paired R xs ys → Paired R xs' ys' → Paired R (xs ++ xs') (ys ++ ys')
  | _, _, _, _, .nil, s => s
  | _, _, _, _, .cons r t, s => .cons r (pApp t s)
theorem pDrop {α β : Type} {R : α → β → Prop} : ∀ {xs : List α} {ys : List β} (n : Nat), Paired R xs ys → Paired R (xs.drop n) (ys.drop n)
  | _, _, 0, r => r
  | _, _, _ + 1, .nil => .nil
  | _, _, n + 1, .cons _ t => pDrop n t
theorem pTake {α β : Type} {R : α → β → Prop} : ∀ {xs : List α} {ys : List β} (n : Nat), Paired R xs ys → Paired R (xs.take n) (ys.take n)
  | _, _, 0, _ => .nil
  | _, _, _ + 1, .nil => .nil
  | _, _, n + 1, .cons r t => .cons r (pTake n t)
theorem pSet {α β : Type} {R : α → β → Prop} {x : α} {y : β} (r : R x y) : ∀ {xs : List α} {ys : List β} (i : Nat), Paired R xs ys → Paired R (xs.set i x) (ys.set i y)
  | _, _, _, .nil => .nil
  | _, _, 0, .cons _ t => .cons r t
  | _, _, i + 1, .cons q t => .cons q (pSet r i t)
theorem pLen {α β : Type} {R : α → β → Prop} {xs : List α} {ys : List β} (h : Paired R xs ys) : xs.length = ys.length := h.length
theorem pMap {α β γ : Type} {R : α → β → Prop} {f : β → γ} {S : α → γ → Prop} (h : ∀ a b, R a b → S a (f b)) : ∀ {xs : List α} {ys : List β}, Paired R xs ys → Paired S xs (ys.map f)
  | _, _, .nil => .nil
  | _, _, .cons r t => .cons (h _ _ r) (pMap h t)

/-- how values stand for Lean's, in what stands for good -/
structure R (α : Type) where
  r : PySem.W.Frag → Hp → V → α → Prop
  mono : ∀ {K : PySem.W.Frag} {F F' : Hp} {v : V} {a : α}, Same F F' → r K F v a → r K F' v a
def qI : R Int := ⟨fun _ _ v i => v = .int i, fun _ h => h⟩
def qB : R Bool := ⟨fun _ _ v i => v = .bl i, fun _ h => h⟩
def qS : R Str := ⟨fun _ _ v i => v = .str i, fun _ h => h⟩
def qN : R Unit := ⟨fun _ _ v _ => v = .non, fun _ h => h⟩
def qO {α : Type} (A : R α) : R (Option α) := ⟨fun K F v i => match i with
  | none => v = .non
  | some a => A.r K F v a, fun {K F F' v a} e h => by
    cases a with
    | none => exact h
    | some a => exact A.mono e h⟩
/-- all of a row -/
abbrev Row {α : Type} (A : R α) (K : PySem.W.Frag) (F : Hp) (vs : List V) (xs : List α) : Prop := Paired (fun v x => A.r K F v x) vs xs
theorem Row.mono {α : Type} {A : R α} {K : PySem.W.Frag} {F F' : Hp} {vs : List V} {xs : List α} (e : Same F F') (h : Row A K F vs xs) : Row A K F' vs xs := Paired.mapP h fun _ _ r => A.mono e r
theorem same_t {K : PySem.W.Frag} {H H' : Hp} {a : Addr} {xs : List V} (e : Same H H') (h : SqT K H a xs) : SqT K H' a xs := by
  rcases h with (h | ⟨o, h⟩) | h
  · exact .inl (.inl (e _ _ h))
  · exact .inl (.inr ⟨o, e _ _ h⟩)
  · exact .inr h
/-- a list, a tuple, one of both -/
def qL {α : Type} (A : R α) : R (List α) := ⟨fun K F v xs => ∃ p vs, v = .ref p ∧ F p = some (.lst vs) ∧ Row A K F vs xs, fun e ⟨p, vs, h1, h2, h3⟩ => ⟨p, vs, h1, e _ _ h2, Row.mono e h3⟩⟩
def qT {α : Type} (A : R α) : R (List α) := ⟨fun K F v xs => ∃ p vs, v = .ref p ∧ SqT K F p vs ∧ Row A K F vs xs, fun e ⟨p, vs, h1, h2, h3⟩ => ⟨p, vs, h1, same_t e h2, Row.mono e h3⟩⟩
def qQ {α : Type} (A : R α) : R (List α) := ⟨fun K F v xs => (qL A).r K F v xs ∨ (qT A).r K F v xs, fun e h => h.elim (fun h => .inl ((qL A).mono e h)) fun h => .inr ((qT A).mono e h)⟩
/-- tuples of two, of three -/
def q2 {α β : Type} (A : R α) (B : R β) : R (α × β) := ⟨fun K F v x => ∃ p u w, v = .ref p ∧ SqT K F p [u, w] ∧ A.r K F u x.1 ∧ B.r K F w x.2, fun e ⟨p, u, w, h1, h2, h3, h4⟩ => ⟨p, u, w, h1, same_t e h2, A.mono e h3, B.mono e h4⟩⟩
def q3 {α β γ : Type} (A : R α) (B : R β) (C : R γ) : R (α × β × γ) := ⟨fun K F v x => ∃ p u w z, v = .ref p ∧ SqT K F p [u, w, z] ∧ A.r K F u x.1 ∧ B.r K F w x.2.1 ∧ C.r K F z x.2.2, fun e ⟨p, u, w, z, h1, h2, h3, h4, h5⟩ => ⟨p, u, w, z, h1, same_t e h2, A.mono e h3, B.mono e h4, C.mono e h5⟩⟩

/-! ## frozen and owned -/
/-- F: what stands for good within H; F0, H0: at the def's entry; P: what the def may change of it -/
structure Sx (P : Addr → Prop) (F0 H0 F H : Hp) : Prop where
  le : Same F0 F
  sub : Same F H
  new : ∀ a o, F a = some o → F0 a = none → H0 a = none
  same : ∀ a o, H0 a = some o → ¬ P a → H a = some o
  live : ∀ a, P a → H a ≠ none
/-- an object of the def's own: it may change it -/
structure Ow (P : Addr → Prop) (H0 F H : Hp) (p : Addr) (o : HO) : Prop where
  fr : F p = none
  at_ : H p = some o
  mine : H0 p = none ∨ P p
abbrev P0 : Addr → Prop := fun _ => False
section
variable {P P' : Addr → Prop} {F0 H0 F H F' H' : Hp} {p q : Addr} {o u : HO}
theorem Sx.refl (h : Same F H) (l : ∀ a, P a → H a ≠ none) : Sx P F H F H := ⟨Same.refl F, h, fun a o e n => absurd (n.symm.trans e) (fun z => nomatch z), fun _ _ e _ => e, l⟩
theorem Sx.refl0 (h : Same F H) : Sx P0 F H F H := Sx.refl h fun _ z => z.elim
theorem Sx.free (S : Sx P F0 H0 F H) (h : H q = none) : F q = none := S.sub.free h
theorem Sx.free0 (S : Sx P F0 H0 F H) (h : H q = none) : H0 q = none := by
  cases e : H0 q with
  | none => rfl
  | some o =>
    have np : ¬ P q := fun z => S.live q z h
    have := S.same q o e np
    rw [h] at this
    cases this
theorem Sx.leN (S : Sx P F0 H0 F H) (h : H q = none) : Same F (upd F q o) := fun a u e => by
  rw [upd_ne (ne_of_none e (S.free h))]
  exact e
/-- a new object that is not kept -/
theorem Sx.temp (S : Sx P F0 H0 F H) (h : H q = none) : Sx P F0 H0 F (upd H q o) := by
  refine ⟨S.le, fun a u e => ?_, S.new, fun a u e n => ?_, fun a z => ?_⟩
  · rw [upd_ne (ne_of_none (S.sub a u e) h)]; exact S.sub a u e
  · rw [upd_ne (ne_of_none (S.same a u e n) h)]; exact S.same a u e n
  · have l := S.live a z
    have ne : a ≠ q := fun e => l (by rw [e]; exact h)
    rw [upd_ne ne]; exact l
/-- a new object that stands for good -/
theorem Sx.alloc (S : Sx P F0 H0 F H) (h : H q = none) : Sx P F0 H0 (upd F q o) (upd H q o) := by
  refine ⟨S.le.trans (S.leN h), fun a u e => ?_, fun a u e n => ?_, (S.temp h).same, (S.temp h).live⟩
  · by_cases z : a = q
    · subst z; rw [upd_same] at e ⊢; exact e
    · rw [upd_ne z] at e ⊢; exact S.sub a u e
  · by_cases z : a = q
    · subst z; exact S.free0 h
    · rw [upd_ne z] at e; exact S.new a u e n
/-- an object of one's own is changed -/
theorem Sx.put (S : Sx P F0 H0 F H) (w : Ow P H0 F H p o) : Sx P F0 H0 F (upd H p u) := by
  refine ⟨S.le, fun a v e => ?_, S.new, fun a v e n => ?_, fun a z => ?_⟩
  · have ne : a ≠ p := fun z => by rw [z, w.fr] at e; cases e
    rw [upd_ne ne]; exact S.sub a v e
  · have ne : a ≠ p := fun z => by
      rcases w.mine with m | m
      · rw [z, m] at e; cases e
      · exact n (z ▸ m)
    rw [upd_ne ne]; exact S.same a v e n
  · by_cases e : a = p
    · subst e; rw [upd_same]; exact fun h => nomatch h
    · rw [upd_ne e]; exact S.live a z
/-- .. is let stand for good -/
theorem Sx.freeze (S : Sx P F0 H0 F H) (w : Ow P H0 F H p o) (h0 : H0 p = none) : Sx P F0 H0 (upd F p o) H := by
  refine ⟨S.le.trans fun a u e => ?_, fun a u e => ?_, fun a u e n => ?_, S.same, S.live⟩
  · rw [upd_ne (ne_of_none e w.fr)]; exact e
  · by_cases z : a = p
    · subst z; rw [upd_same] at e; cases e; exact w.at_
    · rw [upd_ne z] at e; exact S.sub a u e
  · by_cases z : a = p
    · subst z; exact h0
    · rw [upd_ne z] at e; exact S.new a u e n
theorem Ow.leF (w : Ow P H0 F H p o) : Same F (upd F p o) := fun a u e => by rw [upd_ne (ne_of_none e w.fr)]; exact e
/-- behind a call that may change P' -/
theorem Sx.call (S : Sx P F0 H0 F H) (c : Sx P' F H F' H') (h : ∀ a, P' a → P a ∨ H0 a = none) : Sx P F0 H0 F' H' := by
  refine ⟨S.le.trans c.le, c.sub, fun a u e n => ?_, fun a u e n => ?_, fun a z => ?_⟩
  · cases q : F a with
    | some o => exact S.new a o q n
    | none => exact S.free0 (c.new a u e q)
  · refine c.same a u (S.same a u e n) fun z => ?_
    rcases h a z with z | z
    · exact n z
    · rw [z] at e; cases e
  · by_cases y : P' a
    · exact c.live a y
    · have l := S.live a z
      cases e : H a with
      | none => exact absurd e l
      | some o =>
        rw [c.same a o e y]
        exact fun h => nomatch h
theorem Sx.call0 (S : Sx P F0 H0 F H) (c : Sx P0 F H F' H') : Sx P F0 H0 F' H' := S.call c fun _ z => z.elim
theorem Sx.call1 (S : Sx P F0 H0 F H) (c : Sx (fun a => a = p) F H F' H') (w : Ow P H0 F H p o) : Sx P F0 H0 F' H' := S.call c fun a z => by
  subst z
  exact w.mine.symm
theorem Ow.call (w : Ow P H0 F H p o) (c : Sx P' F H F' H') (n : ¬ P' p) : Ow P H0 F' H' p o := by
  refine ⟨?_, c.same p o w.at_ n, w.mine⟩
  cases q : F' p with
  | none => rfl
  | some u =>
    have z := c.new p u q w.fr
    rw [w.at_] at z
    cases z
theorem Ow.call0 (w : Ow P H0 F H p o) (c : Sx P0 F H F' H') : Ow P H0 F' H' p o := w.call c fun z => z
theorem Ow.ne (w : Ow P H0 F H p o) (h : H q = none) : p ≠ q := ne_of_none w.at_ h
theorem Ow.temp (w : Ow P H0 F H p o) (h : H q = none) : Ow P H0 F (upd H q u) p o := ⟨w.fr, by rw [upd_ne (w.ne h)]; exact w.at_, w.mine⟩
theorem Ow.alloc (w : Ow P H0 F H p o) (h : H q = none) : Ow P H0 (upd F q u) (upd H q u) p o := ⟨by rw [upd_ne (w.ne h)]; exact w.fr, by rw [upd_ne (w.ne h)]; exact w.at_, w.mine⟩
theorem Ow.put (w : Ow P H0 F H p o) : Ow P H0 F (upd H p u) p u := ⟨w.fr, upd_same, w.mine⟩
theorem Ow.putO {o' : HO} (w : Ow P H0 F H p o) (n : p ≠ q) : Ow P H0 F (upd H q o') p o := ⟨w.fr, by rw [upd_ne n]; exact w.at_, w.mine⟩
theorem Ow.freezeO {o' : HO} (w : Ow P H0 F H p o) (n : p ≠ q) : Ow P H0 (upd F q o') H p o := ⟨by rw [upd_ne n]; exact w.fr, w.at_, w.mine⟩
/-- a new object of one's own -/
theorem Sx.own (S : Sx P F0 H0 F H) (h : H q = none) : Ow P H0 F (upd H q o) q o := ⟨S.free h, upd_same, .inl (S.free0 h)⟩
/-- inside a callee's eyes: an own object handed in -/
theorem Ow.arg (w : Ow P H0 F H p o) : Ow (fun a => a = p) H F H p o := ⟨w.fr, w.at_, .inr rfl⟩
theorem Ow.back {o' : HO} (w : Ow P H0 F H p o) (z : Ow (fun a => a = p) H F' H' p o') : Ow P H0 F' H' p o' := ⟨z.fr, z.at_, w.mine⟩
end
end Gl

namespace Gl
open PySem PySem.Spec PyProof.Rows L2

/-! ## tests -/
theorem if_b {β : Type} {b : Bool} {A B : Prop} {m1 m2 : Option β} {r : β} (hm : (if b = true then m1 else m2) = some r) (h1 : b = true → m1 = some r → A) (h2 : b = false → m2 = some r → B) : if b = true then A else B := by
  cases b with
  | true => exact h1 rfl hm
  | false => exact h2 rfl hm
theorem if_j {b : Bool} {A B : Prop} (h1 : b = true → A) (h2 : b = false → B) : if b = true then A else B := by
  cases b with
  | true => exact h1 rfl
  | false => exact h2 rfl
/-- and, or: the right side is looked at alone, with whatever is wanted of it; what is known behind both is told once -/
theorem and_j {b : Bool} {u : (Bool → Hp → Prop) → Prop} {Q : Bool → Hp → Prop} {H : Hp} (J : Bool → Hp → Prop) (h1 : b = true → ∀ Q' : Bool → Hp → Prop, (∀ c H', J c H' → Q' c H') → u Q') (h2 : b = false → J false H) (k : ∀ c H', J c H' → Q c H') : if b = true then u Q else Q false H := by
  cases b with
  | true => exact h1 rfl Q k
  | false => exact k _ _ (h2 rfl)
theorem or_j {b : Bool} {u : (Bool → Hp → Prop) → Prop} {Q : Bool → Hp → Prop} {H : Hp} (J : Bool → Hp → Prop) (h1 : b = false → ∀ Q' : Bool → Hp → Prop, (∀ c H', J c H' → Q' c H') → u Q') (h2 : b = true → J true H) (k : ∀ c H', J c H' → Q c H') : if b = true then Q true H else u Q := by
  cases b with
  | true => exact k _ _ (h2 rfl)
  | false => exact h1 rfl Q k
theorem andV_j {b : Bool} {u : VK → Prop} {Q : VK} {H : Hp} (J : V → Hp → Prop) (h1 : b = true → ∀ Q' : VK, (∀ c H', J c H' → Q' c H') → u Q') (h2 : b = false → J (.bl false) H) (k : ∀ c H', J c H' → Q c H') : if b = true then u Q else Q (.bl false) H := by
  cases b with
  | true => exact h1 rfl Q k
  | false => exact k _ _ (h2 rfl)
theorem orV_j {b : Bool} {u : VK → Prop} {Q : VK} {H : Hp} (J : V → Hp → Prop) (h1 : b = false → ∀ Q' : VK, (∀ c H', J c H' → Q' c H') → u Q') (h2 : b = true → J (.bl true) H) (k : ∀ c H', J c H' → Q c H') : if b = true then Q (.bl true) H else u Q := by
  cases b with
  | true => exact k _ _ (h2 rfl)
  | false => exact h1 rfl Q k
/-- .. where the right side leaves the heap as it is -/
theorem and_p {b c : Bool} {u : (Bool → Hp → Prop) → Prop} {Q : Bool → Hp → Prop} {H : Hp} (hu : b = true → ∀ Q' : Bool → Hp → Prop, Q' c H → u Q') (k : Q (b && c) H) : if b = true then u Q else Q false H := by
  cases b with
  | true => exact hu rfl Q k
  | false => exact k
theorem or_p {b c : Bool} {u : (Bool → Hp → Prop) → Prop} {Q : Bool → Hp → Prop} {H : Hp} (hu : b = false → ∀ Q' : Bool → Hp → Prop, Q' c H → u Q') (k : Q (b || c) H) : if b = true then Q true H else u Q := by
  cases b with
  | true => exact k
  | false => exact hu rfl Q k
theorem andV_p {b c : Bool} {u : VK → Prop} {Q : VK} {H : Hp} (hu : b = true → ∀ Q' : VK, Q' (.bl c) H → u Q') (k : Q (.bl (b && c)) H) : if b = true then u Q else Q (.bl false) H := by
  cases b with
  | true => exact hu rfl Q k
  | false => exact k
theorem orV_p {b c : Bool} {u : VK → Prop} {Q : VK} {H : Hp} (hu : b = false → ∀ Q' : VK, Q' (.bl c) H → u Q') (k : Q (.bl (b || c)) H) : if b = true then Q (.bl true) H else u Q := by
  cases b with
  | true => exact k
  | false => exact hu rfl Q k

/-! ## operators on plain values -/
section
variable {X : Cx}
theorem op_eqI : OpR X (compareOp .Eq) (rI0 fun i j => .bl (decide (i = j))) := opB0 fun _ _ _ _ _ _ _ h => eq_int (by rw [Bool.beq_eq_decide_eq]; exact h)
theorem op_neI : OpR X (compareOp .NotEq) (rI0 fun i j => .bl (!decide (i = j))) := opB0 fun _ _ _ _ _ _ _ h => ne_int (by rw [bne, Bool.beq_eq_decide_eq]; exact h)
def rS0 (g : Str → Str → V) : R2 := fun x y H Q => ∃ i j, x = .str i ∧ y = .str j ∧ Q (g i j) H
theorem dec_strV {i j : Str} : decide (V.str i = V.str j) = decide (i = j) := by
  by_cases e : i = j
  · subst e; simp
  · rw [decide_eq_false e, decide_eq_false fun z => e (V.str.inj z)]
theorem dec_blV {i j : Bool} : decide (V.bl i = V.bl j) = decide (i = j) := by cases i <;> cases j <;> rfl
theorem op_eqS : OpR X (compareOp .Eq) (rS0 fun i j => .bl (decide (i = j))) := by
  intro pins s σ H x y v u Q I rx ry h
  obtain ⟨i, j, rfl, rfl, q⟩ := h
  exact op_eq pins s σ H _ _ v u Q I rx ry ⟨rfl, by rw [dec_strV]; exact q⟩
theorem op_neS : OpR X (compareOp .NotEq) (rS0 fun i j => .bl (!decide (i = j))) := by
  intro pins s σ H x y v u Q I rx ry h
  obtain ⟨i, j, rfl, rfl, q⟩ := h
  exact op_ne pins s σ H _ _ v u Q I rx ry ⟨rfl, by rw [dec_strV]; exact q⟩
def rB0 (g : Bool → Bool → V) : R2 := fun x y H Q => ∃ i j, x = .bl i ∧ y = .bl j ∧ Q (g i j) H
theorem op_eqB : OpR X (compareOp .Eq) (rB0 fun i j => .bl (decide (i = j))) := by
  intro pins s σ H x y v u Q I rx ry h
  obtain ⟨i, j, rfl, rfl, q⟩ := h
  exact op_eq pins s σ H _ _ v u Q I rx ry ⟨rfl, by rw [dec_blV]; exact q⟩
theorem op_neB : OpR X (compareOp .NotEq) (rB0 fun i j => .bl (!decide (i = j))) := by
  intro pins s σ H x y v u Q I rx ry h
  obtain ⟨i, j, rfl, rfl, q⟩ := h
  exact op_ne pins s σ H _ _ v u Q I rx ry ⟨rfl, by rw [dec_blV]; exact q⟩
end
/-- i stands in j -/
def inS (i j : Str) : Bool := !(Builtin.Str.occurrences j i 0 j.length 1).isEmpty
def mulOk (a b : Int) : Bool := (decide (-(2 ^ 64) < a) && decide (a < 2 ^ 64)) || (decide (-(2 ^ 64) < b) && decide (b < 2 ^ 64))
theorem mulOk_of {a b : Int} (h : mulOk a b = true) : CMul a b := by
  unfold mulOk at h
  simp only [Bool.or_eq_true, Bool.and_eq_true, decide_eq_true_eq] at h
  exact h
def divOk (b : Int) : Bool := decide (0 < b) && decide (b < 1073741824)
theorem divOk_of {a b : Int} (h : divOk b = true) : CDiv a b := by
  unfold divOk at h
  simp only [Bool.and_eq_true, decide_eq_true_eq] at h
  exact h
def modOk (b : Int) : Bool := decide (0 < b)
theorem modOk_of {b : Int} (h : modOk b = true) : 0 < b := of_decide_eq_true h
def powOk (a b : Int) : Bool := decide (0 ≤ b) && (decide (b ≤ 1000000) && decide (a.natAbs < 2 ^ 64))
theorem powOk_of {a b : Int} (h : powOk a b = true) : CPow a b := by
  unfold powOk at h
  simp only [Bool.and_eq_true, decide_eq_true_eq] at h
  exact h
def catOk (a b : Str) : Bool := decide (a.length + b.length ≤ sizeLine)
theorem catOk_of {a b : Str} (h : catOk a b = true) : a.length + b.length ≤ sizeLine := of_decide_eq_true h
def fits {α : Type} (a : List α) : Bool := decide (a.length < sizeLine)
def fitsS (a : Str) : Bool := decide (a.length ≤ sizeLine)
theorem fitsS_of {a : Str} (h : fitsS a = true) : a.length ≤ sizeLine := of_decide_eq_true h
def fits2 {α : Type} (a b : List α) : Bool := decide (a.length + b.length ≤ sizeLine)
def ixS (s : Str) (i : Int) : Option Str := gd (fitsS s) ((atI s.cps.toList i).bind fun c => some ⟨#[c]⟩)
theorem ixS_some {s z : Str} {i : Int} (h : ixS s i = some z) : ∃ c, s.length ≤ sizeLine ∧ atI s.cps.toList i = some c ∧ z = ⟨#[c]⟩ := by
  obtain ⟨h1, h2⟩ := gd_some h
  obtain ⟨c, h3, h4⟩ := bd_some h2
  exact ⟨c, fitsS_of h1, h3, (Option.some.inj h4).symm⟩
/-- xs[lo:hi] -/
def cut {α : Type} (xs : List α) (lo hi : Option Int) : List α := (xs.drop (HT.sIx xs.length 0 lo)).take (HT.sIx xs.length xs.length hi - HT.sIx xs.length 0 lo)
def rng (a b : Int) : List Int := (List.range (b - a).toNat).map fun i => a + (i : Nat)
def maxI (i j : Int) : Int := if j > i then j else i
def minI (i j : Int) : Int := if j < i then j else i
def b2I (b : Bool) : Int := if b then 1 else 0
/-- the sgns of a text, one by one -/
def sgns (z : Str) : List Str := z.cps.toList.map fun c => ⟨#[c]⟩

/-! ## what is seen of rows -/
section
variable {α : Type} {A : R α} {K : PySem.W.Frag} {F H F0 H0 : Hp} {P : Addr → Prop} {v : V} {xs ys : List α} {Q : VK} {i : Int} {a : α} {p : Addr} {vs : List V}
def SeenL (A : R α) (K : PySem.W.Frag) (F H : Hp) (v : V) (xs : List α) : Prop := ∃ p vs, v = .ref p ∧ H p = some (.lst vs) ∧ Row A K F vs xs
def SeenR (A : R α) (K : PySem.W.Frag) (F H : Hp) (v : V) (xs : List α) : Prop := ∃ p vs, v = .ref p ∧ SqL K H p vs ∧ Row A K F vs xs
def SeenT (A : R α) (K : PySem.W.Frag) (F H : Hp) (v : V) (xs : List α) : Prop := ∃ p vs, v = .ref p ∧ SqT K H p vs ∧ Row A K F vs xs
def SeenQ (A : R α) (K : PySem.W.Frag) (F H : Hp) (v : V) (xs : List α) : Prop := SeenR A K F H v xs ∨ SeenT A K F H v xs
theorem SeenL.r (h : SeenL A K F H v xs) : SeenR A K F H v xs := let ⟨p, vs, h1, h2, h3⟩ := h; ⟨p, vs, h1, SqL.of h2, h3⟩
theorem Sx.l (S : Sx P F0 H0 F H) (r : (qL A).r K F v xs) : SeenL A K F H v xs := let ⟨p, vs, h1, h2, h3⟩ := r; ⟨p, vs, h1, S.sub _ _ h2, h3⟩
theorem Sx.t (S : Sx P F0 H0 F H) (r : (qT A).r K F v xs) : SeenT A K F H v xs := let ⟨p, vs, h1, h2, h3⟩ := r; ⟨p, vs, h1, same_t S.sub h2, h3⟩
theorem Sx.q (S : Sx P F0 H0 F H) (r : (qQ A).r K F v xs) : SeenQ A K F H v xs := r.elim (fun r => .inl (S.l r).r) fun r => .inr (S.t r)
theorem Ow.l (w : Ow P H0 F H p (.lst vs)) (r : Row A K F vs xs) : SeenL A K F H (.ref p) xs := ⟨p, vs, rfl, w.at_, r⟩
theorem SeenL.q (h : SeenL A K F H v xs) : SeenQ A K F H v xs := .inl h.r
theorem SeenR.q (h : SeenR A K F H v xs) : SeenQ A K F H v xs := .inl h
theorem SeenT.q (h : SeenT A K F H v xs) : SeenQ A K F H v xs := .inr h
theorem SeenQ.seq (h : SeenQ A K F H v xs) : ∃ p vs, v = .ref p ∧ (SqL K H p vs ∨ SqT K H p vs) ∧ Row A K F vs xs := by
  rcases h with ⟨p, vs, rfl, h, r⟩ | ⟨p, vs, rfl, h, r⟩
  · exact ⟨p, vs, rfl, .inl h, r⟩
  · exact ⟨p, vs, rfl, .inr h, r⟩
/-- the script -/
def qC : R (List Int) := ⟨fun K F v xs => ∃ p, v = .ref p ∧ SqL K F p (xs.map V.int), fun e ⟨p, h1, h2⟩ => ⟨p, h1, Same.seq e h2⟩⟩
theorem row_ints {K : PySem.W.Frag} {F : Hp} : ∀ xs : List Int, Row qI K F (xs.map V.int) xs
  | [] => .nil
  | _ :: xs => .cons rfl (row_ints xs)
theorem Sx.c {xs : List Int} (S : Sx P F0 H0 F H) (r : qC.r K F v xs) : SeenR qI K F H v xs := let ⟨p, h1, h2⟩ := r; ⟨p, _, h1, Same.seq S.sub h2, row_ints xs⟩
theorem row_at (r : Row A K F vs xs) (h : atI xs i = some a) : ∃ u, atI vs i = some u ∧ A.r K F u a := by
  unfold atI at h ⊢
  rw [pLen r]
  obtain ⟨j, h1, h2⟩ := bd_some h
  obtain ⟨u, h3, h4⟩ := pGet r h2
  exact ⟨u, by rw [h1]; exact h3, h4⟩
theorem row_cut (r : Row A K F vs xs) (lo hi : Option Int) : Row A K F (cutV vs lo hi) (cut xs lo hi) := by
  unfold cutV cut
  rw [pLen r]
  exact pTake _ (pDrop _ r)
theorem rd_ixL (s : SeenR A K F H v xs) (h : atI xs i = some a) (k : ∀ u, A.r K F u a → Q u H) : rIxL K v (.int i) H Q := by
  obtain ⟨p, vs, rfl, h1, r⟩ := s
  obtain ⟨u, h2, h3⟩ := row_at r h
  exact ⟨p, vs, i, u, rfl, rfl, h1, h2, k u h3⟩
theorem rd_ixT (s : SeenT A K F H v xs) (h : atI xs i = some a) (k : ∀ u, A.r K F u a → Q u H) : rIxT K v (.int i) H Q := by
  obtain ⟨p, vs, rfl, h1, r⟩ := s
  obtain ⟨u, h2, h3⟩ := row_at r h
  exact ⟨p, vs, i, u, rfl, rfl, h1, h2, k u h3⟩
theorem rd_ixQ (s : SeenQ A K F H v xs) (h : atI xs i = some a) (k : ∀ u, A.r K F u a → Q u H) : rIx K v (.int i) H Q := by
  rcases s with s | s
  · exact .inl (rd_ixL s h k)
  · exact .inr (.inl (rd_ixT s h k))
theorem rd_len (s : SeenQ A K F H v xs) (k : Q (.int (xs.length : Int)) H) : ∃ p ys, [v] = [V.ref p] ∧ (SqL K H p ys ∨ SqT K H p ys) ∧ Q (.int (ys.length : Int)) H := by
  obtain ⟨p, vs, rfl, h1, r⟩ := s.seq
  exact ⟨p, vs, rfl, h1, by rw [pLen r]; exact k⟩
/-- what is wanted of a new object; of a new list, tuple with such items -/
def nK (Q : VK) (H : Hp) (o : HO) : Prop := ∀ p, H p = none → Q (.ref p) (upd H p o)
def nL (A : R α) (K : PySem.W.Frag) (F : Hp) (Q : VK) (H : Hp) (xs : List α) : Prop := ∀ p us, H p = none → Row A K F us xs → Q (.ref p) (upd H p (.lst us))
def nT (A : R α) (K : PySem.W.Frag) (F : Hp) (Q : VK) (H : Hp) (xs : List α) : Prop := ∀ p us, H p = none → Row A K F us xs → Q (.ref p) (upd H p (.tup us))
theorem rd_slL {lo hi : Option Int} (s : SeenR A K F H v xs) (k : nL A K F Q H (cut xs lo hi)) : rSlL K v lo hi H Q := by
  obtain ⟨p, vs, rfl, h1, r⟩ := s
  exact ⟨p, vs, rfl, h1, fun q hq => k q _ hq (row_cut r lo hi)⟩
theorem rd_list (s : SeenQ A K F H v xs) (k : nL A K F Q H xs) : ∃ p ys, [v] = [V.ref p] ∧ (SqL K H p ys ∨ SqT K H p ys) ∧ ∀ l, H l = none → Q (.ref l) (upd H l (.lst ys)) := by
  obtain ⟨p, vs, rfl, h1, r⟩ := s.seq
  exact ⟨p, vs, rfl, h1, fun q hq => k q _ hq r⟩
theorem rd_tuple (s : SeenR A K F H v xs) (k : nT A K F Q H xs) : kTup K v H Q := by
  obtain ⟨p, vs, rfl, h1, r⟩ := s
  exact .inl ⟨p, vs, rfl, h1, fun q hq => k q _ hq r⟩
theorem rd_cat (s : SeenL A K F H v xs) {w : V} (t : SeenL A K F H w ys) (h : fits2 xs ys = true) (k : nL A K F Q H (xs ++ ys)) : rCat v w H Q := by
  obtain ⟨p, vs, rfl, h1, r⟩ := s
  obtain ⟨q, us, rfl, h2, r2⟩ := t
  exact ⟨p, q, vs, us, rfl, rfl, h1, h2, by rw [pLen r, pLen r2]; exact of_decide_eq_true h, fun z hz => k z _ hz (pApp r r2)⟩
theorem rd_app (w : Ow P H0 F H p (.lst vs)) (r : Row A K F vs xs) {y : V} (h : fits xs = true) (k : Q .non (upd H p (.lst (vs ++ [y])))) : rAppend (.ref p) [y] H Q :=
  ⟨p, vs, y, rfl, rfl, w.at_, by rw [pLen r]; exact of_decide_eq_true h, k⟩
theorem rd_extend (w : Ow P H0 F H p (.lst vs)) (r : Row A K F vs xs) {b : V} {ys : List α} (s : SeenL A K F H b ys) (h : fits2 xs ys = true) (k : ∀ us, Row A K F us ys → Q .non (upd H p (.lst (vs ++ us)))) : rExtend (.ref p) [b] H Q := by
  obtain ⟨q, us, rfl, h2, r2⟩ := s
  exact ⟨p, q, vs, us, rfl, rfl, w.at_, h2, by rw [pLen r, pLen r2]; exact of_decide_eq_true h, k us r2⟩
theorem Ow.ty (w : Ow P H0 F H p (.lst vs)) : tyV K "list" (.ref p) H := .inl ⟨rfl, vs, SqL.of w.at_⟩
end
/-! ### in -/
theorem inV_str {K : PySem.W.Frag} {F : Hp} {a : Str} : ∀ {vs : List V} {xs : List Str}, Row qS K F vs xs → inV (.str a) vs = decide (a ∈ xs) ∧ vs.all flatV = true
  | _, _, .nil => ⟨rfl, rfl⟩
  | v :: vs, x :: xs, .cons r t => by
    obtain ⟨h1, h2⟩ := inV_str (a := a) t
    cases (show v = .str x from r)
    refine ⟨?_, ?_⟩
    · show (eqV (.str x) (.str a) || inV (.str a) vs) = _
      rw [h1]
      show ((x == a) || decide (a ∈ xs)) = decide (a ∈ x :: xs)
      by_cases e : a = x
      · subst e; simp
      · have e2 : (x == a) = false := beq_eq_false_iff_ne.mpr (Ne.symm e)
        rw [e2]; simp [e]
    · show (flatV (.str x) && vs.all flatV) = true
      rw [h2]; rfl
theorem inV_int {K : PySem.W.Frag} {F : Hp} {a : Int} : ∀ {vs : List V} {xs : List Int}, Row qI K F vs xs → inV (.int a) vs = decide (a ∈ xs) ∧ vs.all flatV = true
  | _, _, .nil => ⟨rfl, rfl⟩
  | v :: vs, x :: xs, .cons r t => by
    obtain ⟨h1, h2⟩ := inV_int (a := a) t
    cases (show v = .int x from r)
    refine ⟨?_, ?_⟩
    · show (eqV (.int x) (.int a) || inV (.int a) vs) = _
      rw [h1]
      show ((x == a) || decide (a ∈ xs)) = decide (a ∈ x :: xs)
      by_cases e : a = x
      · subst e; simp
      · have e2 : (x == a) = false := beq_eq_false_iff_ne.mpr (Ne.symm e)
        rw [e2]; simp [e]
    · show (flatV (.int x) && vs.all flatV) = true
      rw [h2]; rfl
section
variable {K : PySem.W.Frag} {F H : Hp} {v : V} {Q : VK}
theorem rd_inS {xs : List Str} {a : Str} (s : SeenQ qS K F H v xs) (k : Q (.bl (decide (a ∈ xs))) H) : rIn K false (.str a) v H Q := by
  obtain ⟨p, vs, rfl, h1, r⟩ := s.seq
  obtain ⟨e1, e2⟩ := inV_str (a := a) r
  exact ⟨p, vs, rfl, h1, rfl, e2, by show Q (.bl (inV (.str a) vs)) H; rw [e1]; exact k⟩
theorem rd_niS {xs : List Str} {a : Str} (s : SeenQ qS K F H v xs) (k : Q (.bl (!decide (a ∈ xs))) H) : rIn K true (.str a) v H Q := by
  obtain ⟨p, vs, rfl, h1, r⟩ := s.seq
  obtain ⟨e1, e2⟩ := inV_str (a := a) r
  exact ⟨p, vs, rfl, h1, rfl, e2, by show Q (.bl (!inV (.str a) vs)) H; rw [e1]; exact k⟩
theorem rd_inI {xs : List Int} {a : Int} (s : SeenQ qI K F H v xs) (k : Q (.bl (decide (a ∈ xs))) H) : rIn K false (.int a) v H Q := by
  obtain ⟨p, vs, rfl, h1, r⟩ := s.seq
  obtain ⟨e1, e2⟩ := inV_int (a := a) r
  exact ⟨p, vs, rfl, h1, rfl, e2, by show Q (.bl (inV (.int a) vs)) H; rw [e1]; exact k⟩
theorem rd_niI {xs : List Int} {a : Int} (s : SeenQ qI K F H v xs) (k : Q (.bl (!decide (a ∈ xs))) H) : rIn K true (.int a) v H Q := by
  obtain ⟨p, vs, rfl, h1, r⟩ := s.seq
  obtain ⟨e1, e2⟩ := inV_int (a := a) r
  exact ⟨p, vs, rfl, h1, rfl, e2, by show Q (.bl (!inV (.int a) vs)) H; rw [e1]; exact k⟩
end
/-! ### == of data -/
/-- what stands for Lean's in the library's data -/
structure Dat {α : Type} (A : R α) where
  d : α → PyData
  dp : ∀ {K : PySem.W.Frag} {F : Hp} {v : V} {a : α}, A.r K F v a → Dp K F v (d a)
  eq : ∀ a b : α, PyData.eqv (d a) (d b) = true ↔ a = b
mutual
theorem Dp.mono {K : PySem.W.Frag} {F F' : Hp} (e : Same F F') : ∀ {v : V} {d : PyData}, Dp K F v d → Dp K F' v d
  | _, _, .non => .non
  | _, _, .bl b => .bl b
  | _, _, .int i => .int i
  | _, _, .str x => .str x
  | _, _, .lst h a => .lst (Same.seq e h) (DpAll.mono e a)
  | _, _, .tup h a => .tup (same_t e h) (DpAll.mono e a)
theorem DpAll.mono {K : PySem.W.Frag} {F F' : Hp} (e : Same F F') : ∀ {vs : List V} {ds : List PyData}, DpAll K F vs ds → DpAll K F' vs ds
  | _, _, .nil => .nil
  | _, _, .cons h a => .cons (Dp.mono e h) (DpAll.mono e a)
end
def dI : Dat qI := ⟨.int, fun {K F v a} h => by cases (show v = .int a from h); exact .int a, fun a b => by simp [PyData.eqv]⟩
def dB : Dat qB := ⟨.bool, fun {K F v a} h => by cases (show v = .bl a from h); exact .bl a, fun a b => by simp [PyData.eqv]⟩
def dS : Dat qS := ⟨.str, fun {K F v a} h => by cases (show v = .str a from h); exact .str a, fun a b => by simp [PyData.eqv]⟩
theorem dpAll {α : Type} {A : R α} (D : Dat A) {K : PySem.W.Frag} {F : Hp} : ∀ {vs : List V} {xs : List α}, Row A K F vs xs → DpAll K F vs (xs.map D.d)
  | _, _, .nil => .nil
  | _, _, .cons r t => .cons (D.dp r) (dpAll D t)
theorem eqvAll_iff {α : Type} {A : R α} (D : Dat A) : ∀ xs ys : List α, PyData.eqvAll (xs.map D.d) (ys.map D.d) = true ↔ xs = ys
  | [], [] => by simp [PyData.eqvAll]
  | [], _ :: _ => by simp [PyData.eqvAll]
  | _ :: _, [] => by simp [PyData.eqvAll]
  | x :: xs, y :: ys => by
    show (PyData.eqv (D.d x) (D.d y) && PyData.eqvAll (xs.map D.d) (ys.map D.d)) = true ↔ _
    rw [Bool.and_eq_true, D.eq x y, eqvAll_iff D xs ys]
    simp
def dL {α : Type} {A : R α} (D : Dat A) : Dat (qL A) := ⟨fun xs => .list (xs.map D.d), fun {K F v a} h => by
    obtain ⟨p, vs, rfl, h2, h3⟩ := h
    exact .lst (SqL.of h2) (dpAll D h3), fun a b => eqvAll_iff D a b⟩
def dT {α : Type} {A : R α} (D : Dat A) : Dat (qT A) := ⟨fun xs => .tuple (xs.map D.d), fun {K F v a} h => by
    obtain ⟨p, vs, rfl, h2, h3⟩ := h
    exact .tup h2 (dpAll D h3), fun a b => eqvAll_iff D a b⟩
def d2 {α β : Type} {A : R α} {B : R β} (D : Dat A) (E : Dat B) : Dat (q2 A B) := ⟨fun x => .tuple [D.d x.1, E.d x.2], fun {K F v a} h => by
    obtain ⟨p, u, w, rfl, h2, h3, h4⟩ := h
    exact .tup h2 (.cons (D.dp h3) (.cons (E.dp h4) .nil)), fun a b => by
    show (PyData.eqv (D.d a.1) (D.d b.1) && (PyData.eqv (E.d a.2) (E.d b.2) && true)) = true ↔ _
    rw [Bool.and_eq_true, Bool.and_eq_true, D.eq, E.eq]
    obtain ⟨a1, a2⟩ := a
    obtain ⟨b1, b2⟩ := b
    simp⟩
def shp {α : Type} {A : R α} (D : Dat A) (a : α) : Bool := SeqAt.shaped (D.d a)
section
variable {α : Type} {A : R α} {K : PySem.W.Frag} {F H F0 H0 : Hp} {P : Addr → Prop} {v w : V} {a b : α} {Q : VK} [DecidableEq α]
theorem SeenR.dp {α : Type} {A : R α} {K : PySem.W.Frag} {F H : Hp} {v : V} {xs : List α} (S : Same F H) (D : Dat A) (h : SeenR A K F H v xs) : Dp K H v (.list (xs.map D.d)) := let ⟨p, vs, h1, h2, h3⟩ := h; by subst h1; exact .lst h2 (dpAll D (Row.mono S h3))
theorem eqv_dec (D : Dat A) (a b : α) : PyData.eqv (D.d a) (D.d b) = decide (a = b) := by
  by_cases e : a = b
  · rw [(D.eq a b).mpr e, decide_eq_true e]
  · rw [decide_eq_false e]
    cases h : PyData.eqv (D.d a) (D.d b) with
    | false => rfl
    | true => exact absurd ((D.eq a b).mp h) e
/-- what is seen of a datum -/
def SeenD (D : Dat A) (K : PySem.W.Frag) (H : Hp) (v : V) (a : α) : Prop := Dp K H v (D.d a)
theorem Sx.d (S : Sx P F0 H0 F H) (D : Dat A) (r : A.r K F v a) : SeenD D K H v a := Dp.mono S.sub (D.dp r)
theorem rd_eqD {D : Dat A} (s : SeenD D K H v a) (t : SeenD D K H w b) (h1 : shp D a = true) (h2 : shp D b = true) (k : Q (.bl (decide (a = b))) H) : rEqD K v w H Q :=
  ⟨_, _, s, t, h1, h2, by rw [eqv_dec]; exact k⟩
theorem rd_neD {D : Dat A} (s : SeenD D K H v a) (t : SeenD D K H w b) (h1 : shp D a = true) (h2 : shp D b = true) (k : Q (.bl (!decide (a = b))) H) : rNeD K v w H Q :=
  ⟨_, _, s, t, h1, h2, by rw [eqv_dec]; exact k⟩
end
section
variable {α : Type} {A : R α} {K : PySem.W.Frag} {F H F0 H0 : Hp} {P : Addr → Prop} {p : Addr} {vs : List V} {xs : List α}
theorem Sx.cd {v : V} {xs : List Int} (S : Sx P F0 H0 F H) (r : qC.r K F v xs) : SeenD (dL dI) K H v xs := SeenR.dp S.sub dI (S.c r)
theorem Ow.d (w : Ow P H0 F H p (.lst vs)) (S : Sx P F0 H0 F H) (D : Dat A) (r : Row A K F vs xs) : SeenD (dL D) K H (.ref p) xs := .lst (SqL.of w.at_) (dpAll D (Row.mono S.sub r))
end
end Gl

namespace Gl
open PySem PySem.Spec PyProof.Rows L2

/-! ## loops -/
def loopS {α S : Type} (f : α → S → Option S) : List α → S → Option S
  | [], s => some s
  | x :: xs, s => (f x s).bind fun s' => loopS f xs s'
def loopC {α S ρ : Type} (f : α → S → Option (Ctl S ρ)) : List α → S → Option (Ctl S ρ)
  | [], s => some (.nx s)
  | x :: xs, s => (f x s).bind fun c => match c with
    | .nx s' => loopC f xs s'
    | .bk s' => some (.nx s')
    | .rt r => some (.rt r)
/-- behind a loop that may return -/
def aft {S ρ : Type} (c : Ctl S ρ) (k : S → Option ρ) : Option ρ := match c with
  | .nx s => k s
  | .bk s => k s
  | .rt r => some r
/-- the same within a loop -/
def aftC {S S' ρ : Type} (c : Ctl S ρ) (k : S → Option (Ctl S' ρ)) : Option (Ctl S' ρ) := match c with
  | .nx s => k s
  | .bk s => k s
  | .rt r => some (.rt r)
def fuel : Nat := 1000000000
def whileS {S : Type} (c : S → Option (Bool × S)) (f : S → Option S) : Nat → S → Option S
  | 0, _ => none
  | n + 1, s => (c s).bind fun b => if b.1 = true then (f b.2).bind fun s' => whileS c f n s' else some b.2
def whileC {S ρ : Type} (c : S → Option (Bool × S)) (f : S → Option (Ctl S ρ)) : Nat → S → Option (Ctl S ρ)
  | 0, _ => none
  | n + 1, s => (c s).bind fun b => if b.1 = true then (f b.2).bind fun c' => match c' with
    | .nx s' => whileC c f n s'
    | .bk s' => some (.nx s')
    | .rt r => some (.rt r) else some (.nx b.2)

/-- what an iterator hands out, one behind another -/
structure Feeds (J : It) (n : Nat) (G : Hp → Prop) (it : Nat → V → Prop) : Prop where
  go : ∀ i H, i < n → G H → J.go i H
  stop : ∀ H, G H → J.stop n H
  yld : ∀ i H x H', i < n → G H → J.yld i H x H' → H' = H ∧ it i x
theorem feedsL {K : PySem.W.Frag} {a : Addr} {vs : List V} : Feeds (Itl K a) vs.length (fun H => SqL K H a vs) (fun i x => vs[i]? = some x) :=
  ⟨fun i H h q => ⟨vs, vs[i], q, by simp [h]⟩, fun H q => ⟨vs, q, Nat.le_refl _⟩, fun i H x H' h q y => ⟨y.1, y.2 vs q⟩⟩
theorem feedsT {K : PySem.W.Frag} {a : Addr} {vs : List V} : Feeds (Itt K a) vs.length (fun H => SqT K H a vs) (fun i x => vs[i]? = some x) :=
  ⟨fun i H h q => ⟨vs, vs[i], q, by simp [h]⟩, fun H q => ⟨vs, q, Nat.le_refl _⟩, fun i H x H' h q y => ⟨y.1, y.2 vs q⟩⟩
theorem feedsR {lo : Int} {n : Nat} : Feeds (Itr lo n) n (fun _ => True) (fun i x => x = .int (lo + (i : Nat))) :=
  ⟨fun i H h _ => h, fun H _ => Nat.le_refl _, fun i H x H' h _ y => y⟩
theorem feedsS {z : Str} : Feeds (Its z) z.cps.size (fun _ => True) (fun i x => ∃ c, z.cps[i]? = some c ∧ x = .str ⟨#[c]⟩) :=
  ⟨fun i H h _ => h, fun H _ => Nat.le_refl _, fun i H x H' h _ y => y⟩
/-- the items are typed -/
structure Typed {α : Type} (A : R α) (K : PySem.W.Frag) (F : Hp) (n : Nat) (it : Nat → V → Prop) (xs : List α) : Prop where
  len : xs.length = n
  at_ : ∀ i x, it i x → ∃ a, xs[i]? = some a ∧ A.r K F x a
theorem typedRow {α : Type} {A : R α} {K : PySem.W.Frag} {F : Hp} {vs : List V} {xs : List α} (r : Row A K F vs xs) : Typed A K F vs.length (fun i x => vs[i]? = some x) xs :=
  ⟨(pLen r).symm, fun i x h => pGetL r h⟩
theorem typedR {K : PySem.W.Frag} {F : Hp} {a b : Int} : Typed qI K F (b - a).toNat (fun i x => i < (b - a).toNat ∧ x = .int (a + (i : Nat))) (rng a b) :=
  ⟨by unfold rng; simp, fun i x h => ⟨a + (i : Nat), by unfold rng; simp [h.1], h.2⟩⟩
theorem feedsRg {a b : Int} : Feeds (Itr a (b - a).toNat) (b - a).toNat (fun _ => True) (fun i x => i < (b - a).toNat ∧ x = .int (a + (i : Nat))) :=
  ⟨fun i H h _ => h, fun H _ => Nat.le_refl _, fun i H x H' h _ y => ⟨y.1, h, y.2⟩⟩
theorem typedS {K : PySem.W.Frag} {F : Hp} {z : Str} : Typed qS K F z.cps.size (fun i x => ∃ c, z.cps[i]? = some c ∧ x = .str ⟨#[c]⟩) (sgns z) :=
  ⟨by unfold sgns; simp, fun i x h => by
    obtain ⟨c, h1, h2⟩ := h
    exact ⟨⟨#[c]⟩, by unfold sgns; simp [h1], h2⟩⟩

abbrev ForG (J : It) (g : TG) (tb : TS) (D : Ends) (σ : L2.St) (H : Hp) : Prop :=
  ∃ W : Nat → Nat → L2.St → Hp → Prop, (∃ m, W 0 m σ H) ∧ ∀ i m σ H, W i m σ H →
    (J.stop i H ∧ D.nx σ H) ∨ (J.go i H ∧ ∃ N : L2.St → Hp → Prop, (∀ σ' H', N σ' H' → ∃ m', m' < m ∧ W (i + 1) m' σ' H') ∧ ∀ x H', J.yld i H x H' → g x σ H' fun σ2 H2 => tb { D with nx := N, ct := N, bk := D.nx } σ2 H2)
section
variable {J : It} {n : Nat} {G : Hp → Prop} {it : Nat → V → Prop} {α S ρ : Type} {A : R α} {K : PySem.W.Frag} {F : Hp} {xs : List α} {g : TG} {tb : TS} {σ : L2.St} {H : Hp} {Nx Bx Cx : L2.St → Hp → Prop} {Rx : VK}
theorem loopS_at {f : α → S → Option S} {i : Nat} {a : α} {s s1 : S} (h : loopS f (xs.drop i) s = some s1) (ha : xs[i]? = some a) : ∃ s', f a s = some s' ∧ loopS f (xs.drop (i + 1)) s' = some s1 := by
  have hi : i < xs.length := (List.getElem?_eq_some_iff.mp ha).1
  have e : xs.drop i = a :: xs.drop (i + 1) := by
    rw [List.drop_eq_getElem_cons hi]
    rw [(List.getElem?_eq_some_iff.mp ha).2]
  rw [e] at h
  exact bd_some h
theorem loopC_at {f : α → S → Option (Ctl S ρ)} {i : Nat} {a : α} {s : S} {c1 : Ctl S ρ} (h : loopC f (xs.drop i) s = some c1) (ha : xs[i]? = some a) : ∃ c, f a s = some c ∧ (match c with
    | .nx s' => loopC f (xs.drop (i + 1)) s'
    | .bk s' => some (.nx s')
    | .rt r => some (.rt r)) = some c1 := by
  have hi : i < xs.length := (List.getElem?_eq_some_iff.mp ha).1
  have e : xs.drop i = a :: xs.drop (i + 1) := by
    rw [List.drop_eq_getElem_cons hi]
    rw [(List.getElem?_eq_some_iff.mp ha).2]
  rw [e] at h
  exact bd_some h
/-- a loop that goes to its end -/
theorem rd_forS (Fd : Feeds J n G it) (Ty : Typed A K F n it xs) {f : α → S → Option S} {s0 s1 : S} (hm : loopS f xs s0 = some s1) (Iv : S → L2.St → Hp → Prop) (hG : ∀ s σ H, Iv s σ H → G H) (h0 : Iv s0 σ H)
    (turn : ∀ (a : α) (x : V) (s s' : S) (σ : L2.St) (H : Hp), A.r K F x a → Iv s σ H → f a s = some s' → g x σ H fun σ2 H2 => tb ⟨Iv s', Rx, Nx, Iv s'⟩ σ2 H2)
    (done : ∀ σ H, Iv s1 σ H → Nx σ H) : ForG J g tb ⟨Nx, Rx, Bx, Cx⟩ σ H := by
  refine ⟨fun i m σ H => m = n - i ∧ i ≤ n ∧ ∃ s, Iv s σ H ∧ loopS f (xs.drop i) s = some s1, ⟨n, by simp, Nat.zero_le _, s0, h0, hm⟩, ?_⟩
  rintro i m σ H ⟨rfl, hi, s, iv, hl⟩
  by_cases hlt : i < n
  · obtain ⟨a, ha⟩ : ∃ a, xs[i]? = some a := ⟨xs[i]'(by rw [Ty.len]; exact hlt), by simp [Ty.len, hlt]⟩
    obtain ⟨s', e1, e2⟩ := loopS_at hl ha
    refine .inr ⟨Fd.go i H hlt (hG s σ H iv), Iv s', fun σ' H' p' => ⟨n - (i + 1), by omega, rfl, hlt, s', p', e2⟩, fun x H' y => ?_⟩
    obtain ⟨rfl, hx⟩ := Fd.yld i H x H' hlt (hG s σ H iv) y
    obtain ⟨a', ha', r⟩ := Ty.at_ i x hx
    rw [ha] at ha'
    cases ha'
    exact turn a x s s' σ H' r iv e1
  · have e : i = n := by omega
    subst e
    rw [← Ty.len, List.drop_length] at hl
    cases hl
    exact .inl ⟨Fd.stop H (hG _ σ H iv), done σ H iv⟩
/-- a loop that may break off or return -/
theorem rd_forC (Fd : Feeds J n G it) (Ty : Typed A K F n it xs) {f : α → S → Option (Ctl S ρ)} {s0 : S} {c1 : Ctl S ρ} (hm : loopC f xs s0 = some c1) (Iv : S → L2.St → Hp → Prop) (hG : ∀ s σ H, Iv s σ H → G H) (h0 : Iv s0 σ H)
    (turn : ∀ (a : α) (x : V) (s : S) (c : Ctl S ρ) (σ : L2.St) (H : Hp), A.r K F x a → Iv s σ H → f a s = some c → (∀ s' σ' H', c = .bk s' → Iv s' σ' H' → Nx σ' H') → (∀ r, c = .rt r → c1 = .rt r) →
      g x σ H fun σ2 H2 => tb ⟨fun σ' H' => ∃ s', c = .nx s' ∧ Iv s' σ' H', Rx, Nx, fun σ' H' => ∃ s', c = .nx s' ∧ Iv s' σ' H'⟩ σ2 H2)
    (done : ∀ s σ H, c1 = .nx s → Iv s σ H → Nx σ H) : ForG J g tb ⟨Nx, Rx, Bx, Cx⟩ σ H := by
  refine ⟨fun i m σ H => m = n - i ∧ i ≤ n ∧ ∃ s, Iv s σ H ∧ loopC f (xs.drop i) s = some c1, ⟨n, by simp, Nat.zero_le _, s0, h0, hm⟩, ?_⟩
  rintro i m σ H ⟨rfl, hi, s, iv, hl⟩
  by_cases hlt : i < n
  · obtain ⟨a, ha⟩ : ∃ a, xs[i]? = some a := ⟨xs[i]'(by rw [Ty.len]; exact hlt), by simp [Ty.len, hlt]⟩
    obtain ⟨c, e1, e2⟩ := loopC_at hl ha
    refine .inr ⟨Fd.go i H hlt (hG s σ H iv), fun σ' H' => ∃ s', c = .nx s' ∧ Iv s' σ' H', fun σ' H' p' => ?_, fun x H' y => ?_⟩
    · obtain ⟨s', rfl, p'⟩ := p'
      exact ⟨n - (i + 1), by omega, rfl, hlt, s', p', e2⟩
    · obtain ⟨rfl, hx⟩ := Fd.yld i H x H' hlt (hG s σ H iv) y
      obtain ⟨a', ha', r⟩ := Ty.at_ i x hx
      rw [ha] at ha'
      cases ha'
      refine turn a x s c σ H' r iv e1 (fun s' σ' H' e p => ?_) fun r e => ?_
      · subst e
        exact done s' σ' H' (Option.some.inj e2).symm p
      · subst e
        exact (Option.some.inj e2).symm
  · have e : i = n := by omega
    subst e
    rw [← Ty.len, List.drop_length] at hl
    exact .inl ⟨Fd.stop H (hG _ σ H iv), done s σ H (Option.some.inj hl).symm iv⟩
end
section
variable {S ρ : Type} {c : TT} {tb : TS} {σ : L2.St} {H : Hp} {Nx Bx Cx : L2.St → Hp → Prop} {Rx : VK}
/-- while: the test may change the state; f: a turn -/
theorem rd_whileS {cm : S → Option (Bool × S)} {f : S → Option S} {N : Nat} {s0 s1 : S} (hm : whileS cm f N s0 = some s1) (Iv : S → L2.St → Hp → Prop) (h0 : Iv s0 σ H)
    (turn : ∀ (s : S) (b : Bool × S) (σ : L2.St) (H : Hp) (T : L2.St → Hp → Prop) (E : L2.St → Hp → Prop), Iv s σ H → cm s = some b → (∀ σ' H', b.1 = true → Iv b.2 σ' H' → T σ' H') → (∀ σ' H', b.1 = false → Iv b.2 σ' H' → E σ' H') → c σ H fun b H1 => if b = true then T σ H1 else E σ H1)
    (body : ∀ (s s' : S) (σ : L2.St) (H : Hp), Iv s σ H → f s = some s' → tb ⟨Iv s', Rx, Nx, Iv s'⟩ σ H)
    (done : ∀ σ H, Iv s1 σ H → Nx σ H) : tWhile c tb ⟨Nx, Rx, Bx, Cx⟩ σ H := by
  refine ⟨fun m σ H => ∃ s, Iv s σ H ∧ whileS cm f m s = some s1, ⟨N, s0, h0, hm⟩, ?_⟩
  rintro m σ H ⟨s, iv, h⟩
  cases m with
  | zero => cases h
  | succ m =>
    obtain ⟨b, e1, e2⟩ := bd_some h
    refine turn s b σ H (fun σ H1 => ∃ N : L2.St → Hp → Prop, (∀ σ' H', N σ' H' → ∃ m', m' < m + 1 ∧ ∃ s, Iv s σ' H' ∧ whileS cm f m' s = some s1) ∧ tb ⟨N, Rx, Nx, N⟩ σ H1) (fun σ H1 => Nx σ H1) iv e1 (fun σ' H' hb iv' => ?_) fun σ' H' hb iv' => ?_
    · rw [hb] at e2
      obtain ⟨s', e3, e4⟩ := bd_some (show ((f b.2).bind fun s' => whileS cm f m s') = some s1 from e2)
      exact ⟨Iv s', fun σ2 H2 p => ⟨m, Nat.lt_succ_self _, s', p, e4⟩, body b.2 s' σ' H' iv' e3⟩
    · rw [hb] at e2
      cases (show some b.2 = some s1 from e2)
      exact done σ' H' iv'
theorem rd_whileC {cm : S → Option (Bool × S)} {f : S → Option (Ctl S ρ)} {N : Nat} {s0 : S} {c1 : Ctl S ρ} (hm : whileC cm f N s0 = some c1) (Iv : S → L2.St → Hp → Prop) (h0 : Iv s0 σ H)
    (turn : ∀ (s : S) (b : Bool × S) (σ : L2.St) (H : Hp) (T : L2.St → Hp → Prop) (E : L2.St → Hp → Prop), Iv s σ H → cm s = some b → (∀ σ' H', b.1 = true → Iv b.2 σ' H' → T σ' H') → (∀ σ' H', b.1 = false → Iv b.2 σ' H' → E σ' H') → c σ H fun b H1 => if b = true then T σ H1 else E σ H1)
    (body : ∀ (s : S) (c' : Ctl S ρ) (σ : L2.St) (H : Hp), Iv s σ H → f s = some c' → (∀ s' σ' H', c' = .bk s' → Iv s' σ' H' → Nx σ' H') → (∀ r, c' = .rt r → c1 = .rt r) →
      tb ⟨fun σ' H' => ∃ s', c' = .nx s' ∧ Iv s' σ' H', Rx, Nx, fun σ' H' => ∃ s', c' = .nx s' ∧ Iv s' σ' H'⟩ σ H)
    (done : ∀ s σ H, c1 = .nx s → Iv s σ H → Nx σ H) : tWhile c tb ⟨Nx, Rx, Bx, Cx⟩ σ H := by
  refine ⟨fun m σ H => ∃ s, Iv s σ H ∧ whileC cm f m s = some c1, ⟨N, s0, h0, hm⟩, ?_⟩
  rintro m σ H ⟨s, iv, h⟩
  cases m with
  | zero => cases h
  | succ m =>
    obtain ⟨b, e1, e2⟩ := bd_some h
    refine turn s b σ H (fun σ H1 => ∃ N : L2.St → Hp → Prop, (∀ σ' H', N σ' H' → ∃ m', m' < m + 1 ∧ ∃ s, Iv s σ' H' ∧ whileC cm f m' s = some c1) ∧ tb ⟨N, Rx, Nx, N⟩ σ H1) (fun σ H1 => Nx σ H1) iv e1 (fun σ' H' hb iv' => ?_) fun σ' H' hb iv' => ?_
    · rw [hb] at e2
      obtain ⟨c', e3, e4⟩ := bd_some (show ((f b.2).bind fun c' => match c' with
        | .nx s' => whileC cm f m s'
        | .bk s' => some (.nx s')
        | .rt r => some (.rt r)) = some c1 from e2)
      refine ⟨fun σ' H' => ∃ s', c' = .nx s' ∧ Iv s' σ' H', fun σ2 H2 p => ?_, body b.2 c' σ' H' iv' e3 (fun s' σ2 H2 e p => ?_) fun r e => ?_⟩
      · obtain ⟨s', rfl, p⟩ := p
        exact ⟨m, Nat.lt_succ_self _, s', p, e4⟩
      · subst e
        exact done s' σ2 H2 (Option.some.inj e4).symm p
      · subst e
        exact (Option.some.inj e4).symm
    · rw [hb] at e2
      exact done b.2 σ' H' (Option.some.inj (show some (.nx b.2) = some c1 from e2)).symm iv'
end

/-! ## comprehensions -/
def fitsE {α : Type} (a : List α) : Bool := decide (a.length ≤ sizeLine)
/-- f: an item's value, if it is kept, and the state behind it -/
def comp {α β S : Type} (f : α → S → Option (Option β × S)) : List α → S → Option (List β × S)
  | [], s => some ([], s)
  | x :: xs, s => (f x s).bind fun o => (comp f xs o.2).bind fun r => some (match o.1 with
    | some y => (y :: r.1, r.2)
    | none => r)
/-- what a comprehension's loop asks -/
abbrev LcG (J : It) (g : TG) (tt : TT) (te : TE) (vs : List Nat) (σ : L2.St) (D : Addr) (Q : VK) (H1 : Hp) : Prop :=
  ∃ W : Nat → Nat → Hp → Prop, (∃ m, W 0 m (upd H1 D (.lst []))) ∧ ∀ i m H, W i m H →
  (J.stop i H ∧ Q (.ref D) H) ∨ (J.go i H ∧ ∃ Nx : Hp → Prop, (∀ H', Nx H' → ∃ m', m' < m ∧ W (i + 1) m' H') ∧ ∀ x H', J.yld i H x H' → g x (wipe σ vs) H' fun σ2 H2 => wipe σ2 vs = wipe σ vs ∧ tt σ2 H2 fun b H3 =>
    if b = true then te σ2 H3 fun y H4 => ∃ acc, H4 D = some (.lst acc) ∧ acc.length < sizeLine ∧ Nx (upd H4 D (.lst (acc ++ [y]))) else Nx H3)
section
variable {J : It} {n : Nat} {G : Hp → Prop} {it : Nat → V → Prop} {α β S : Type} {A : R α} {B : R β} {K : PySem.W.Frag} {F1 H1 : Hp} {xs : List α} {g : TG} {tt : TT} {te : TE} {vs : List Nat} {σ : L2.St} {Q : VK}
theorem comp_at {f : α → S → Option (Option β × S)} {i : Nat} {a : α} {s : S} {r : List β × S} (h : comp f (xs.drop i) s = some r) (ha : xs[i]? = some a) : ∃ o r', f a s = some o ∧ comp f (xs.drop (i + 1)) o.2 = some r' ∧ r = (match o.1 with
    | some y => (y :: r'.1, r'.2)
    | none => r') := by
  have hi : i < xs.length := (List.getElem?_eq_some_iff.mp ha).1
  have e : xs.drop i = a :: xs.drop (i + 1) := by
    rw [List.drop_eq_getElem_cons hi]
    rw [(List.getElem?_eq_some_iff.mp ha).2]
  rw [e] at h
  obtain ⟨o, e1, h2⟩ := bd_some h
  obtain ⟨r', e2, h3⟩ := bd_some h2
  exact ⟨o, r', e1, e2, (Option.some.inj h3).symm⟩
/-- c: the step from the comprehension's start (F1, H1); Ex: what holds of the objects that it changes (Pc) -/
theorem rd_comp (Fd : Feeds J n G it) (Ty : Typed A K F1 n it xs) {f : α → S → Option (Option β × S)} {s0 : S} {r : List β × S} (hm : comp f xs s0 = some r) (hz : fitsE xs = true) {Pc : Addr → Prop} (hlv : ∀ a, Pc a → H1 a ≠ none) (hsub : Same F1 H1) (Ex : S → Hp → Hp → Prop)
    (hG : ∀ s F H, Sx Pc F1 H1 F H → Ex s F H → G H) (h0 : Ex s0 F1 H1) (hEx : ∀ s F H q o, Ex s F H → H1 q = none → H q = none → Ex s F (upd H q o)) (hEp : ∀ s F H q u o, Ex s F H → H1 q = none → H q = some u → Ex s F (upd H q o))
    (turn : ∀ (a : α) (x : V) (s : S) (o : Option β × S) (F H : Hp) (D : Addr) (acc : List V), A.r K F1 x a → Sx Pc F1 H1 F H → Ex s F H → Ow Pc H1 F H D (.lst acc) → H1 D = none → f a s = some o →
      ∀ (E : Hp → Prop) (N : V → Hp → Prop), (∀ y b F' H', o.1 = some b → Sx Pc F H F' H' → B.r K F' y b → Ex o.2 F' H' → N y H') → (∀ F' H', o.1 = none → Sx Pc F H F' H' → Ex o.2 F' H' → E H') →
      g x (wipe σ vs) H fun σ2 H2 => wipe σ2 vs = wipe σ vs ∧ tt σ2 H2 fun b H3 => if b = true then te σ2 H3 N else E H3)
    (done : ∀ D us F H, H1 D = none → Sx Pc F1 H1 F H → Ex r.2 F H → Ow Pc H1 F H D (.lst us) → Row B K F us r.1 → Q (.ref D) H) : ∀ D, H1 D = none → LcG J g tt te vs σ D Q H1 := by
  intro D hD
  refine ⟨fun i m H => m = n - i ∧ i ≤ n ∧ ∃ s F acc ys r', Sx Pc F1 H1 F H ∧ Ex s F H ∧ Ow Pc H1 F H D (.lst acc) ∧ Row B K F acc ys ∧ acc.length ≤ i ∧ comp f (xs.drop i) s = some r' ∧ r = (ys ++ r'.1, r'.2), ⟨n, by simp, Nat.zero_le _, s0, F1, [], [], r, ?_, ?_, ?_, .nil, Nat.le_refl _, hm, rfl⟩, ?_⟩
  · exact (Sx.refl hsub hlv).temp hD
  · exact hEx _ _ _ _ _ h0 hD hD
  · exact (Sx.refl hsub hlv).own hD
  rintro i m H ⟨rfl, hi, s, F, acc, ys, r', S, ex, w, row, hal, hl, hr⟩
  by_cases hlt : i < n
  · obtain ⟨a, ha⟩ : ∃ a, xs[i]? = some a := ⟨xs[i]'(by rw [Ty.len]; exact hlt), by simp [Ty.len, hlt]⟩
    obtain ⟨o, r2, e1, e2, e3⟩ := comp_at hl ha
    refine .inr ⟨Fd.go i H hlt (hG s F H S ex), fun H' => ∃ s F acc ys r', Sx Pc F1 H1 F H' ∧ Ex s F H' ∧ Ow Pc H1 F H' D (.lst acc) ∧ Row B K F acc ys ∧ acc.length ≤ i + 1 ∧ comp f (xs.drop (i + 1)) s = some r' ∧ r = (ys ++ r'.1, r'.2), fun H' p' => ⟨n - (i + 1), by omega, rfl, hlt, p'⟩, fun x H' y => ?_⟩
    obtain ⟨rfl, hx⟩ := Fd.yld i H x H' hlt (hG s F H S ex) y
    obtain ⟨a', ha', ra⟩ := Ty.at_ i x hx
    rw [ha] at ha'
    cases ha'
    have nD : ∀ F' H'', Sx Pc F H' F' H'' → Ow Pc H1 F' H'' D (.lst acc) := fun F' H'' c => w.call c fun z => hlv D z hD
    have hsz : acc.length < sizeLine := by
      have := of_decide_eq_true hz
      rw [Ty.len] at this
      omega
    refine turn a x s o F H' D acc ra S ex w hD e1 _ _ (fun y b F' H'' ho c rb ex' => ?_) fun F' H'' ho c ex' => ?_
    · have w' := nD F' H'' c
      have S' : Sx Pc F1 H1 F' H'' := S.call c fun a z => .inl z
      refine ⟨acc, w'.at_, hsz, o.2, F', acc ++ [y], ys ++ [b], r2, S'.put w', hEp _ _ _ _ _ _ ex' hD w'.at_, w'.put, (Row.mono c.le row).snoc rb, by simp; omega, e2, ?_⟩
      rw [hr, e3, ho]
      simp
    · have w' := nD F' H'' c
      have S' : Sx Pc F1 H1 F' H'' := S.call c fun a z => .inl z
      refine ⟨o.2, F', acc, ys, r2, S', ex', w', Row.mono c.le row, by omega, e2, ?_⟩
      rw [hr, e3, ho]
  · have e : i = n := by omega
    subst e
    rw [← Ty.len, List.drop_length] at hl
    cases hl
    refine .inl ⟨Fd.stop H (hG _ F H S ex), ?_⟩
    rw [hr] at done
    exact done D acc F H hD S ex w (by simpa using row)
end

/-! ## steps: what is new behind each is told by names -/
section
variable {P : Addr → Prop} {F0 H0 F H : Hp} {Q : VK} {α : Type} {A : R α} {K : PySem.W.Frag}
/-- a new object, of one's own -/
theorem al {o : HO} (S : Sx P F0 H0 F H) (k : ∀ p H', H p = none → Sx P0 F H F H' → Ow P H0 F H' p o → Q (.ref p) H') : nK Q H o :=
  fun p hp => k p _ hp ((Sx.refl0 S.sub).temp hp) (S.own hp)
/-- a new object that stands for good -/
theorem alF {o : HO} (S : Sx P F0 H0 F H) (k : ∀ p F' H', Sx P0 F H F' H' → F' p = some o → Q (.ref p) H') : nK Q H o :=
  fun p hp => k p _ _ ((Sx.refl0 S.sub).alloc hp) upd_same
theorem alT {vs : List V} {xs : List α} (S : Sx P F0 H0 F H) (r : Row A K F vs xs) (k : ∀ v F' H', Sx P0 F H F' H' → (qT A).r K F' v xs → Q v H') : nK Q H (.tup vs) :=
  alF S fun p F' H' c h => k _ F' H' c ⟨p, vs, rfl, .inl (.inl h), Row.mono c.le r⟩
theorem alL {vs : List V} {xs : List α} (S : Sx P F0 H0 F H) (r : Row A K F vs xs) (k : ∀ v F' H', Sx P0 F H F' H' → (qL A).r K F' v xs → Q v H') : nK Q H (.lst vs) :=
  alF S fun p F' H' c h => k _ F' H' c ⟨p, vs, rfl, h, Row.mono c.le r⟩
/-- the same where the row is handed on -/
theorem alL' {xs : List α} (S : Sx P F0 H0 F H) (k : ∀ v F' H', Sx P0 F H F' H' → (qL A).r K F' v xs → Q v H') : nL A K F Q H xs :=
  fun p us hp r => alL S r k p hp
theorem alT' {xs : List α} (S : Sx P F0 H0 F H) (k : ∀ v F' H', Sx P0 F H F' H' → (qT A).r K F' v xs → Q v H') : nT A K F Q H xs :=
  fun p us hp r => alT S r k p hp
theorem alO' {xs : List α} (S : Sx P F0 H0 F H) (k : ∀ p us H', H p = none → Sx P0 F H F H' → Ow P H0 F H' p (.lst us) → Row A K F us xs → Q (.ref p) H') : nL A K F Q H xs :=
  fun p us hp r => k p us _ hp ((Sx.refl0 S.sub).temp hp) (S.own hp) r
variable {p : Addr} {vs : List V} {xs : List α}
theorem Ow.arg' {o : HO} (w : Ow P H0 F H p o) : Ow (fun a => a = p) H F H p o := w.arg
theorem ap (S : Sx P F0 H0 F H) (w : Ow P H0 F H p (.lst vs)) (r : Row A K F vs xs) {y : V} (h : fits xs = true) (k : ∀ H', Sx (fun a => a = p) F H F H' → Ow P H0 F H' p (.lst (vs ++ [y])) → Q .non H') : rAppend (.ref p) [y] H Q :=
  rd_app w r h (k _ ((Sx.refl S.sub fun a z => by rw [z, w.at_]; exact fun h => nomatch h).put w.arg) w.put)
theorem ex' (S : Sx P F0 H0 F H) (w : Ow P H0 F H p (.lst vs)) (r : Row A K F vs xs) {b : V} {ys : List α} (s : SeenL A K F H b ys) (h : fits2 xs ys = true) (k : ∀ us H', Sx (fun a => a = p) F H F H' → Ow P H0 F H' p (.lst (vs ++ us)) → Row A K F (vs ++ us) (xs ++ ys) → Q .non H') : rExtend (.ref p) [b] H Q :=
  rd_extend w r s h fun us r2 => k us _ ((Sx.refl S.sub fun a z => by rw [z, w.at_]; exact fun h => nomatch h).put w.arg) w.put (pApp r r2)
/-- an own list is let stand for good -/
theorem fz (S : Sx P F0 H0 F H) (w : Ow P H0 F H p (.lst vs)) (h0 : H0 p = none) (r : Row A K F vs xs) : ∃ F', Sx P F0 H0 F' H ∧ Same F F' ∧ (qL A).r K F' (.ref p) xs ∧ F' p ≠ none ∧ ∀ q, q ≠ p → F' q = F q :=
  ⟨upd F p (.lst vs), S.freeze w h0, w.leF, ⟨p, vs, rfl, upd_same, Row.mono w.leF r⟩, by (rw [upd_same]; exact (fun h => nomatch h)), fun q hq => upd_ne hq⟩
theorem Ow.fzO {F' : Hp} {o : HO} {q : Addr} (w : Ow P H0 F H q o) (n : q ≠ p) (e : ∀ q, q ≠ p → F' q = F q) : Ow P H0 F' H q o := ⟨by rw [e q n]; exact w.fr, w.at_, w.mine⟩
end
end Gl

namespace Gl
open PySem PySem.Spec PyProof.Rows L2

/-! ## defs by names -/
def fdDefault : FuncData := PySem.W.fnOf "" "" { posonlyargs := [], args := [], vararg := none, kwonlyargs := [], kw_defaults := [], kwarg := none, defaults := [] } [] { kind := .function, names := [], isGenerator := false, isCoroutine := false } .none .none .none .none none .none .none
def fdOf (K : PySem.W.Frag) (p : Str × Option Str) : FuncData := match K.lookup (He.fAd K p) with
  | some ⟨_, _, .func fd, _⟩ => fd
  | _ => fdDefault
abbrev FnD' (K : PySem.W.Frag) (p : Str × Option Str) (x q : Str) (st : Stmt) : Prop := FunD K x q (defArgs st) (defBody st) (defScope st) [] [] (He.fAd K p) (fdOf K p)
theorem fdOf_eq {K : PySem.W.Frag} {p : Str × Option Str} {x q : Str} {ps : Arguments} {body : List Stmt} {sc : Scope} {dvs : List V} {kws : List (Str × V)} {fd : FuncData} (F : FunD K x q ps body sc dvs kws (He.fAd K p) fd) : fd = fdOf K p := by
  obtain ⟨oc, od, dV, kV, doc, pm, an, cdv, ct, osl, e, lk, _⟩ := F.ex
  unfold fdOf
  rw [lk]
theorem fd_of {fa : List He.Fa} {fn : List He.DefD} {K : PySem.W.Frag} (c : He.SaysD fa fn K) (i : Nat) {d : He.DefD} (h : fn[i]? = some d := by rfl) : FunD K d.name d.qual d.params d.body d.scope (d.dvs K) (d.kws K) (He.fAd K d.at_) (fdOf K d.at_) := by
  obtain ⟨fd, F⟩ := c.def_ i h
  have e := fdOf_eq F
  subst e
  exact F
/-! ## a list of two ints that is drawn from -/
section
variable {P : Addr → Prop} {F0 H0 F H : Hp} {Q : VK} {K : PySem.W.Frag} {p : Addr} {a b c : V}
theorem pool0 (w : Ow P H0 F H p (.lst [a, b])) (k : Q a H) : rIxL K (.ref p) (.int 0) H Q := ⟨p, [a, b], 0, a, rfl, rfl, SqL.of w.at_, rfl, k⟩
theorem pool1 (w : Ow P H0 F H p (.lst [a, b])) (k : Q b H) : rIxL K (.ref p) (.int 1) H Q := ⟨p, [a, b], 1, b, rfl, rfl, SqL.of w.at_, rfl, k⟩
theorem putS (S : Sx P F0 H0 F H) {o u : HO} (w : Ow P H0 F H p o) : Sx (fun a => a = p) F H F (upd H p u) := (Sx.refl S.sub fun a z => by rw [z, w.at_]; exact fun h => nomatch h).put w.arg
theorem pset0 {R : Hp → Prop} (S : Sx P F0 H0 F H) (w : Ow P H0 F H p (.lst [a, b])) (k : ∀ H', Sx (fun a => a = p) F H F H' → Ow P H0 F H' p (.lst [c, b]) → R H') : rSetL (.ref p) (.int 0) c H R := ⟨p, [a, b], 0, 0, rfl, rfl, w.at_, rfl, k _ (putS S w) w.put⟩
theorem pset1 {R : Hp → Prop} (S : Sx P F0 H0 F H) (w : Ow P H0 F H p (.lst [a, b])) (k : ∀ H', Sx (fun a => a = p) F H F H' → Ow P H0 F H' p (.lst [a, c]) → R H') : rSetL (.ref p) (.int 1) c H R := ⟨p, [a, b], 1, 1, rfl, rfl, w.at_, rfl, k _ (putS S w) w.put⟩
end
end Gl

namespace Gl
open PySem PySem.Spec PyProof.Rows L2

/-! ## readings, construct by construct -/
section
variable {σ : L2.St} {H : Hp} {Q : VK} {v : V} {i j : Int} {ta tb tc te : TE} {t u : TT} {r : R2} {D : Ends} {tr : TA} {K : PySem.W.Frag} {b : Bool}
theorem rd_v {i : Nat} (h : σ[i]? = some (some v)) (k : Q v H) : tVar i σ H Q := ⟨v, h, k⟩
theorem rd_c (k : Q v H) : tC v σ H Q := k
theorem rd_op (k : ta σ H fun x H1 => tb σ H1 fun y H2 => r x y H2 Q) : tOp r ta tb σ H Q := k
theorem rd_un {r : V → Hp → VK → Prop} (k : ta σ H fun x H1 => r x H1 Q) : tUn r ta σ H Q := k
theorem rd_I0 {g : Int → Int → V} (k : Q (g i j) H) : rI0 g (.int i) (.int j) H Q := ⟨i, j, rfl, rfl, k⟩
theorem rd_I {C : Int → Int → Prop} {g : Int → Int → V} (c : C i j) (k : Q (g i j) H) : rI C g (.int i) (.int j) H Q := ⟨i, j, rfl, rfl, c, k⟩
theorem rd_U {g : Int → V} (k : Q (g i) H) : rU g (.int i) H Q := ⟨i, rfl, k⟩
theorem rd_S0 {g : Str → Str → V} {x y : Str} (k : Q (g x y) H) : rS0 g (.str x) (.str y) H Q := ⟨x, y, rfl, rfl, k⟩
theorem rd_B0 {g : Bool → Bool → V} {x y : Bool} (k : Q (g x y) H) : rB0 g (.bl x) (.bl y) H Q := ⟨x, y, rfl, rfl, k⟩
def rCatS : R2 := fun x y H Q => ∃ i j, x = .str i ∧ y = .str j ∧ i.length + j.length ≤ sizeLine ∧ Q (.str (i ++ j)) H
theorem op_catS {X : Cx} : OpR X (binaryOp .Add) rCatS := op_add_str
theorem rd_catS {x y : Str} (h : catOk x y = true) (k : Q (.str (x ++ y)) H) : rCatS (.str x) (.str y) H Q := ⟨x, y, rfl, rfl, catOk_of h, k⟩
def rInS : R2 := fun x y H Q => ∃ i j, x = .str i ∧ y = .str j ∧ Q (.bl (inS i j)) H
def rNiS : R2 := fun x y H Q => ∃ i j, x = .str i ∧ y = .str j ∧ Q (.bl (!inS i j)) H
theorem op_inS {X : Cx} : OpR X (compareOp .In) rInS := op_in_str
theorem op_niS {X : Cx} : OpR X (compareOp .NotIn) rNiS := op_notin_str
theorem rd_inSS {x y : Str} (k : Q (.bl (inS x y)) H) : rInS (.str x) (.str y) H Q := ⟨x, y, rfl, rfl, k⟩
theorem rd_niSS {x y : Str} (k : Q (.bl (!inS x y)) H) : rNiS (.str x) (.str y) H Q := ⟨x, y, rfl, rfl, k⟩
theorem rd_ixS {x z : Str} (h : ixS x i = some z) (k : Q (.str z) H) : rIxS (.str x) (.int i) H Q := by
  obtain ⟨c, h1, h2, rfl⟩ := ixS_some h
  exact ⟨x, i, c, rfl, rfl, h1, h2, k⟩
theorem rd_slS {z : Str} {lo hi : Option Int} (h : fitsS z = true) (k : Q (.str (cutS z lo hi)) H) : rSlS (.str z) lo hi H Q := ⟨z, rfl, fitsS_of h, k⟩
/-! tests -/
variable {QB : Bool → Hp → Prop}
/-- what is wanted of a truth -/
def bK (QB : Bool → Hp → Prop) : VK := fun x H => ∃ k, x = .bl k ∧ QB k H
theorem rd_test (k : te σ H (bK QB)) : tTest te σ H QB := k
theorem rd_tB (k : te σ H (bK QB)) : tB te σ H QB := k
theorem rd_b (k : QB b H) : bK QB (.bl b) H := ⟨b, rfl, k⟩
theorem rd_and (k : t σ H fun c H1 => if c = true then u σ H1 QB else QB false H1) : tAnd t u σ H QB := k
theorem rd_or (k : t σ H fun c H1 => if c = true then QB true H1 else u σ H1 QB) : tOr t u σ H QB := k
theorem rd_not (k : t σ H fun c H1 => QB (!c) H1) : tNot t σ H QB := k
theorem rd_andV (k : ta σ H (bK fun c H1 => if c = true then tb σ H1 Q else Q (.bl false) H1)) : tAndV ta tb σ H Q := k
theorem rd_orV (k : ta σ H (bK fun c H1 => if c = true then Q (.bl true) H1 else tb σ H1 Q)) : tOrV ta tb σ H Q := k
theorem rd_notV (k : ta σ H (bK fun c H1 => Q (.bl (!c)) H1)) : tNotV ta σ H Q := k
theorem rd_ifE (k : t σ H fun c H1 => if c = true then ta σ H1 Q else tb σ H1 Q) : tIf t ta tb σ H Q := k
theorem rd_yes (k : QB true H) : tYes σ H QB := k
/-! arguments, calls -/
variable {QA : List V → Hp → Prop}
theorem rd_nil (k : QA [] H) : tNil σ H QA := k
theorem rd_cons (k : te σ H fun x H1 => tr σ H1 fun xs H2 => QA (x :: xs) H2) : tCons te tr σ H QA := k
theorem rd_call {sp : Sp} {dvs : List V} {E : XK} (k : tr σ H fun vs H1 => sp (vs ++ dvs) H1 Q E) : tCall sp dvs E tr σ H Q := k
theorem rd_cb {r : List V → Hp → VK → Prop} (k : tr σ H fun xs H1 => r xs H1 Q) : tCB r tr σ H Q := k
def lK (Q : VK) : List V → Hp → Prop := fun xs H1 => xs.length ≤ sizeLine ∧ ∀ p, H1 p = none → Q (.ref p) (upd H1 p (.lst xs))
def uK (Q : VK) : List V → Hp → Prop := fun xs H1 => xs.length ≤ sizeLine ∧ ∀ p, H1 p = none → Q (.ref p) (upd H1 p (.tup xs))
theorem rd_lst (k : tr σ H (lK Q)) : tLst tr σ H Q := k
theorem rd_lK {xs : List V} (h : Nat.ble xs.length 1000 = true) (k : nK Q H (.lst xs)) : lK Q xs H := ⟨Nat.le_trans (Nat.le_of_ble_eq_true h) (by decide), k⟩
theorem rd_uK {xs : List V} (h : Nat.ble xs.length 1000 = true) (k : nK Q H (.tup xs)) : uK Q xs H := ⟨Nat.le_trans (Nat.le_of_ble_eq_true h) (by decide), k⟩
theorem rd_tup (k : tr σ H (uK Q)) : tTup tr σ H Q := k
theorem rd_bm {T : String} {r : V → List V → Hp → VK → Prop} (k : te σ H fun x H1 => tyV K T x H1 ∧ tr σ H1 fun xs H2 => r x xs H2 Q) : tBM K T r te tr σ H Q := k
theorem rd_bm0 {T : String} {r : V → List V → Hp → VK → Prop} (k : te σ H fun x H1 => tyV K T x H1 ∧ r x [] H1 Q) : tBM0 K T r te σ H Q := k
theorem rd_ty {A B : Prop} (h : A) (k : B) : A ∧ B := ⟨h, k⟩
theorem rd_thn {k' : V → Hp → VK → Prop} (k : te σ H fun x H1 => k' x H1 Q) : tThen te k' σ H Q := k
/-! slices -/
variable {QO : Option Int → Hp → Prop}
theorem rd_sl {r : V → Option Int → Option Int → Hp → VK → Prop} {tl th : TO} (k : te σ H fun x H1 => tl σ H1 fun l H2 => th σ H2 fun u H3 => r x l u H3 Q) : tSl r te tl th σ H Q := k
theorem rd_np (k : QO none H) : tNoPart σ H QO := k
def iK (QO : Option Int → Hp → Prop) : VK := fun x H => ∃ i, x = .int i ∧ QO (some i) H
theorem rd_pt (k : te σ H (iK QO)) : tPart te σ H QO := k
theorem rd_i (k : QO (some i) H) : iK QO (.int i) H := ⟨i, rfl, k⟩
/-! built-ins -/
def rInt1 : List V → Hp → VK → Prop := fun xs H Q => (∃ i, xs = [.int i] ∧ Q (.int i) H) ∨ ∃ k, xs = [.bl k] ∧ Q (.int (if k then 1 else 0)) H
theorem cr_int {X : Cx} : CallR X (.type "int") rInt1 := call_int1
theorem rd_intI (k : Q (.int i) H) : rInt1 [.int i] H Q := .inl ⟨i, rfl, k⟩
theorem rd_intB (k : Q (.int (b2I b)) H) : rInt1 [.bl b] H Q := .inr ⟨b, rfl, k⟩
def rMax2 : List V → Hp → VK → Prop := fun xs H Q => ∃ i j, xs = [.int i, .int j] ∧ Q (.int (if j > i then j else i)) H
theorem cr_max2 {X : Cx} (hc : X.calm = true) : CallR X (.builtin "max") rMax2 := call_max2 hc
theorem rd_max2 (k : Q (.int (maxI i j)) H) : rMax2 [.int i, .int j] H Q := ⟨i, j, rfl, k⟩
def rMin2 : List V → Hp → VK → Prop := fun xs H Q => ∃ i j, xs = [.int i, .int j] ∧ Q (.int (if j < i then j else i)) H
theorem cr_min2 {X : Cx} (hc : X.calm = true) : CallR X (.builtin "min") rMin2 := call_min2 hc
theorem rd_min2 (k : Q (.int (minI i j)) H) : rMin2 [.int i, .int j] H Q := ⟨i, j, rfl, k⟩
def rLenS : List V → Hp → VK → Prop := fun xs H Q => ∃ z, xs = [.str z] ∧ z.length ≤ sizeLine ∧ Q (.int z.length) H
theorem cr_lenS {X : Cx} : CallR X (.builtin "len") rLenS := call_len_str
theorem rd_lenS {z : Str} (h : fitsS z = true) (k : Q (.int (z.length : Int)) H) : rLenS [.str z] H Q := ⟨z, rfl, fitsS_of h, k⟩
def rLenQ (K : PySem.W.Frag) : List V → Hp → VK → Prop := fun xs H Q => ∃ p ys, xs = [.ref p] ∧ (SqL K H p ys ∨ SqT K H p ys) ∧ Q (.int ys.length) H
theorem cr_lenQ {X : Cx} : CallR X (.builtin "len") (rLenQ X.K) := call_len_seq
theorem rd_lenQ {α : Type} {A : R α} {F : Hp} {xs : List α} (s : SeenQ A K F H v xs) (k : Q (.int (xs.length : Int)) H) : rLenQ K [v] H Q := rd_len s k
def rListQ (K : PySem.W.Frag) : List V → Hp → VK → Prop := fun xs H Q => ∃ p ys, xs = [.ref p] ∧ (SqL K H p ys ∨ SqT K H p ys) ∧ ∀ l, H l = none → Q (.ref l) (upd H l (.lst ys))
theorem cr_listQ {X : Cx} : CallR X (.type "list") (rListQ X.K) := call_list_of
theorem rd_listQ {α : Type} {A : R α} {F : Hp} {xs : List α} (s : SeenQ A K F H v xs) (k : nL A K F Q H xs) : rListQ K [v] H Q := rd_list s k
/-! targets, statements -/
variable {QS : L2.St → Hp → Prop} {g : TG} {ts us : TS} {N B C : L2.St → Hp → Prop} {R : VK}
theorem rd_gn {i : Nat} (k : QS (σ.set i (some v)) H) : gName i v σ H QS := k
theorem rd_gsub {st : TSet} (k : ta σ H fun o H1 => tb σ H1 fun i H2 => st o i v H2 fun H3 => QS σ H3) : gSub ta tb st v σ H QS := k
theorem rd_seq (k : ts ⟨us ⟨N, R, B, C⟩, R, B, C⟩ σ H) : tSeq ts us ⟨N, R, B, C⟩ σ H := k
theorem rd_asg (k : te σ H fun x H1 => g x σ H1 N) : tAsg te g ⟨N, R, B, C⟩ σ H := k
theorem rd_ifS (k : t σ H fun b H1 => if b = true then ts D σ H1 else us D σ H1) : tIfS t ts us D σ H := k
theorem rd_ret (k : te σ H R) : tRet te ⟨N, R, B, C⟩ σ H := k
theorem rd_drop (k : te σ H fun _ H1 => N σ H1) : tDrop te ⟨N, R, B, C⟩ σ H := k
theorem rd_next (k : N σ H) : tNext ⟨N, R, B, C⟩ σ H := k
theorem rd_cut (Mid : L2.St → Hp → Prop) (h : ts ⟨Mid, R, B, C⟩ σ H) (k : ∀ σ' H', Mid σ' H' → us ⟨N, R, B, C⟩ σ' H') : C8.tCut ts us ⟨N, R, B, C⟩ σ H := ⟨Mid, h, k⟩
theorem rd_aug {i : Nat} {ti : TIp} {x : V} (h : σ[i]? = some (some x)) (k : te σ H fun y H1 => ti x y H1 fun z H2 => N (σ.set i (some z)) H2) : tAug i te ti ⟨N, R, B, C⟩ σ H := ⟨x, h, k⟩
theorem rd_ipI {f : Int → Int → Int} (k : Q (.int (f i j)) H) : ipI f (.int i) (.int j) H Q := ⟨i, j, rfl, rfl, k⟩
theorem rd_for {wi : TI} (k : wi σ H fun J H1 => ForG J g ts D σ H1) : tFor wi g ts D σ H := k
theorem rd_lc {wi : TI} {vs : List Nat} (k : wi σ H fun J H1 => ∀ D, H1 D = none → LcG J g t te vs σ D Q H1) : tLc wi g t te vs σ H Q := k
variable {RI : It → Hp → Prop}
/-- what is wanted of a walked list, tuple, text, range -/
def wL (K : PySem.W.Frag) (RI : It → Hp → Prop) : VK := fun x H1 => ∃ a, x = .ref a ∧ (∃ xs, SqL K H1 a xs) ∧ RI (Itl K a) H1
def wT (K : PySem.W.Frag) (RI : It → Hp → Prop) : VK := fun x H1 => ∃ a, x = .ref a ∧ (∃ xs, SqT K H1 a xs) ∧ RI (Itt K a) H1
def wS (RI : It → Hp → Prop) : VK := fun v H1 => ∃ x, v = .str x ∧ RI (Its x) H1
def wR1 (RI : It → Hp → Prop) : List V → Hp → Prop := fun vs H1 => ∃ j : Int, vs = [.int j] ∧ -(2 ^ 62) ≤ j ∧ j < 2 ^ 62 ∧ RI (Itr 0 j.toNat) H1
def wR2 (RI : It → Hp → Prop) : List V → Hp → Prop := fun vs H1 => ∃ i j : Int, vs = [.int i, .int j] ∧ (-(2 ^ 62) ≤ i ∧ i < 2 ^ 62 ∧ -(2 ^ 62) ≤ j ∧ j < 2 ^ 62) ∧ RI (Itr i (j - i).toNat) H1
theorem rd_iL (k : te σ H (wL K RI)) : iList K te σ H RI := k
theorem rd_iT (k : te σ H (wT K RI)) : iTup K te σ H RI := k
/-- over a list or a tuple -/
def iSeq (K : PySem.W.Frag) (te : TE) : TI := fun σ H R => iList K te σ H R ∨ iTup K te σ H R
theorem pi_seq {X : Cx} {tg l : Expr} (hl : PE X l te) : PI X tg l (iSeq X.K te) := ⟨fun pins s σ H R I h => h.elim (fun h => (pi_list hl).run pins s σ H R I h) fun h => (pi_tup hl).run pins s σ H R I h⟩
theorem rd_iS (k : te σ H (wS RI)) : iStr te σ H RI := k
theorem rd_iR1 (k : tr σ H (wR1 RI)) : iRng1 tr σ H RI := k
theorem rd_iR2 (k : tr σ H (wR2 RI)) : iRng2 tr σ H RI := k
theorem rd_wS {z : Str} (k : RI (Its z) H) : wS RI (.str z) H := ⟨z, rfl, k⟩
def rgOk (a b : Int) : Bool := (decide (-(2 ^ 62) ≤ a) && decide (a < 2 ^ 62)) && (decide (-(2 ^ 62) ≤ b) && decide (b < 2 ^ 62))
theorem rd_r1 {n : Int} (h : rgOk 0 n = true) (k : RI (Itr 0 (n - 0).toNat) H) : wR1 RI [.int n] H := by
  unfold rgOk at h
  simp only [Bool.and_eq_true, decide_eq_true_eq] at h
  exact ⟨n, rfl, h.2.1, h.2.2, by rw [Int.sub_zero] at k; exact k⟩
theorem rd_r2 {a b : Int} (h : rgOk a b = true) (k : RI (Itr a (b - a).toNat) H) : wR2 RI [.int a, .int b] H := by
  unfold rgOk at h
  simp only [Bool.and_eq_true, decide_eq_true_eq] at h
  exact ⟨a, b, rfl, ⟨h.1.1, h.1.2, h.2.1, h.2.2⟩, k⟩
end
end Gl

namespace Gl
open PySem PySem.Spec PyProof.Rows L2

theorem if_t {α : Type} {b : Bool} {x y r : α} (h : (if b = true then x else y) = r) (hb : b = true) : x = r := by
  rw [hb] at h; exact h
theorem if_f {α : Type} {b : Bool} {x y r : α} (h : (if b = true then x else y) = r) (hb : b = false) : y = r := by
  rw [hb] at h; exact h
theorem if_tt {A B : Prop} (h : A) : if true = true then A else B := h
theorem aft_nx {S ρ : Type} {s : S} {k : S → Option ρ} {r : Option ρ} (h : aft (.nx s) k = r) : k s = r := h
theorem aft_rt {S ρ : Type} {v : ρ} {k : S → Option ρ} {r : Option ρ} (h : aft (.rt v) k = r) : some v = r := h
theorem aftC_nx {S S' ρ : Type} {s : S} {k : S → Option (Ctl S' ρ)} {r : Option (Ctl S' ρ)} (h : aftC (.nx s) k = r) : k s = r := h
theorem aftC_rt {S S' ρ : Type} {v : ρ} {k : S → Option (Ctl S' ρ)} {r : Option (Ctl S' ρ)} (h : aftC (.rt v) k = r) : some (.rt v) = r := h
/-- behind a loop that may break off but does not return -/
def aftN {S ρ : Type} (c : Ctl S Unit) (k : S → Option ρ) : Option ρ := match c with
  | .nx s => k s
  | .bk s => k s
  | .rt _ => none
theorem aftN_nx {S ρ : Type} {s : S} {k : S → Option ρ} {r : Option ρ} (h : aftN (.nx s) k = r) : k s = r := h

/-! ## text times int, list(text) -/
section
variable {X : Cx}
def repS (x : Str) (n : Int) : Str := Txt.mul x n
def repOk (x : Str) (n : Int) : Bool := (decide (-(2 ^ 62) ≤ n) && decide (n < 2 ^ 62)) && decide (x.length * n.toNat ≤ 100000) && decide (x.length ≤ 100000)
theorem repOk_of {x : Str} {n : Int} (h : repOk x n = true) : MulOk x n := by
  unfold repOk at h
  simp only [Bool.and_eq_true, decide_eq_true_eq] at h
  obtain ⟨⟨⟨h1, h2⟩, h3⟩, h4⟩ := h
  refine ⟨?_, fun a _ => ?_, fun a _ => ?_⟩
  · have e1 : decide (n < -(2 ^ 63 : Int)) = false := decide_eq_false (by omega)
    have e2 : decide (n ≥ (2 ^ 63 : Int)) = false := decide_eq_false (by omega)
    rw [e1, e2]; rfl
  · have hn : 0 < n := by omega
    intro c
    have e3 : (x.length : Int) * n ≤ 100000 := by
      have e4 : ((x.length * n.toNat : Nat) : Int) ≤ ((100000 : Nat) : Int) := Int.ofNat_le.mpr h3
      have e5 : (n.toNat : Int) = n := Int.toNat_of_nonneg (by omega)
      rw [Int.natCast_mul, e5] at e4
      have e7 : ((100000 : Nat) : Int) = 100000 := rfl
      rw [e7] at e4
      exact e4
    have e6 : (x.length : Int) ≤ (2 ^ 63 - 1) / n := by
      rw [Int.le_ediv_iff_mul_le hn]
      omega
    omega
  · have e1 : sizeLine = 16777216 := sizeLine_eq
    unfold Builtin.Str.tooLong
    exact decide_eq_false (by omega)
def rRepS : R2 := fun x y H Q => ∃ z n, x = .str z ∧ y = .int n ∧ repOk z n = true ∧ Q (.str (repS z n)) H
theorem op_repS : OpR X (binaryOp .Mult) rRepS := by
  intro pins s σ H x y v u Q I rx ry h
  obtain ⟨z, n, rfl, rfl, ok, q⟩ := h
  obtain ⟨t, rfl⟩ := rx
  obtain ⟨t', rfl⟩ := ry
  exact SB.mul (repOk_of ok) fun t2 k => ⟨.str _, H, I.tok _, ⟨_, rfl⟩, q⟩
theorem rd_repS {H : Hp} {Q : VK} {z : Str} {n : Int} (h : repOk z n = true) (k : Q (.str (repS z n)) H) : rRepS (.str z) (.int n) H Q := ⟨z, n, rfl, rfl, h, k⟩
def rListS : List V → Hp → VK → Prop := fun xs H Q => ∃ z : Str, xs = [.str z] ∧ z.cps.size ≤ sizeLine ∧ ∀ l, H l = none → Q (.ref l) (upd H l (.lst ((sgns z).map V.str)))
theorem vals_signs {z : Str} {acc : Array Value} (h : ItemsOf (SignAt z) acc z.cps.size) : Vals ((sgns z).map V.str) acc.toList := by
  have hs : acc.toList.length = z.cps.size := by rw [Array.length_toList]; exact h.1
  have key : ∀ (l : List Value) (cs : List Nat), l.length = cs.length → (∀ (j : Nat) (u : Value), l[j]? = some u → ∃ (c : Nat) (t : Tok), cs[j]? = some c ∧ u = Value.str ⟨#[c]⟩ t) → Vals ((cs.map fun c => (⟨#[c]⟩ : Str)).map V.str) l := by
    intro l
    induction l with
    | nil => intro cs hl _; cases cs with
      | nil => exact .nil
      | cons c r => cases hl
    | cons u l ih =>
      intro cs hl hj
      cases cs with
      | nil => cases hl
      | cons c r =>
        obtain ⟨c', t, e1, e2⟩ := hj 0 u rfl
        cases e1
        exact .cons ⟨t, e2⟩ (ih r (Nat.succ.inj hl) fun j w e => hj (j + 1) w e)
  refine key acc.toList z.cps.toList (by rw [hs]; rfl) fun j u e => ?_
  have e' : acc[j]? = some u := by rw [← Array.getElem?_toList]; exact e
  obtain ⟨c, t, e1, e2⟩ := h.2 j u e'
  exact ⟨c, t, by rw [Array.getElem?_toList]; exact e1, e2⟩
theorem cr_listS (hc : X.calm = true) : CallR X (.type "list") rListS := by
  intro pins s σ H xs us Q I r h
  obtain ⟨z, rfl, hz, q⟩ := h
  obtain ⟨u, rfl, t, rfl⟩ := vals1 r
  refine PySem.call_list_str (I.ok.hd hc) z t (fun h' tk acc' c' hk hS hacc => ?_) hz
  have hsz : ((sgns z).map V.str).length ≤ sizeLine := by unfold sgns; simpa using hz
  have I1 := I.laid (a := s.heap.objs.size) (o := .lst ((sgns z).map V.str)) (t' := tk) (h' := h') hk (Nat.le_refl _) (show ObjOk X.prog X.w _ _ _ (.lst _) from ⟨hsz, acc'.toList, c', vals_signs hacc, by simpa using hS⟩)
  exact ⟨.ref s.heap.objs.size, _, I1, rfl, q _ (I.hok.fresh (Nat.le_refl _))⟩
theorem row_strs {K : PySem.W.Frag} {F : Hp} : ∀ xs : List Str, Row qS K F (xs.map V.str) xs
  | [] => .nil
  | _ :: xs => .cons rfl (row_strs xs)
theorem rd_listS {K : PySem.W.Frag} {F H : Hp} {Q : VK} {z : Str} (h : fitsS z = true) (k : nL qS K F Q H (sgns z)) : rListS [.str z] H Q :=
  ⟨z, rfl, fitsS_of h, fun l hl => k l _ hl (row_strs _)⟩
end
/-! ## walked rows -/
section
variable {K : PySem.W.Frag} {P : Addr → Prop} {F0 H0 F H : Hp} {v : V} {α : Type} {A : R α} {xs : List α} {RI : It → Hp → Prop} {σ : L2.St} {te : TE}
theorem rd_wLF (S : Sx P F0 H0 F H) (r : (qL A).r K F v xs) (k : ∀ p vs, SqL K F p vs → Row A K F vs xs → RI (Itl K p) H) : wL K RI v H := by
  obtain ⟨p, vs, rfl, h1, h2⟩ := r
  exact ⟨p, rfl, ⟨vs, Same.seq S.sub (SqL.of h1)⟩, k p vs (SqL.of h1) h2⟩
theorem rd_wLC {xs : List Int} (S : Sx P F0 H0 F H) (r : qC.r K F v xs) (k : ∀ p vs, SqL K F p vs → Row qI K F vs xs → RI (Itl K p) H) : wL K RI v H := by
  obtain ⟨p, rfl, h1⟩ := r
  exact ⟨p, rfl, ⟨_, Same.seq S.sub h1⟩, k p _ h1 (row_ints xs)⟩
theorem rd_wTF (S : Sx P F0 H0 F H) (r : (qT A).r K F v xs) (k : ∀ p vs, SqT K F p vs → Row A K F vs xs → RI (Itt K p) H) : wT K RI v H := by
  obtain ⟨p, vs, rfl, h1, h2⟩ := r
  exact ⟨p, rfl, ⟨vs, same_t S.sub h1⟩, k p vs h1 h2⟩
/-- over a list or a tuple: whichever it is -/
theorem rd_wSeq (S : Sx P F0 H0 F H) (r : (qQ A).r K F v xs) (hv : ∀ Q : VK, Q v H → te σ H Q)
    (k : ∀ (J : It) (n : Nat) (G : Hp → Prop) (it : Nat → V → Prop), Feeds J n G it → Typed A K F n it xs → (∀ F' H', Same F F' → Same F' H' → G H') → RI J H) : iSeq K te σ H RI := by
  rcases r with ⟨p, vs, rfl, h1, h2⟩ | ⟨p, vs, rfl, h1, h2⟩
  · refine .inl (hv _ ⟨p, rfl, ⟨vs, Same.seq S.sub (SqL.of h1)⟩, k _ _ _ _ feedsL (typedRow h2) fun F' H' e1 e2 => Same.seq e2 (Same.seq e1 (SqL.of h1))⟩)
  · refine .inr (hv _ ⟨p, rfl, ⟨vs, same_t S.sub h1⟩, k _ _ _ _ feedsT (typedRow h2) fun F' H' e1 e2 => same_t e2 (same_t e1 h1)⟩)
end
/-! ## targets of two names; a block's slots -/
section
variable {K : PySem.W.Frag} {σ : L2.St} {H : Hp} {p : Addr} {u w : V} {QS : L2.St → Hp → Prop} {t g : TG} {ts : TGs} {n : Nat} {vs : List V}
theorem rd_gt2 (h : SqT K H p [u, w]) (k : ts [u, w] σ H QS) : gTup K 2 ts (.ref p) σ H QS := ⟨p, _, rfl, h, rfl, k⟩
theorem rd_gt3 {z : V} (h : SqT K H p [u, w, z]) (k : ts [u, w, z] σ H QS) : gTup K 3 ts (.ref p) σ H QS := ⟨p, _, rfl, h, rfl, k⟩
theorem rd_gc {v : V} (k : g v σ H fun σ' H' => ts vs σ' H' QS) : gCons g ts (v :: vs) σ H QS := ⟨v, vs, rfl, k⟩
theorem rd_gl (k : QS σ H) : gNil [] σ H QS := ⟨rfl, k⟩
theorem rd_wp {A B : Prop} (h : A) (k : B) : A ∧ B := ⟨h, k⟩
theorem rd_cont {N B C : L2.St → Hp → Prop} {R : VK} (k : C σ H) : tCont ⟨N, R, B, C⟩ σ H := k
theorem rd_brk {N B C : L2.St → Hp → Prop} {R : VK} (k : B σ H) : tBreak ⟨N, R, B, C⟩ σ H := k
end
/-! ## isinstance of a value whose kind is known -/
section
variable {K : PySem.W.Frag} {P : Addr → Prop} {F0 H0 F H : Hp} {v : V} {α β : Type} {A : R α} {B : R β} {xs : List α} {Q : VK}
theorem tx_int {i : Int} : TyX K H (.int i) (.type "int") := .base (.int i)
theorem tx_bl {i : Bool} : TyX K H (.bl i) (.type "bool") := .base (.bl i)
theorem tx_str {i : Str} : TyX K H (.str i) (.type "str") := .base (.str i)
theorem tx_non : TyX K H .non (.type "NoneType") := .base .non
theorem tx_list (s : SeenR A K F H v xs) : TyX K H v (.type "list") := by
  obtain ⟨p, vs, rfl, (h | ⟨o, h⟩) | ⟨o, its, n, h1, h2, _⟩, _⟩ := s
  · exact .base (.lst h)
  · exact .base (.frz h)
  · exact .kList h1 h2
theorem tx_sqt {p : Addr} {vs : List V} (h : SqT K H p vs) : TyX K H (.ref p) (.type "tuple") := by
  rcases h with (h | ⟨o, h⟩) | ⟨o, its, n, h1, h2, _⟩
  · exact .base (.tup h)
  · exact .fTuple h
  · exact .kTuple h1 h2
theorem tx_tup (s : SeenT A K F H v xs) : TyX K H v (.type "tuple") := by
  obtain ⟨p, vs, rfl, h, _⟩ := s
  exact tx_sqt h
theorem tx_pair {x : α × β} (S : Sx P F0 H0 F H) (r : (q2 A B).r K F v x) : TyX K H v (.type "tuple") := by
  obtain ⟨p, u, w, rfl, h, _⟩ := r
  exact tx_sqt (same_t S.sub h)
theorem rd_isi {t : Value} {n : String} {b : Bool} (s : TyX K H v t) (h : PySem.W.kitOne [] t (.type n) = some b) (k : Q (.bl b) H) (hk : PySem.W.kitOne K t (.type n) = PySem.W.kitOne [] t (.type n) := by rfl) : rIsi K [v, .ty n] H Q :=
  ⟨v, .ty n, t, .type n, b, rfl, .ty n, s, hk.trans h, k⟩
end
/-! ## list(range(..)) -/
section
variable {σ : L2.St} {H : Hp} {Q : VK} {ta tb : TE} {tr : L2.St → Hp → (Int → Int → Hp → Prop) → Prop} {K : PySem.W.Frag} {F : Hp} {QI : Int → Int → Hp → Prop}
def rgFit (a b : Int) : Bool := (decide (-(2 ^ 62) ≤ a) && decide (a < 2 ^ 62)) && (decide (-(2 ^ 62) ≤ b) && (decide (b < 2 ^ 62) && decide ((b - a).toNat ≤ 16000000)))
def gK (Q : VK) : Int → Int → Hp → Prop := fun a b H1 => RgOk a b ∧ ∀ q, H1 q = none → Q (.ref q) (upd H1 q (.lst (rgV a b)))
theorem rd_lrg (k : tr σ H (gK Q)) : tLstRg tr σ H Q := k
def g1K (Q : Int → Int → Hp → Prop) : VK := fun x H1 => ∃ n, x = .int n ∧ Q 0 n H1
theorem rd_g1 (k : ta σ H (g1K QI)) : tRg1 ta σ H QI := k
theorem rd_g1i {n : Int} (k : QI 0 n H) : g1K QI (.int n) H := ⟨n, rfl, k⟩
def g2K (Q : Int → Int → Hp → Prop) : V → V → Hp → Prop := fun x y H2 => ∃ i j, x = .int i ∧ y = .int j ∧ Q i j H2
theorem rd_g2 (k : ta σ H fun x H1 => tb σ H1 fun y H2 => g2K QI x y H2) : tRg2 ta tb σ H QI := k
theorem rd_g2i {i j : Int} (k : QI i j H) : g2K QI (.int i) (.int j) H := ⟨i, j, rfl, rfl, k⟩
theorem row_rg {a b : Int} : Row qI K F (rgV a b) (rng a b) := by
  unfold rgV rng
  have : ∀ l : List Nat, Row qI K F (l.map fun i : Nat => V.int (a + (i : Nat))) (l.map fun i : Nat => a + (i : Nat)) := fun l => by
    induction l with
    | nil => exact .nil
    | cons x l ih => exact .cons rfl ih
  exact this _
theorem rd_lrgE {a b : Int} (h : rgFit a b = true) (k : nL qI K F Q H (rng a b)) : gK Q a b H := by
  unfold rgFit at h
  simp only [Bool.and_eq_true, decide_eq_true_eq] at h
  obtain ⟨⟨h1, h2⟩, h3, h4, h5⟩ := h
  exact ⟨⟨h1, h2, h3, h4, by omega⟩, fun q hq => k q _ hq row_rg⟩
end
/-! ## a def's promise, its end -/
theorem live1 {P : Addr → Prop} {H0 F H : Hp} {p : Addr} {o : HO} (w : Ow P H0 F H p o) : ∀ a, a = p → H a ≠ none := fun a z => by rw [z, w.at_]; exact fun h => nomatch h
end Gl
namespace Gl
open PySem PySem.Spec PyProof.Rows L2
theorem ifE_j {b : Bool} {u1 u2 : VK → Prop} {Q : VK} (J : V → Hp → Prop) (h1 : b = true → ∀ Q' : VK, (∀ c H', J c H' → Q' c H') → u1 Q') (h2 : b = false → ∀ Q' : VK, (∀ c H', J c H' → Q' c H') → u2 Q') (k : ∀ c H', J c H' → Q c H') : if b = true then u1 Q else u2 Q := by
  cases b with
  | true => exact h1 rfl Q k
  | false => exact h2 rfl Q k
end Gl
namespace Gl
open PySem PySem.Spec PyProof.Rows L2
/-! ## what is never reached -/
theorem if_ff {A B : Prop} (h : B) : if false = true then A else B := h
section
variable {X : Cx}
theorem ps_dead {st : Stmt} : PS X st (fun _ _ _ => False) := ⟨fun _ _ _ _ _ _ h => h.elim⟩
theorem pss_dead {ss : List Stmt} : PSs X ss (fun _ _ _ => False) := ⟨fun _ _ _ _ _ _ h => h.elim⟩
theorem pe_dead {e : Expr} : PE X e (fun _ _ _ => False) := ⟨fun _ _ _ _ _ _ h => h.elim⟩
theorem pt_dead {e : Expr} : PT X e (fun _ _ _ => False) := ⟨fun _ _ _ _ _ _ h => h.elim⟩
theorem pw_dead {e : Expr} : PW X e (fun _ _ _ => False) := ⟨fun _ _ _ _ _ _ _ h => h.elim⟩
end
end Gl

namespace Gl
open PySem PySem.Spec PyProof.Rows L2

/-! ## a thing of any plain kind -/
inductive Th where
  | d (x : PyData) | dct
def qTh : R Th := ⟨fun K F v a => match a with
  | .d x => Dp K F v x
  | .dct => ∃ p, v = .ref p ∧ F p = some (.dK []), fun {K F F' v a} e h => by
    cases a with
    | d x => exact Dp.mono e h
    | dct =>
      obtain ⟨p, h1, h2⟩ := h
      exact ⟨p, h1, e _ _ h2⟩⟩
def thK : Th → String
  | .d .none => "NoneType"
  | .d (.bool _) => "bool"
  | .d (.int _) => "int"
  | .d (.str _) => "str"
  | .d (.list _) => "list"
  | .d (.tuple _) => "tuple"
  | .d (.dict _) => "dict"
  | .dct => "dict"
def isK (k n : String) : Bool := k == n || (k == "bool" && n == "int")
def thIs (n : String) (a : Th) : Bool := isK (thK a) n
def thS : Th → Option Str
  | .d (.str s) => some s
  | _ => none
def thI : Th → Option Int
  | .d (.int s) => some s
  | _ => none
section
variable {K : PySem.W.Frag} {P : Addr → Prop} {F0 H0 F H : Hp} {v : V} {a : Th} {Q : VK}
theorem thS_fact {s : Str} (r : qTh.r K F v a) (h : thS a = some s) : v = .str s := by
  cases a with
  | dct => cases h
  | d x =>
    cases x with
    | str z =>
      cases (show some z = some s from h)
      cases (show Dp K F v (.str _) from r)
      rfl
    | _ => cases h
theorem thI_fact {s : Int} (r : qTh.r K F v a) (h : thI a = some s) : v = .int s := by
  cases a with
  | dct => cases h
  | d x =>
    cases x with
    | int z =>
      cases (show some z = some s from h)
      cases (show Dp K F v (.int _) from r)
      rfl
    | _ => cases h
theorem tx_sql {p : Addr} {vs : List V} (h : SqL K H p vs) : TyX K H (.ref p) (.type "list") := by
  rcases h with (h | ⟨o, h⟩) | ⟨o, its, n, h1, h2, _⟩
  · exact .base (.lst h)
  · exact .base (.frz h)
  · exact .kList h1 h2
theorem tx_th (S : Sx P F0 H0 F H) (r : qTh.r K F v a) : TyX K H v (.type (thK a)) := by
  cases a with
  | dct =>
    obtain ⟨p, rfl, h⟩ := r
    exact .base (.dK (S.sub _ _ h))
  | d x =>
    cases x with
    | none => cases (show Dp K F v .none from r); exact tx_non
    | bool b => cases (show Dp K F v (.bool b) from r); exact tx_bl
    | int b => cases (show Dp K F v (.int b) from r); exact tx_int
    | str b => cases (show Dp K F v (.str b) from r); exact tx_str
    | list b =>
      cases (show Dp K F v (.list b) from r) with
      | lst h _ => exact tx_sql (Same.seq S.sub h)
    | tuple b =>
      cases (show Dp K F v (.tuple b) from r) with
      | tup h _ => exact tx_sqt (same_t S.sub h)
    | dict b => cases (show Dp K F v (.dict b) from r)
theorem rd_isiTh {n : String} (s : TyX K H v (.type (thK a))) (h : (["NoneType", "bool", "int", "str", "list", "tuple", "dict"].all fun k => decide (PySem.W.kitOne [] (.type k) (.type n) = some (isK k n))) = true) (k : Q (.bl (thIs n a)) H) (hk : ∀ t, PySem.W.kitOne K (.type t) (.type n) = PySem.W.kitOne [] (.type t) (.type n) := by intro t; rfl) : rIsi K [v, .ty n] H Q := by
  refine ⟨v, .ty n, _, .type n, thIs n a, rfl, .ty n, s, (hk _).trans ?_, k⟩
  have hm : thK a ∈ ["NoneType", "bool", "int", "str", "list", "tuple", "dict"] := by
    cases a with
    | dct => decide
    | d x => cases x <;> simp [thK]
  exact of_decide_eq_true (List.all_eq_true.mp h _ hm)
theorem rd_dnew {σ : L2.St} (k : nK Q H (.dK [])) : tDNewK σ H Q := k
theorem rd_dict (S : Sx P F0 H0 F H) (k : ∀ v F' H', Sx P0 F H F' H' → qTh.r K F' v .dct → Q v H') : nK Q H (.dK []) :=
  alF S fun p F' H' c h => k _ F' H' c ⟨p, rfl, h⟩
end
/-! ### is, of truths -/
section
variable {X : Cx}
theorem op_isB : OpR X (compareOp .Is) (rB0 fun i j => .bl (decide (i = j))) := by
  intro pins s σ H x y v u Q I rx ry h
  obtain ⟨i, j, rfl, rfl, q⟩ := h
  cases rx; cases ry
  refine wpAny_is_plain (by cases i <;> cases j <;> rfl) ?_
  refine fin_bl I q ?_
  cases i <;> cases j <;> rfl
theorem op_isnotB : OpR X (compareOp .IsNot) (rB0 fun i j => .bl (!decide (i = j))) := by
  intro pins s σ H x y v u Q I rx ry h
  obtain ⟨i, j, rfl, rfl, q⟩ := h
  cases rx; cases ry
  show wpAny _ _ ((isSame _ _) >>= fun z => pure (Value.bool (!z))) _ _ s
  refine wpAny_bind (wpAny_isSame_plain (by cases i <;> cases j <;> rfl) (wpAny_pure (fin_bl I q ?_)))
  cases i <;> cases j <;> rfl
end
end Gl

namespace Gl
open PySem PySem.Spec PyProof.Rows L2

/-! ## iterators that hand out new pairs -/
structure Feeds2 (J : It) (n : Nat) (G : Hp → Prop) (it : Nat → V → V → Prop) : Prop where
  go : ∀ i H, i < n → G H → J.go i H
  stop : ∀ H, G H → J.stop n H
  yld : ∀ i H x H', i < n → G H → J.yld i H x H' → ∃ T u w, x = .ref T ∧ H T = none ∧ H' = upd H T (.tup [u, w]) ∧ it i u w
structure Typed2 {α β : Type} (A : R α) (B : R β) (K : PySem.W.Frag) (F : Hp) (n : Nat) (it : Nat → V → V → Prop) (xs : List (α × β)) : Prop where
  len : xs.length = n
  at_ : ∀ i u w, it i u w → ∃ a, xs[i]? = some a ∧ A.r K F u a.1 ∧ B.r K F w a.2
def enumI {α : Type} (xs : List α) : List (Int × α) := (rng 0 xs.length).zip xs
theorem enumI_len {α : Type} (xs : List α) : (enumI xs).length = xs.length := by
  unfold enumI
  rw [List.length_zip]
  have : (rng 0 (xs.length : Int)).length = xs.length := by unfold rng; simp
  rw [this, Nat.min_self]
theorem enumI_at {α : Type} {xs : List α} {i : Nat} {x : α} (h : xs[i]? = some x) : (enumI xs)[i]? = some ((i : Int), x) := by
  have hi : i < xs.length := (List.getElem?_eq_some_iff.mp h).1
  unfold enumI
  rw [List.getElem?_zip_eq_some]
  refine ⟨?_, h⟩
  unfold rng
  rw [List.getElem?_map, List.getElem?_range (by omega)]
  simp
theorem feedsE {K : PySem.W.Frag} {a : Addr} {vs : List V} : Feeds2 (Ite K a) vs.length (fun H => SqL K H a vs) (fun i u w => u = .int (i : Nat) ∧ vs[i]? = some w) :=
  ⟨fun i H h q => ⟨vs, vs[i], q, by simp [h]⟩, fun H q => ⟨vs, q, Nat.le_refl _⟩, fun i H x H' h q ⟨T, w, e1, e2, e3, e4⟩ => ⟨T, _, w, e1, e2, e3, rfl, e4 vs q⟩⟩
theorem typedE {α : Type} {A : R α} {K : PySem.W.Frag} {F : Hp} {vs : List V} {xs : List α} (r : Row A K F vs xs) : Typed2 qI A K F vs.length (fun i u w => u = .int (i : Nat) ∧ vs[i]? = some w) (enumI xs) :=
  ⟨by rw [enumI_len, (pLen r)], fun i u w ⟨e1, e2⟩ => by
    obtain ⟨a, h1, h2⟩ := pGetL r e2
    exact ⟨((i : Int), a), enumI_at h1, e1, h2⟩⟩
/-- a new pair, then on -/
def enK (g : TG) (σ : L2.St) (H : Hp) (Q : L2.St → Hp → Prop) (u w : V) : Prop := ∀ T, H T = none → g (.ref T) σ (upd H T (.tup [u, w])) Q
section
variable {P : Addr → Prop} {F0 H0 F H : Hp} {K : PySem.W.Frag} {g : TG} {σ : L2.St} {Q : L2.St → Hp → Prop} {u w : V}
theorem alE (S : Sx P F0 H0 F H) (k : ∀ T F' H', Sx P0 F H F' H' → SqT K F' T [u, w] → g (.ref T) σ H' Q) : enK g σ H Q u w :=
  fun T hT => k T _ _ ((Sx.refl0 S.sub).alloc hT) (.inl (.inl upd_same))
end
section
variable {J : It} {n : Nat} {G : Hp → Prop} {it : Nat → V → V → Prop} {α β S ρ : Type} {A : R α} {B : R β} {K : PySem.W.Frag} {F : Hp} {xs : List (α × β)} {g : TG} {tb : TS} {σ : L2.St} {H : Hp} {Nx Bx Cx : L2.St → Hp → Prop} {Rx : VK}
theorem rd_forS2 (Fd : Feeds2 J n G it) (Ty : Typed2 A B K F n it xs) {f : α × β → S → Option S} {s0 s1 : S} (hm : loopS f xs s0 = some s1) (Iv : S → L2.St → Hp → Prop) (hG : ∀ s σ H, Iv s σ H → G H) (h0 : Iv s0 σ H)
    (turn : ∀ (a : α × β) (u w : V) (s s' : S) (σ : L2.St) (H : Hp), A.r K F u a.1 → B.r K F w a.2 → Iv s σ H → f a s = some s' → enK g σ H (fun σ2 H2 => tb ⟨Iv s', Rx, Nx, Iv s'⟩ σ2 H2) u w)
    (done : ∀ σ H, Iv s1 σ H → Nx σ H) : ForG J g tb ⟨Nx, Rx, Bx, Cx⟩ σ H := by
  refine ⟨fun i m σ H => m = n - i ∧ i ≤ n ∧ ∃ s, Iv s σ H ∧ loopS f (xs.drop i) s = some s1, ⟨n, by simp, Nat.zero_le _, s0, h0, hm⟩, ?_⟩
  rintro i m σ H ⟨rfl, hi, s, iv, hl⟩
  by_cases hlt : i < n
  · obtain ⟨a, ha⟩ : ∃ a, xs[i]? = some a := ⟨xs[i]'(by rw [Ty.len]; exact hlt), by simp [Ty.len, hlt]⟩
    obtain ⟨s', e1, e2⟩ := loopS_at hl ha
    refine .inr ⟨Fd.go i H hlt (hG s σ H iv), Iv s', fun σ' H' p' => ⟨n - (i + 1), by omega, rfl, hlt, s', p', e2⟩, fun x H' y => ?_⟩
    obtain ⟨T, u, w, rfl, hT, rfl, hx⟩ := Fd.yld i H x H' hlt (hG s σ H iv) y
    obtain ⟨a', ha', r1, r2⟩ := Ty.at_ i u w hx
    rw [ha] at ha'
    cases ha'
    exact turn a u w s s' σ H r1 r2 iv e1 T hT
  · have e : i = n := by omega
    subst e
    rw [← Ty.len, List.drop_length] at hl
    cases hl
    exact .inl ⟨Fd.stop H (hG _ σ H iv), done σ H iv⟩
theorem rd_forC2 (Fd : Feeds2 J n G it) (Ty : Typed2 A B K F n it xs) {f : α × β → S → Option (Ctl S ρ)} {s0 : S} {c1 : Ctl S ρ} (hm : loopC f xs s0 = some c1) (Iv : S → L2.St → Hp → Prop) (hG : ∀ s σ H, Iv s σ H → G H) (h0 : Iv s0 σ H)
    (turn : ∀ (a : α × β) (u w : V) (s : S) (c : Ctl S ρ) (σ : L2.St) (H : Hp), A.r K F u a.1 → B.r K F w a.2 → Iv s σ H → f a s = some c → (∀ s' σ' H', c = .bk s' → Iv s' σ' H' → Nx σ' H') → (∀ r, c = .rt r → c1 = .rt r) →
      enK g σ H (fun σ2 H2 => tb ⟨fun σ' H' => ∃ s', c = .nx s' ∧ Iv s' σ' H', Rx, Nx, fun σ' H' => ∃ s', c = .nx s' ∧ Iv s' σ' H'⟩ σ2 H2) u w)
    (done : ∀ s σ H, c1 = .nx s → Iv s σ H → Nx σ H) : ForG J g tb ⟨Nx, Rx, Bx, Cx⟩ σ H := by
  refine ⟨fun i m σ H => m = n - i ∧ i ≤ n ∧ ∃ s, Iv s σ H ∧ loopC f (xs.drop i) s = some c1, ⟨n, by simp, Nat.zero_le _, s0, h0, hm⟩, ?_⟩
  rintro i m σ H ⟨rfl, hi, s, iv, hl⟩
  by_cases hlt : i < n
  · obtain ⟨a, ha⟩ : ∃ a, xs[i]? = some a := ⟨xs[i]'(by rw [Ty.len]; exact hlt), by simp [Ty.len, hlt]⟩
    obtain ⟨c, e1, e2⟩ := loopC_at hl ha
    refine .inr ⟨Fd.go i H hlt (hG s σ H iv), fun σ' H' => ∃ s', c = .nx s' ∧ Iv s' σ' H', fun σ' H' p' => ?_, fun x H' y => ?_⟩
    · obtain ⟨s', rfl, p'⟩ := p'
      exact ⟨n - (i + 1), by omega, rfl, hlt, s', p', e2⟩
    · obtain ⟨T, u, w, rfl, hT, rfl, hx⟩ := Fd.yld i H x H' hlt (hG s σ H iv) y
      obtain ⟨a', ha', r1, r2⟩ := Ty.at_ i u w hx
      rw [ha] at ha'
      cases ha'
      refine turn a u w s c σ H r1 r2 iv e1 (fun s' σ' H' e p => ?_) (fun r e => ?_) T hT
      · subst e
        exact done s' σ' H' (Option.some.inj e2).symm p
      · subst e
        exact (Option.some.inj e2).symm
  · have e : i = n := by omega
    subst e
    rw [← Ty.len, List.drop_length] at hl
    exact .inl ⟨Fd.stop H (hG _ σ H iv), done s σ H (Option.some.inj hl).symm iv⟩
end
section
variable {J : It} {n : Nat} {G : Hp → Prop} {it : Nat → V → V → Prop} {α β γ S : Type} {A : R α} {B : R β} {C : R γ} {K : PySem.W.Frag} {F1 H1 : Hp} {xs : List (α × β)} {g : TG} {tt : TT} {te : TE} {vs : List Nat} {σ : L2.St} {Q : VK}
theorem rd_comp2 (Fd : Feeds2 J n G it) (Ty : Typed2 A B K F1 n it xs) {f : α × β → S → Option (Option γ × S)} {s0 : S} {r : List γ × S} (hm : comp f xs s0 = some r) (hz : fitsE xs = true) {Pc : Addr → Prop} (hlv : ∀ a, Pc a → H1 a ≠ none) (hsub : Same F1 H1) (Ex : S → Hp → Hp → Prop)
    (hG : ∀ s F H, Sx Pc F1 H1 F H → Ex s F H → G H) (h0 : Ex s0 F1 H1) (hEx : ∀ s F H q o, Ex s F H → H1 q = none → H q = none → Ex s F (upd H q o)) (hEp : ∀ s F H q u o, Ex s F H → H1 q = none → H q = some u → Ex s F (upd H q o))
    (turn : ∀ (a : α × β) (u w : V) (s : S) (o : Option γ × S) (F H : Hp) (D : Addr) (acc : List V), A.r K F1 u a.1 → B.r K F1 w a.2 → Sx Pc F1 H1 F H → Ex s F H → Ow Pc H1 F H D (.lst acc) → H1 D = none → f a s = some o →
      ∀ (E : Hp → Prop) (N : V → Hp → Prop), (∀ y b F' H', o.1 = some b → Sx Pc F H F' H' → C.r K F' y b → Ex o.2 F' H' → N y H') → (∀ F' H', o.1 = none → Sx Pc F H F' H' → Ex o.2 F' H' → E H') →
      enK g (wipe σ vs) H (fun σ2 H2 => wipe σ2 vs = wipe σ vs ∧ tt σ2 H2 fun b H3 => if b = true then te σ2 H3 N else E H3) u w)
    (done : ∀ D us F H, H1 D = none → Sx Pc F1 H1 F H → Ex r.2 F H → Ow Pc H1 F H D (.lst us) → Row C K F us r.1 → Q (.ref D) H) : ∀ D, H1 D = none → LcG J g tt te vs σ D Q H1 := by
  intro D hD
  refine ⟨fun i m H => m = n - i ∧ i ≤ n ∧ ∃ s F acc ys r', Sx Pc F1 H1 F H ∧ Ex s F H ∧ Ow Pc H1 F H D (.lst acc) ∧ Row C K F acc ys ∧ acc.length ≤ i ∧ comp f (xs.drop i) s = some r' ∧ r = (ys ++ r'.1, r'.2), ⟨n, by simp, Nat.zero_le _, s0, F1, [], [], r, ?_, ?_, ?_, .nil, Nat.le_refl _, hm, rfl⟩, ?_⟩
  · exact (Sx.refl hsub hlv).temp hD
  · exact hEx _ _ _ _ _ h0 hD hD
  · exact (Sx.refl hsub hlv).own hD
  rintro i m H ⟨rfl, hi, s, F, acc, ys, r', S, ex, w, row, hal, hl, hr⟩
  by_cases hlt : i < n
  · obtain ⟨a, ha⟩ : ∃ a, xs[i]? = some a := ⟨xs[i]'(by rw [Ty.len]; exact hlt), by simp [Ty.len, hlt]⟩
    obtain ⟨o, r2, e1, e2, e3⟩ := comp_at hl ha
    refine .inr ⟨Fd.go i H hlt (hG s F H S ex), fun H' => ∃ s F acc ys r', Sx Pc F1 H1 F H' ∧ Ex s F H' ∧ Ow Pc H1 F H' D (.lst acc) ∧ Row C K F acc ys ∧ acc.length ≤ i + 1 ∧ comp f (xs.drop (i + 1)) s = some r' ∧ r = (ys ++ r'.1, r'.2), fun H' p' => ⟨n - (i + 1), by omega, rfl, hlt, p'⟩, fun x H' y => ?_⟩
    obtain ⟨T, u, v, rfl, hT, rfl, hx⟩ := Fd.yld i H x H' hlt (hG s F H S ex) y
    obtain ⟨a', ha', ra, rb⟩ := Ty.at_ i u v hx
    rw [ha] at ha'
    cases ha'
    have nD : ∀ F' H'', Sx Pc F H F' H'' → Ow Pc H1 F' H'' D (.lst acc) := fun F' H'' c => w.call c fun z => hlv D z hD
    have hsz : acc.length < sizeLine := by
      have := of_decide_eq_true hz
      rw [Ty.len] at this
      omega
    refine turn a u v s o F H D acc ra rb S ex w hD e1 _ _ (fun y b F' H'' ho c rb ex' => ?_) (fun F' H'' ho c ex' => ?_) T hT
    · have w' := nD F' H'' c
      have S' : Sx Pc F1 H1 F' H'' := S.call c fun a z => .inl z
      refine ⟨acc, w'.at_, hsz, o.2, F', acc ++ [y], ys ++ [b], r2, S'.put w', hEp _ _ _ _ _ _ ex' hD w'.at_, w'.put, (Row.mono c.le row).snoc rb, by simp; omega, e2, ?_⟩
      rw [hr, e3, ho]
      simp
    · have w' := nD F' H'' c
      have S' : Sx Pc F1 H1 F' H'' := S.call c fun a z => .inl z
      refine ⟨o.2, F', acc, ys, r2, S', ex', w', Row.mono c.le row, by omega, e2, ?_⟩
      rw [hr, e3, ho]
  · have e : i = n := by omega
    subst e
    rw [← Ty.len, List.drop_length] at hl
    cases hl
    refine .inl ⟨Fd.stop H (hG _ F H S ex), ?_⟩
    rw [hr] at done
    exact done D acc F H hD S ex w (by simpa using row)
end
/-! ## comprehensions of two clauses -/
def compI {β γ : Type} (f : β → Option (Option γ)) : List β → Option (List γ)
  | [] => some []
  | y :: ys => (f y).bind fun o => (compI f ys).bind fun r => some (match o with
    | some z => z :: r
    | none => r)
def comp2 {α β γ : Type} (f1 : α → Option (Option (List β))) (f2 : α → β → Option (Option γ)) : List α → Option (List γ)
  | [] => some []
  | x :: xs => (f1 x).bind fun o => (match o with
    | none => some []
    | some ys => compI (f2 x) ys).bind fun r => (comp2 f1 f2 xs).bind fun q => some (r ++ q)
theorem drop_at {α : Type} {xs : List α} {i : Nat} {a : α} (ha : xs[i]? = some a) : xs.drop i = a :: xs.drop (i + 1) := by
  have hi : i < xs.length := (List.getElem?_eq_some_iff.mp ha).1
  rw [List.drop_eq_getElem_cons hi, (List.getElem?_eq_some_iff.mp ha).2]
abbrev LcG2 (J : It) (g : TG) (tt : TT) (wi1 : TI) (g1 : TG) (tt1 : TT) (te : TE) (vs vs1 : List Nat) (σ : L2.St) (D : Addr) (Q : VK) (H1 : Hp) : Prop := ∃ W : Nat → Nat → Hp → Prop, (∃ m, W 0 m (upd H1 D (.lst []))) ∧ ∀ i m H, W i m H →
  (J.stop i H ∧ Q (.ref D) H) ∨ (J.go i H ∧ ∃ Nx : Hp → Prop, (∀ H', Nx H' → ∃ m', m' < m ∧ W (i + 1) m' H') ∧ ∀ x H', J.yld i H x H' → g x (wipe σ vs) H' fun σ2 H2 => wipe σ2 vs = wipe σ vs ∧ tt σ2 H2 fun b H3 =>
    if b = true then wi1 σ2 H3 fun J1 H4 => ∃ W1 : Nat → Nat → Hp → Prop, (∃ m, W1 0 m H4) ∧ ∀ j k H, W1 j k H →
      (J1.stop j H ∧ Nx H) ∨ (J1.go j H ∧ ∃ Nx1 : Hp → Prop, (∀ H', Nx1 H' → ∃ k', k' < k ∧ W1 (j + 1) k' H') ∧ ∀ x H', J1.yld j H x H' → g1 x (wipe σ2 vs1) H' fun σ3 H5 => wipe σ3 vs1 = wipe σ2 vs1 ∧ tt1 σ3 H5 fun b H6 =>
        if b = true then te σ3 H6 fun y H7 => ∃ acc, H7 D = some (.lst acc) ∧ acc.length < sizeLine ∧ Nx1 (upd H7 D (.lst (acc ++ [y]))) else Nx1 H6)
    else Nx H3)
section
variable {J : It} {n : Nat} {G : Hp → Prop} {it : Nat → V → Prop} {α β γ : Type} {A : R α} {B : R β} {C : R γ} {K : PySem.W.Frag} {F1 H1 : Hp} {xs : List α} {g g1 : TG} {tt tt1 : TT} {wi1 : TI} {te : TE} {vs vs1 : List Nat} {σ : L2.St} {Q : VK}
theorem rd_lc2 {wi : TI} (k : wi σ H1 fun J H1 => ∀ D, H1 D = none → LcG2 J g tt wi1 g1 tt1 te vs vs1 σ D Q H1) : tLc2 wi g tt wi1 g1 tt1 te vs vs1 σ H1 Q := k
theorem rd_compT (Fd : Feeds J n G it) (Ty : Typed A K F1 n it xs) {f1 : α → Option (Option (List β))} {f2 : α → β → Option (Option γ)} {r : List γ} (hm : comp2 f1 f2 xs = some r) (hz : fitsE r = true) (hsub : Same F1 H1)
    (hG : ∀ F H, Sx P0 F1 H1 F H → G H) (Sg : L2.St → L2.St → α → V → Prop)
    (turn : ∀ (a : α) (x : V) (o : Option (List β)) (F H : Hp), A.r K F1 x a → Sx P0 F1 H1 F H → f1 a = some o →
      ∀ (E : Hp → Prop) (I : L2.St → It → Hp → Prop), (∀ F' H', o = none → Sx P0 F H F' H' → E H') →
        (∀ σ2 J1 n1 G1 it1 ys F' H', o = some ys → Sx P0 F H F' H' → Sg (wipe σ vs) σ2 a x → Feeds J1 n1 G1 it1 → Typed B K F' n1 it1 ys → (∀ F'' H'', Same F' F'' → Same F'' H'' → G1 H'') → I σ2 J1 H') →
        g x (wipe σ vs) H fun σ2 H2 => wipe σ2 vs = wipe σ vs ∧ tt σ2 H2 fun b H3 => if b = true then wi1 σ2 H3 fun J1 H4 => I σ2 J1 H4 else E H3)
    (turn2 : ∀ (a : α) (x : V) (b : β) (y : V) (o : Option γ) (σ2 : L2.St) (F H : Hp), A.r K F x a → B.r K F y b → Sg (wipe σ vs) σ2 a x → Sx P0 F1 H1 F H → f2 a b = some o →
      ∀ (E : Hp → Prop) (N : V → Hp → Prop), (∀ z c F' H', o = some c → Sx P0 F H F' H' → C.r K F' z c → N z H') → (∀ F' H', o = none → Sx P0 F H F' H' → E H') →
        g1 y (wipe σ2 vs1) H fun σ3 H5 => wipe σ3 vs1 = wipe σ2 vs1 ∧ tt1 σ3 H5 fun b H6 => if b = true then te σ3 H6 N else E H6)
    (done : ∀ D us F H, H1 D = none → Sx P0 F1 H1 F H → Ow P0 H1 F H D (.lst us) → Row C K F us r → Q (.ref D) H) : ∀ D, H1 D = none → LcG2 J g tt wi1 g1 tt1 te vs vs1 σ D Q H1 := by
  intro D hD
  refine ⟨fun i m H => m = n - i ∧ i ≤ n ∧ ∃ F acc ys r', Sx P0 F1 H1 F H ∧ Ow P0 H1 F H D (.lst acc) ∧ Row C K F acc ys ∧ comp2 f1 f2 (xs.drop i) = some r' ∧ r = ys ++ r', ⟨n, by simp, Nat.zero_le _, F1, [], [], r, (Sx.refl0 hsub).temp hD, (Sx.refl0 hsub).own hD, .nil, hm, rfl⟩, ?_⟩
  rintro i m H ⟨rfl, hi, F, acc, ys, r', S, w, row, hl, hr⟩
  by_cases hlt : i < n
  · obtain ⟨a, ha⟩ : ∃ a, xs[i]? = some a := ⟨xs[i]'(by rw [Ty.len]; exact hlt), by simp [Ty.len, hlt]⟩
    rw [drop_at ha] at hl
    obtain ⟨o, e1, hl⟩ := bd_some hl
    obtain ⟨ri, e2, hl⟩ := bd_some hl
    obtain ⟨q, e3, hl⟩ := bd_some hl
    cases hl
    refine .inr ⟨Fd.go i H hlt (hG F H S), fun H' => ∃ F acc, Sx P0 F1 H1 F H' ∧ Ow P0 H1 F H' D (.lst acc) ∧ Row C K F acc (ys ++ ri), fun H' ⟨F', acc', S', w', row'⟩ => ⟨n - (i + 1), by omega, rfl, hlt, F', acc', ys ++ ri, q, S', w', row', e3, by rw [hr, List.append_assoc]⟩, fun x H' y => ?_⟩
    obtain ⟨rfl, hx⟩ := Fd.yld i H x H' hlt (hG F H S) y
    obtain ⟨a', ha', ra⟩ := Ty.at_ i x hx
    rw [ha] at ha'
    cases ha'
    refine turn a x o F H' ra S e1 _ (fun σ2 J1 H4 => _) (fun F' H'' ho c => ?_) fun σ2 J1 n1 G1 it1 zs F' H'' ho c sg Fd1 Ty1 hG1 => ?_
    · subst ho
      cases e2
      exact ⟨F', acc, S.call0 c, w.call0 c, by rw [List.append_nil]; exact Row.mono c.le row⟩
    · subst ho
      refine ⟨fun j k H => k = n1 - j ∧ j ≤ n1 ∧ ∃ F2 acc2 ys2 r2, Sx P0 F1 H1 F2 H ∧ Same F' F2 ∧ Ow P0 H1 F2 H D (.lst acc2) ∧ Row C K F2 acc2 (ys ++ ys2) ∧ compI (f2 a) (zs.drop j) = some r2 ∧ ri = ys2 ++ r2, ⟨n1, by simp, Nat.zero_le _, F', acc, [], ri, S.call0 c, Same.refl _, w.call0 c, by rw [List.append_nil]; exact Row.mono c.le row, e2, rfl⟩, ?_⟩
      rintro j k H5 ⟨rfl, hj, F2, acc2, ys2, r2, S2, sm, w2, row2, hl2, hr2⟩
      by_cases hlt2 : j < n1
      · obtain ⟨b, hb⟩ : ∃ b, zs[j]? = some b := ⟨zs[j]'(by rw [Ty1.len]; exact hlt2), by simp [Ty1.len, hlt2]⟩
        rw [drop_at hb] at hl2
        obtain ⟨oz, e4, hl2⟩ := bd_some hl2
        obtain ⟨q2, e5, hl2⟩ := bd_some hl2
        cases hl2
        refine .inr ⟨Fd1.go j H5 hlt2 (hG1 F2 H5 sm S2.sub), fun H => ∃ F2 acc2 ys2, Sx P0 F1 H1 F2 H ∧ Same F' F2 ∧ Ow P0 H1 F2 H D (.lst acc2) ∧ Row C K F2 acc2 (ys ++ ys2) ∧ ri = ys2 ++ q2, fun H6 ⟨F3, acc3, ys3, S3, sm3, w3, row3, hr3⟩ => ⟨n1 - (j + 1), by omega, rfl, hlt2, F3, acc3, ys3, q2, S3, sm3, w3, row3, e5, hr3⟩, fun v H6 y => ?_⟩
        obtain ⟨rfl, hx2⟩ := Fd1.yld j H5 v H6 hlt2 (hG1 F2 H5 sm S2.sub) y
        obtain ⟨b', hb', rb⟩ := Ty1.at_ j v hx2
        rw [hb] at hb'
        cases hb'
        have leF : Same F1 F2 := S2.le
        refine turn2 a x b v oz σ2 F2 H6 (A.mono leF ra) (B.mono sm rb) sg S2 e4 _ _ (fun z cz F3 H7 ho c3 rz => ?_) fun F3 H7 ho c3 => ?_
        · subst ho
          have w3 := w2.call0 c3
          have S3 := S2.call0 c3
          have row3 := Row.mono c3.le row2
          have hsz : acc2.length < sizeLine := by
            have h1 := of_decide_eq_true hz
            have h2 := pLen row3
            rw [hr, hr2] at h1
            simp at h1 h2
            omega
          refine ⟨acc2, w3.at_, hsz, F3, acc2 ++ [z], ys2 ++ [cz], S3.put w3, sm.trans c3.le, w3.put, ?_, by rw [hr2]; simp⟩
          rw [← List.append_assoc]
          exact row3.snoc rz
        · subst ho
          exact ⟨F3, acc2, ys2, S2.call0 c3, sm.trans c3.le, w2.call0 c3, Row.mono c3.le row2, hr2⟩
      · have e : j = n1 := by omega
        subst e
        rw [← Ty1.len, List.drop_length] at hl2
        cases hl2
        refine .inl ⟨Fd1.stop H5 (hG1 F2 H5 sm S2.sub), F2, acc2, S2, w2, ?_⟩
        rw [hr2, List.append_nil]; exact row2
  · have e : i = n := by omega
    subst e
    rw [← Ty.len, List.drop_length] at hl
    cases hl
    refine .inl ⟨Fd.stop H (hG F H S), done D acc F H hD S w ?_⟩
    rw [hr, List.append_nil]; exact row
end
/-! ## instances -/
section
variable {K : PySem.W.Frag} {P : Addr → Prop} {F0 H0 F H : Hp} {v : V} {Q : VK} {σ : L2.St} {ta te to : TE} {C p dx : Addr} {m f : Str} {sp : Sp} {E : XK} {t : TA} {dvs : List V} {fs : List (Str × V)}
def fdK (K : PySem.W.Frag) (f : Str) (Q : VK) : VK := fun x H1 => ∃ a C dx fs v, x = .ref a ∧ H1 a = some (.ins C dx fs) ∧ Cls K C ∧ NoAttr K C f ∧ fs.lookup f = some v ∧ Q v H1
theorem rd_fld (k : ta σ H (fdK K f Q)) : tFld K ta f σ H Q := k
theorem fd_at {u : V} (h : H p = some (.ins C dx fs)) (c : Cls K C) (n : NoAttr K C f) (l : fs.lookup f = some u) (k : Q u H) : fdK K f Q (.ref p) H := ⟨p, C, dx, fs, u, rfl, h, c, n, l, k⟩
def fsK (K : PySem.W.Frag) (f : Str) (y : V) (R : Hp → Prop) : VK := fun x H2 => ∃ a C dx fs, x = .ref a ∧ H2 a = some (.ins C dx fs) ∧ Cls K C ∧ NoAttr K C f ∧ fs.length < 1000 ∧ R (upd H2 a (.ins C dx (putF f y fs)))
theorem rd_sfld {N B C : L2.St → Hp → Prop} {R : VK} (k : te σ H fun y H1 => to σ H1 (fsK K f y (N σ))) : sFld K to te f ⟨N, R, B, C⟩ σ H := k
theorem fset {y : V} {R : Hp → Prop} {fs' : List (Str × V)} (S : Sx P F0 H0 F H) (w : Ow P H0 F H p (.ins C dx fs)) (c : Cls K C) (n : NoAttr K C f) (l : Nat.ble fs.length 900 = true) (e : putF f y fs = fs') (k : ∀ H', Sx (fun a => a = p) F H F H' → Ow P H0 F H' p (.ins C dx fs') → R H') : fsK K f y R (.ref p) H :=
  ⟨p, C, dx, fs, rfl, w.at_, c, n, Nat.lt_of_le_of_lt (Nat.le_of_ble_eq_true l) (by decide), by rw [e]; exact k _ (putS S w) w.put⟩
def mtK (C : Addr) (m : Str) (G : V → Hp → Prop) : VK := fun x H1 => ∃ a dx fs, x = .ref a ∧ H1 a = some (.ins C dx fs) ∧ fs.lookup m = none ∧ G x H1
theorem rd_meth (k : ta σ H (mtK C m fun x H1 => t σ H1 fun vs H2 => sp (x :: (vs ++ dvs)) H2 Q E)) : tMeth C m sp dvs E ta t σ H Q := k
theorem mt_at {G : V → Hp → Prop} (h : H p = some (.ins C dx fs)) (l : fs.lookup m = none) (k : G (.ref p) H) : mtK C m G (.ref p) H := ⟨p, dx, fs, rfl, h, l, k⟩
/-- a new instance: what is wanted of it -/
def mkK (C : Addr) (sp : Sp) (E : XK) (Q : VK) : List V → Hp → Prop := fun vs H1 => ∀ x dx, H1 x = none → H1 dx = none → dx ≠ x → sp (.ref x :: vs) (upd (upd H1 dx (.own x)) x (.ins C dx [])) (fun v H2 => v = .non ∧ Q (.ref x) H2) E
theorem rd_makeR (k : t σ H (mkK C sp E Q)) : StX.tMakeR C sp E t σ H Q := k
theorem rd_make (k : t σ H (mkK C (fun vs => sp (vs ++ dvs)) E Q)) : tMake C sp dvs E t σ H Q := k
/-- what a def with a star parameter promises, by what its body does -/
def starSp (n : Nat) (sp : Sp) : Sp := fun vs H Q E => ∃ ws rest, vs = ws ++ rest ∧ ws.length = n ∧ rest.length ≤ sizeLine ∧ ∀ p, H p = none → sp (ws ++ [.ref p]) (upd H p (.tup rest)) Q E
theorem mk_star {α : Type} {A : R α} {vs : List V} {xs : List α} (S : Sx P F0 H0 F H) (r : Row A K F vs xs) (hl : Nat.ble vs.length 900 = true)
    (k : ∀ x dx v F1 H1, H x = none → Sx P0 F H F1 H1 → Ow (fun a => a = x) H1 F1 H1 x (.ins C dx []) → (qT A).r K F1 v xs → sp [.ref x, v] H1 (fun v H2 => v = .non ∧ Q (.ref x) H2) E) : mkK C (starSp 1 sp) E Q vs H := by
  intro x dx hx hdx ne
  refine ⟨[.ref x], vs, rfl, rfl, Nat.le_trans (Nat.le_of_ble_eq_true hl) (Nat.le_trans (by decide) (show 1000 ≤ sizeLine by rw [sizeLine_eq]; decide)), fun p hp => ?_⟩
  have hdx2 : upd H dx (.own x) x = none := by rw [upd_ne (Ne.symm ne)]; exact hx
  have c1 : Sx P0 F H F (upd (upd H dx (.own x)) x (.ins C dx [])) := ((Sx.refl0 S.sub).temp hdx).temp hdx2
  have hxp : x ≠ p := fun e => by subst e; rw [upd_same] at hp; cases hp
  have c2 := c1.alloc (o := .tup vs) hp
  refine k x dx (.ref p) _ _ hx c2 ⟨?_, ?_, .inr rfl⟩ ⟨p, vs, rfl, .inl (.inl upd_same), Row.mono c2.le r⟩
  · rw [upd_ne hxp]
    exact S.free hx
  · rw [upd_ne hxp, upd_same]
/-- a new instance without a star parameter -/
theorem mk_plain {vs : List V} (S : Sx P F0 H0 F H)
    (k : ∀ x dx H1, H x = none → Sx P0 F H F H1 → Ow (fun a => a = x) H1 F H1 x (.ins C dx []) → sp (.ref x :: vs) H1 (fun v H2 => v = .non ∧ Q (.ref x) H2) E) : mkK C sp E Q vs H := by
  intro x dx hx hdx ne
  have hdx2 : upd H dx (.own x) x = none := by rw [upd_ne (Ne.symm ne)]; exact hx
  exact k x dx _ hx (((Sx.refl0 S.sub).temp hdx).temp hdx2) ⟨S.free hx, upd_same, .inr rfl⟩
/-- what __init__ has made is let stand for good -/
theorem fzI {x : Addr} {F1 H1 F' H' : Hp} {o : HO} (c1 : Sx P0 F H F1 H1) (hx : H x = none) (c : Sx (fun a => a = x) F1 H1 F' H') (w : Ow (fun a => a = x) H1 F' H' x o) : ∃ F'', Sx P0 F H F'' H' ∧ Same F' F'' ∧ F'' x = some o := by
  have S2 : Sx P0 F H F' H' := c1.call c fun a e => by subst e; exact .inr hx
  have w2 : Ow P0 H F' H' x o := ⟨w.fr, w.at_, .inl hx⟩
  exact ⟨_, S2.freeze w2 hx, w2.leF, upd_same⟩
end
/-! ## join, xs[i] = v -/
section
variable {K : PySem.W.Frag} {P : Addr → Prop} {F0 H0 F H : Hp} {v : V} {Q : VK} {α : Type} {A : R α} {xs : List α} {p : Addr} {vs : List V} {i : Int}
def joinOk (a : Str) (ys : List Str) : Bool := decide ((ys.map (·.length)).sum + ys.length * a.length ≤ 16777216)
theorem row_str {vs : List V} {xs : List Str} (r : Row qS K F vs xs) : vs = xs.map V.str := by
  induction r with
  | nil => rfl
  | cons h t ih =>
    rw [ih, show _ = _ from h]; rfl
def rJoin (K : PySem.W.Frag) : V → List V → Hp → VK → Prop := fun x xs H Q => ∃ a p, ∃ ys : List Str, x = .str a ∧ xs = [.ref p] ∧ (SqL K H p (ys.map V.str) ∨ SqT K H p (ys.map V.str)) ∧ (ys.map (·.length)).sum + ys.length * a.length ≤ 16777216 ∧ Q (.str (Txt.join a ys)) H
theorem mt_joinK {X : Cx} : MtR X "str.join" (rJoin X.K) := mt_join
theorem rd_join {a : Str} {xs : List Str} (s : SeenQ qS K F H v xs) (h : joinOk a xs = true) (k : Q (.str (Txt.join a xs)) H) : rJoin K (.str a) [v] H Q := by
  obtain ⟨p, vs, rfl, h1, r⟩ := s.seq
  obtain rfl := row_str r
  exact ⟨a, p, xs, rfl, rfl, h1, of_decide_eq_true h, k⟩
theorem tyS_str {H : Hp} {x : Str} : tyV K "str" (.str x) H := by first | exact .inr (.inl ⟨rfl, _, rfl⟩) | exact ⟨rfl, _, rfl⟩ | (unfold tyV; simp)
def setI {α : Type} (xs : List α) (i : Int) (a : α) : Option (List α) := (ixN xs.length i).bind fun j => some (xs.set j a)
theorem rd_setL {R : Hp → Prop} {y : V} {a : α} {zs : List α} (S : Sx P F0 H0 F H) (w : Ow P H0 F H p (.lst vs)) (r : Row A K F vs xs) (ra : A.r K F y a) (h : setI xs i a = some zs) (k : ∀ us H', Sx (fun a => a = p) F H F H' → Ow P H0 F H' p (.lst us) → Row A K F us zs → R H') : rSetL (.ref p) (.int i) y H R := by
  obtain ⟨j, h1, h2⟩ := bd_some h
  cases h2
  exact ⟨p, vs, i, j, rfl, rfl, w.at_, by rw [pLen r]; exact h1, k _ _ (putS S w) w.put (pSet ra j r)⟩
end
section
variable {K : PySem.W.Frag} {P : Addr → Prop} {F0 H0 F H : Hp} {v : V} {α : Type} {A : R α} {xs : List α} {RI : It → Hp → Prop} {σ : L2.St} {tr : TA}
def wE (K : PySem.W.Frag) (RI : It → Hp → Prop) : List V → Hp → Prop := fun vs H1 => ∃ a xs, vs = [.ref a] ∧ SqL K H1 a xs ∧ RI (Ite K a) H1
theorem rd_iE (k : tr σ H (wE K RI)) : iEnum K tr σ H RI := k
theorem rd_wE (S : Sx P F0 H0 F H) (r : (qL A).r K F v xs) (k : ∀ p vs, SqL K F p vs → Row A K F vs xs → RI (Ite K p) H) : wE K RI [v] H := by
  obtain ⟨p, vs, rfl, h1, h2⟩ := r
  exact ⟨p, vs, rfl, Same.seq S.sub (SqL.of h1), k p vs (SqL.of h1) h2⟩
end
section
variable {K : PySem.W.Frag} {P : Addr → Prop} {F0 H0 F H : Hp} {v : V} {Q : VK} {α : Type} {A : R α} {xs : List α} {lo hi : Option Int}
theorem rd_slA (S : Sx P F0 H0 F H) (r : (qT A).r K F v xs) (k : ∀ v' F' H', Sx P0 F H F' H' → (qT A).r K F' v' (cut xs lo hi) → Q v' H') : rSlA K v lo hi H Q := by
  obtain ⟨p, vs, rfl, h1, h2⟩ := id r
  refine ⟨p, vs, rfl, same_t S.sub h1, fun hw => ?_, fun _ q hq => alT' S k q _ hq (row_cut h2 lo hi)⟩
  refine k _ F H (Sx.refl0 S.sub) ?_
  have e : cut xs lo hi = xs := by
    unfold cut
    rw [← pLen h2, hw.1, hw.2, List.drop_zero, Nat.sub_zero, List.take_of_length_le (by rw [pLen h2]; exact Nat.le_refl _)]
  rw [e]
  exact r
end
section
variable {X : Cx} {K : PySem.W.Frag} {e l tg : Expr} {te : TE} {f : Str} {pos : Pos}
theorem pi_tupK (hl : PE X l te) (hK : X.K = K := by rfl) : PI X tg l (iTup K te) := by subst hK; exact pi_tup hl
theorem pi_listK (hl : PE X l te) (hK : X.K = K := by rfl) : PI X tg l (iList K te) := by subst hK; exact pi_list hl
theorem pg_tupK {es : List Expr} {k n : Nat} {t : TGs} (hc : X.calm = true) (h : PGs X es t) (hK : X.K = K := by rfl)
    (hn : (assignEach es X.env).length = n := by rfl) (hst : (assignEach es X.env).findIdx? (·.1) = none := by rfl) : PG X (.Tuple es k pos) (gTup K n t) := by subst hK; exact pg_tup hc h hn hst
theorem pe_fldK (he : PE X e te) (hb : attributeBase e f X.env (eval e X.env) = eval e X.env) (hK : X.K = K := by rfl) : PE X (.Attribute e f pos) (tFld K te f) := by subst hK; exact pe_fld he hb
end
end Gl

namespace Gl
open PySem PySem.Spec PyProof.Rows L2

/-! ## sorted rows -/
def leS (a b : Str) : Bool := decide (a.cps.toList ≤ b.cps.toList)
def srtS (xs : List Str) : List Str := xs.mergeSort leS
theorem leS_trans (a b c : Str) (h : leS a b = true) (k : leS b c = true) : leS a c = true := decide_eq_true (List.le_trans (of_decide_eq_true h) (of_decide_eq_true k))
theorem leS_total (a b : Str) : (leS a b || leS b a) = true := by
  rcases List.le_total a.cps.toList b.cps.toList with h | h
  · rw [show leS a b = true from decide_eq_true h]; rfl
  · rw [show leS b a = true from decide_eq_true h, Bool.or_true]
theorem leS_anti (a b : Str) (h : leS a b = true) (k : leS b a = true) : a = b := by
  have e : a.cps.toList = b.cps.toList := List.le_antisymm (of_decide_eq_true h) (of_decide_eq_true k)
  obtain ⟨a⟩ := a; obtain ⟨b⟩ := b
  exact congrArg Str.mk (Array.toList_inj.mp e)
theorem rising_pw : ∀ (p : Str) (l : List Str), risingS p l = true → (p :: l).Pairwise fun a b => leS a b = true
  | p, [], _ => List.pairwise_singleton ..
  | p, x :: r, h => by
    obtain ⟨h1, h2⟩ := Bool.and_eq_true_iff.mp (show (!ltCps x.cps.toList p.cps.toList && risingS x r) = true from h)
    have h3 : leS p x = true := by
      rw [ltCps_eq] at h1
      refine decide_eq_true (List.not_lt.mp fun z => ?_)
      rw [decide_eq_true z] at h1
      cases h1
    have h4 := rising_pw x r h2
    refine List.pairwise_cons.mpr ⟨fun y hy => ?_, h4⟩
    rcases List.mem_cons.mp hy with rfl | hy
    · exact h3
    · exact leS_trans _ _ _ h3 ((List.pairwise_cons.mp h4).1 y hy)
theorem sorted_pw {l : List Str} (h : sortedS l = true) : l.Pairwise fun a b => leS a b = true := by
  cases l with
  | nil => exact .nil
  | cons p r => exact rising_pw p r h
theorem srtS_pw (l : List Str) : (srtS l).Pairwise fun a b => leS a b = true := List.pairwise_mergeSort (le := leS) leS_trans leS_total l
theorem srtS_perm (l : List Str) : (srtS l).Perm l := List.mergeSort_perm l leS
theorem srtS_eq {l m : List Str} (p : l.Perm m) (h : l.Pairwise fun a b => leS a b = true) : l = srtS m :=
  List.Perm.eq_of_pairwise (le := fun a b => leS a b = true) (fun a b _ _ => leS_anti a b) h (srtS_pw m) (p.trans (srtS_perm m).symm)
def leI (a b : Int) : Bool := decide (a ≤ b)
def srtI (xs : List Int) : List Int := xs.mergeSort leI
theorem srtI_pw (l : List Int) : (srtI l).Pairwise (· ≤ ·) := by
  have := List.pairwise_mergeSort (le := leI) (fun a b c h k => decide_eq_true (Int.le_trans (of_decide_eq_true h) (of_decide_eq_true k))) (fun a b => by
    rcases Int.le_total a b with h | h
    · rw [show leI a b = true from decide_eq_true h]; rfl
    · rw [show leI b a = true from decide_eq_true h, Bool.or_true]) l
  exact this.imp fun h => of_decide_eq_true h
theorem srtI_perm (l : List Int) : (srtI l).Perm l := List.mergeSort_perm l leI
theorem srtI_eq {l m : List Int} (p : l.Perm m) (h : l.Pairwise (· ≤ ·)) : l = srtI m :=
  List.Perm.eq_of_pairwise (le := (· ≤ ·)) (fun a b _ _ => Int.le_antisymm) h (srtI_pw m) (p.trans (srtI_perm m).symm)
section
variable {K : PySem.W.Frag} {P : Addr → Prop} {F0 H0 F H : Hp} {v : V} {Q : VK} {σ : L2.St} {te : TE}
def srtOk {α : Type} (xs : List α) : Bool := decide (xs.length < 64)
theorem row_str' : ∀ xs : List Str, Row qS K F (xs.map V.str) xs
  | [] => .nil
  | _ :: xs => .cons rfl (row_str' xs)
theorem row_int {vs : List V} {xs : List Int} (r : Row qI K F vs xs) : vs = xs.map V.int := by
  induction r with
  | nil => rfl
  | cons h t ih => rw [ih, show _ = _ from h]; rfl
theorem rd_sortS {xs : List Str} (s : SeenR qS K F H v xs) (h : srtOk xs = true) (k : nL qS K F Q H (srtS xs)) : rSortedS K [v] H Q := by
  obtain ⟨p, vs, rfl, h1, r⟩ := s
  obtain rfl := row_str r
  refine ⟨p, xs, rfl, h1, of_decide_eq_true h, fun ys q pm hs hq => ?_⟩
  obtain rfl := srtS_eq pm (sorted_pw hs)
  exact k q _ hq (row_str' _)
theorem rd_sortI {xs : List Int} (s : SeenR qI K F H v xs) (k : nL qI K F Q H (srtI xs)) : rSortedI K [v] H Q := by
  obtain ⟨p, vs, rfl, h1, r⟩ := s
  obtain rfl := row_int r
  refine ⟨p, xs, rfl, h1, fun ys q pm hs hq => ?_⟩
  obtain rfl := srtI_eq pm hs
  exact k q _ hq (row_ints _)
/-! ## xs[::-1] -/
theorem pRev {α β : Type} {R : α → β → Prop} {xs : List α} {ys : List β} (p : Paired R xs ys) : Paired R xs.reverse ys.reverse := by
  induction p with
  | nil => exact .nil
  | cons r t ih =>
    rw [List.reverse_cons, List.reverse_cons]
    exact pApp ih (.cons r .nil)
def rvK {α : Type} (A : R α) (K : PySem.W.Frag) (Q : VK) : VK := fun x H1 => ∃ a xs, x = .ref a ∧ SqL K H1 a xs ∧ ∀ p, H1 p = none → Q (.ref p) (upd H1 p (.lst xs.reverse))
theorem rd_revL {α : Type} (A : R α) (k : te σ H (rvK A K Q)) : tRevL K te σ H Q := k
theorem rv_at {α : Type} {A : R α} {xs : List α} (s : SeenR A K F H v xs) (k : nL A K F Q H xs.reverse) : rvK A K Q v H := by
  obtain ⟨p, vs, rfl, h1, r⟩ := s
  exact ⟨p, vs, rfl, h1, fun q hq => k q _ hq (pRev r)⟩
end
end Gl

namespace Gl
open PySem PySem.Spec PyProof.Rows L2

/-! ## x in o, o of a class of the program's own -/
section
variable {M : Model} {A : Around} {E : Value → Shared → Prop} {s : Shared} {K : PySem.W.Frag} {x C f : Addr} {ox : Obj} {od : Option Obj} {u : Value}
theorem contains_own {Q : Bool → Shared → Prop} (X' : K.In s.heap) (I : PySem.W.InstAt s.heap x ox C od) (hs : PySem.W.findIn K (.ref C) "__contains__" = some (some (.ref f))) (hf : PySem.W.isFn K (.ref f) = true)
    (h : wpAny M A (call (.ref f) [.ref x, u]) (fun v s' => ∃ b, v = .bool b ∧ Q b s') E s) : wpAny M A (contains (.ref x) u) Q E s := by
  unfold contains
  refine wpAny_holding ?_
  have e0 : stdlibNamesSay? (.ref x) u = none := rfl
  rw [e0]
  refine wpAny_bind (wpAny_bind (I.type.here ((PySem.W.looks_findIn X' hs).here ?_)))
  have e1 : (some (Value.ref f) == some Value.none) = false := rfl
  rw [if_neg (by rw [e1]; decide)]
  refine wpAny_bind ?_
  unfold callSpecialUnlessNone?
  refine wpAny_bind (wpAny_bind (I.type.here ((PySem.W.looks_findIn X' hs).here ?_)))
  refine wpAny_holding (wpAny_bind ((PySem.W.bind_fn X' _ (beq_iff_eq.mp hf)).here ?_))
  refine wpAny_bind (wpAny_mono h (fun v s' ⟨b, e, q⟩ => ?_) fun _ _ z => z)
  subst e
  refine wpAny_pure ?_
  show wpAny M A (truthy (.bool b)) Q E s'
  unfold truthy
  exact wpAny_pure q
end
/-- what is wanted of a truth that a method of one's own gives -/
def rInO (C : Addr) (sp : Sp) (E : XK) : R2 := fun x y H Q => ∃ a dx fs, y = .ref a ∧ H a = some (.ins C dx fs) ∧ sp [.ref a, x] H (fun v H2 => ∃ b, v = .bl b ∧ Q (.bl b) H2) E
def rNiO (C : Addr) (sp : Sp) (E : XK) : R2 := fun x y H Q => ∃ a dx fs, y = .ref a ∧ H a = some (.ins C dx fs) ∧ sp [.ref a, x] H (fun v H2 => ∃ b, v = .bl b ∧ Q (.bl (!b)) H2) E
section
variable {X : Cx} {CX : CXT} {k : Nat} {C f : Addr} {fd : FuncData} {ps : List Str} {sp : Sp} {E : XK}
theorem in_own {pins : List (Addr × Obj)} {σ : L2.St} {H : Hp} {s : Shared} {a dx : Addr} {fs : List (Str × V)} {x : V} {u : Value} {Q : VK} {R : Bool → Shared → Prop} (hm : Meth X.K C "__contains__" f) (F : FnOk X.prog X.w X.K X.mg X.base CX k f fd ps sp) (hr : Room k X.A) (hb : Binds X.K fd ps []) (hx : Passes CX X E) (I : Inv X pins σ H s) (e : H a = some (.ins C dx fs)) (rx : RelV x u)
    (h : sp [.ref a, x] H Q E) (q : ∀ v s', EP X pins σ Q v s' → ∃ b, v = .bool b ∧ R b s') : wpAny (model X.prog X.w) X.A (contains (.ref a) u) R X.xe s := by
  obtain ⟨ox, od, J, _⟩ := StX.insC_at I (.inr ⟨dx, fs, e⟩)
  refine contains_own I.kIn J hm.at_ hm.fn ?_
  have r := run_fn (X := X) (us := [.ref a, u]) (vs := [.ref a, x]) (dvs := []) (ds := []) F hr hb .nil hx I (.cons rfl (.cons rx .nil)) (Q := Q) h
  exact wpAny_mono r q fun _ _ z => z
theorem op_inO (hm : Meth X.K C "__contains__" f) (F : FnOk X.prog X.w X.K X.mg X.base CX k f fd ps sp) (hr : Room k X.A) (hb : Binds X.K fd ps []) (hx : Passes CX X E) : OpR X (compareOp .In) (rInO C sp E) := by
  intro pins s σ H x y v u Q I rx ry h
  obtain ⟨a, dx, fs, rfl, e, h⟩ := h
  cases ry
  show wpAny _ _ ((contains (.ref a) v) >>= fun z => pure (Value.bool z)) _ _ s
  refine wpAny_bind (in_own hm F hr hb hx I e rx h fun r s' ⟨z, H', I', rz, b, ez, q⟩ => ?_)
  subst ez
  cases rz
  exact ⟨b, rfl, wpAny_pure (fin_bl I' q rfl)⟩
theorem op_niO (hm : Meth X.K C "__contains__" f) (F : FnOk X.prog X.w X.K X.mg X.base CX k f fd ps sp) (hr : Room k X.A) (hb : Binds X.K fd ps []) (hx : Passes CX X E) : OpR X (compareOp .NotIn) (rNiO C sp E) := by
  intro pins s σ H x y v u Q I rx ry h
  obtain ⟨a, dx, fs, rfl, e, h⟩ := h
  cases ry
  show wpAny _ _ ((contains (.ref a) v) >>= fun z => pure (Value.bool (!z))) _ _ s
  refine wpAny_bind (in_own hm F hr hb hx I e rx h fun r s' ⟨z, H', I', rz, b, ez, q⟩ => ?_)
  subst ez
  cases rz
  exact ⟨b, rfl, wpAny_pure (fin_bl I' q rfl)⟩
end
def inK (Q : VK) : VK := fun v H2 => ∃ b, v = .bl b ∧ Q (.bl b) H2
theorem rd_inK {Q : VK} {b : Bool} {H : Hp} (k : Q (.bl b) H) : inK Q (.bl b) H := ⟨b, rfl, k⟩
theorem in_at {C p dx : Addr} {fs : List (Str × V)} {sp : Sp} {E : XK} {x : V} {H : Hp} {Q : VK} (h : H p = some (.ins C dx fs)) (k : sp [.ref p, x] H (inK Q) E) : rInO C sp E x (.ref p) H Q := ⟨p, dx, fs, rfl, h, k⟩
end Gl

namespace Gl
open PySem PySem.Spec PyProof.Rows L2

/-! ## dicts whose keys are tuples of any depth, their values True -/
mutual
inductive NKv (K : PySem.W.Frag) (H : Hp) : NestedKey → V → Prop
  | non : NKv K H .none .non
  | bl (b : Bool) : NKv K H (.num (if b = true then 1 else 0)) (.bl b)
  | int (i : Int) : NKv K H (.num i) (.int i)
  | txt (x : Str) : NKv K H (.text x) (.str x)
  | tup {p : Addr} {vs : List V} {ks : List NestedKey} : SqT K H p vs → NKs K H ks vs → NKv K H (.tup ks) (.ref p)
inductive NKs (K : PySem.W.Frag) (H : Hp) : List NestedKey → List V → Prop
  | nil : NKs K H [] []
  | cons {k : NestedKey} {v : V} {ks : List NestedKey} {vs : List V} : NKv K H k v → NKs K H ks vs → NKs K H (k :: ks) (v :: vs)
end
mutual
theorem NKv.mono {K : PySem.W.Frag} {F F' : Hp} (e : Same F F') : ∀ {k : NestedKey} {v : V}, NKv K F k v → NKv K F' k v
  | _, _, .non => .non
  | _, _, .bl b => .bl b
  | _, _, .int i => .int i
  | _, _, .txt x => .txt x
  | _, _, .tup h a => .tup (same_t e h) (NKs.mono e a)
theorem NKs.mono {K : PySem.W.Frag} {F F' : Hp} (e : Same F F') : ∀ {ks : List NestedKey} {vs : List V}, NKs K F ks vs → NKs K F' ks vs
  | _, _, .nil => .nil
  | _, _, .cons h a => .cons (NKv.mono e h) (NKs.mono e a)
end
section
variable {X : Cx} {pins : List (Addr × Obj)} {σ : L2.St} {H : Hp} {s : Shared}
mutual
theorem NKv.is (I : Inv X pins σ H s) : ∀ {k : NestedKey} {v : V} {u : Value}, NKv X.K H k v → RelV v u → NestedIs s.heap k u
  | _, _, u, .non, r => by
    cases r
    exact .none
  | _, _, u, .bl b, r => by
    cases r
    exact .bool rfl
  | _, _, u, .int i, r => by
    obtain ⟨t, rfl⟩ := r
    exact .int i t
  | _, _, u, .txt x, r => by
    obtain ⟨t, rfl⟩ := r
    exact .text x t
  | _, _, u, .tup h a, r => by
    cases (show u = Value.ref _ from r)
    obtain ⟨its, rv, ⟨o, e1, e2, n, e3⟩, _⟩ := I.tuple h
    exact .tup e1 e2 e3 (by simpa using NKs.is I a rv)
theorem NKs.is (I : Inv X pins σ H s) : ∀ {ks : List NestedKey} {vs : List V} {us : List Value}, NKs X.K H ks vs → Vals vs us → NestedAll s.heap ks us
  | _, _, _, .nil, .nil => .nil
  | _, _, _, .cons h a, .cons r rs => .cons (NKv.is I h r) (NKs.is I a rs)
end
end
/-- at a: a dict with these keys, at these tuples -/
def ndX (P : Program) (w : World) (a : Addr) (kas : List (NestedKey × Addr)) (h : Heap) : Prop :=
  ∃ o es ep, h.get? a = some o ∧ o.ExactDict ∧ o.data = .dict es ep ∧ es.toList = kas.map (fun x => entryOfKey (nestedKind P w) (x.1, x.2, .bool true)) ∧ (a == sysModules) = false ∧ (kas.map (·.1)).Nodup ∧ kas.length ≤ sizeLine
def ndO (P : Program) (w : World) (a : Addr) (kas : List (NestedKey × Addr)) : HO := .ext (ndX P w a kas)
theorem ndO_ok {P : Program} {w : World} {H : Hp} {h : Heap} {a : Addr} {kas : List (NestedKey × Addr)} (x : ndX P w a kas h) : ObjOk P w H h a (ndO P w a kas) := by
  obtain ⟨o, es, ep, h1, h2⟩ := id x
  exact ⟨x, ⟨o, h1⟩, fun h1' h2' ⟨o, es, ep, e1, e2⟩ k => ⟨o, es, ep, k o e1, e2⟩⟩
theorem ndO_at {P : Program} {w : World} {H : Hp} {h : Heap} {a : Addr} {kas : List (NestedKey × Addr)} (hok : HOk P w H h) (e : H a = some (ndO P w a kas)) : ndX P w a kas h := by
  have x : ObjOk P w H h a (.ext (ndX P w a kas)) := hok a _ e
  exact x.1
def keysOk (K : PySem.W.Frag) (H : Hp) (kas : List (NestedKey × Addr)) : Prop := ∀ x ∈ kas, NKv K H x.1 (.ref x.2) ∧ x.1.depth ≤ 8
theorem nd_dict {X : Cx} {pins : List (Addr × Obj)} {σ : L2.St} {H : Hp} {s : Shared} {a : Addr} {kas : List (NestedKey × Addr)} (I : Inv X pins σ H s) (e : H a = some (ndO X.prog X.w a kas)) (hk : keysOk X.K H kas) :
    s.heap.DictOfH (nestedKind X.prog X.w) a (kas.map fun x => (x.1, x.2, Value.bool true)) ∧ (a == sysModules) = false ∧ kas.length ≤ sizeLine := by
  obtain ⟨o, es, ep, h1, h2, h3, h4, h5, h6, h7⟩ := ndO_at I.hok e
  refine ⟨⟨o, es, ep, h1, h2, h3, by rw [List.map_map]; exact h4, fun x hx => ?_, by rw [List.map_map]; exact h6⟩, h5, h7⟩
  obtain ⟨y, hy, rfl⟩ := List.mem_map.mp hx
  obtain ⟨k1, k2⟩ := hk y hy
  exact ⟨NKv.is I k1 rfl, k2⟩
theorem atKey_mem {kas : List (NestedKey × Addr)} {k : NestedKey} : (atKey (kas.map fun x => (x.1, x.2, Value.bool true)) k).isSome = decide (k ∈ kas.map (·.1)) := by
  unfold atKey
  rw [Option.isSome_map]
  induction kas with
  | nil => rfl
  | cons x kas ih =>
    rw [List.map_cons, List.find?_cons]
    by_cases h : x.1 = k
    · have e : decide ((x.1, x.2, Value.bool true).1 = k) = true := decide_eq_true h
      rw [e, decide_eq_true (by rw [List.map_cons, h]; exact List.mem_cons_self)]; rfl
    · have e : decide ((x.1, x.2, Value.bool true).1 = k) = false := decide_eq_false h
      rw [e]
      show (List.find? _ _).isSome = _
      rw [ih, List.map_cons]
      by_cases h2 : k ∈ kas.map (·.1)
      · rw [decide_eq_true h2, decide_eq_true (List.mem_cons_of_mem _ h2)]
      · rw [decide_eq_false h2, decide_eq_false (fun z => by
          rcases List.mem_cons.mp z with z | z
          · exact h z.symm
          · exact h2 z)]
def rInND (P : Program) (w : World) (K : PySem.W.Frag) (neg : Bool) : R2 := fun x y H Q => ∃ p kas k q, y = .ref p ∧ x = .ref q ∧ H p = some (ndO P w p kas) ∧ keysOk K H kas ∧ NKv K H k (.ref q) ∧ k.depth ≤ 8 ∧ Q (.bl (if neg = true then !decide (k ∈ kas.map (·.1)) else decide (k ∈ kas.map (·.1)))) H
section
variable {X : Cx} {k : Nat}
theorem op_inND (hr : X.A.units + 64 < cLine) : OpR X (compareOp .In) (rInND X.prog X.w X.K false) := by
  intro pins s σ H x y v u Q I rx ry h
  obtain ⟨p, kas, kk, q, rfl, rfl, e, hk, nk, dk, hq⟩ := h
  cases rx; cases ry
  obtain ⟨D, h1, h2⟩ := nd_dict I e hk
  refine wpAny_in_heap (knd := nestedKind X.prog X.w) (show X.A.in1.units + 8 < cLine from by show X.A.units + 1 + 8 < cLine; omega) ⟨NKv.is I nk rfl, dk⟩ h1 D ?_
  rw [atKey_mem]
  exact fin_bl (I.tok _) hq rfl
theorem op_niND (hr : X.A.units + 64 < cLine) : OpR X (compareOp .NotIn) (rInND X.prog X.w X.K true) := by
  intro pins s σ H x y v u Q I rx ry h
  obtain ⟨p, kas, kk, q, rfl, rfl, e, hk, nk, dk, hq⟩ := h
  cases rx; cases ry
  obtain ⟨D, h1, h2⟩ := nd_dict I e hk
  refine wpAny_notIn_heap (knd := nestedKind X.prog X.w) (show X.A.in1.units + 8 < cLine from by show X.A.units + 1 + 8 < cLine; omega) ⟨NKv.is I nk rfl, dk⟩ h1 D ?_
  rw [atKey_mem]
  exact fin_bl (I.tok _) hq rfl
/-- d[k] = True, k new -/
def rSetND (P : Program) (w : World) (K : PySem.W.Frag) : TSet := fun o i v H Q => ∃ p kas k q, o = .ref p ∧ i = .ref q ∧ v = .bl true ∧ H p = some (ndO P w p kas) ∧ keysOk K H kas ∧ NKv K H k (.ref q) ∧ k.depth ≤ 8 ∧ k ∉ kas.map (·.1) ∧ kas.length < sizeLine ∧ Q (upd H p (ndO P w p (kas ++ [(k, q)])))
theorem set_nd (hr : X.A.units + 64 < cLine) : PSet X (rSetND X.prog X.w X.K) := by
  intro pins s σ H o i v ov iv u Q I ro ri rv h
  obtain ⟨p, kas, kk, q, rfl, rfl, rfl, e, hk, nk, dk, hn, hl, hq⟩ := h
  cases ro; cases ri; cases rv
  obtain ⟨D, h1, h2⟩ := nd_dict I e hk
  refine wpAny_setItem_heap (knd := nestedKind X.prog X.w) (hsz := by rw [List.length_map]; exact h2) (show X.A.in1.units + 8 < cLine from by show X.A.units + 1 + 8 < cLine; omega) ⟨NKv.is I nk rfl, dk⟩ D fun h' dd' hs => ⟨_, ?_, hq⟩
  have hnone : atKey (kas.map fun x => (x.1, x.2, Value.bool true)) kk = none := by
    have := atKey_mem (kas := kas) (k := kk)
    rw [decide_eq_false hn] at this
    cases ha : atKey (kas.map fun x => (x.1, x.2, Value.bool true)) kk with
    | none => rfl
    | some z => rw [ha] at this; cases this
  rw [storedH_new hnone] at dd'
  obtain ⟨o, es, ep, d1, d2, d3, d4, _, d6⟩ := dd'
  refine d_write I (by rw [e]; exact True.intro) hs ⟨o, d1⟩ (ndO_ok ⟨o, es, ep, d1, d2, d3, ?_, h1, ?_, by rw [List.length_append]; exact hl⟩)
  · rw [d4, List.map_append, List.map_map, List.map_append]; rfl
  · rw [List.map_append, List.map_map] at d6
    rw [List.map_append]
    exact d6
def tDNewND (P : Program) (w : World) : TE := fun _ H Q => ∀ p, H p = none → Q (.ref p) (upd H p (ndO P w p []))
theorem pe_dnewND {pos : Pos} : PE X (.Dict [] [] pos) (tDNewND X.prog X.w) := ⟨fun pins s σ H Q I h =>
  wpAny_Dict_empty ⟨.ref s.heap.objs.size, _, I.laid (a := s.heap.objs.size) (o := ndO X.prog X.w s.heap.objs.size []) (t' := s.toks) (fun _ _ q => Heap.get?_push_of_some _ q) (Nat.le_refl _)
    (ndO_ok ⟨_, #[], 0, Heap.get?_push_size _ rfl, ⟨rfl, rfl, rfl⟩, rfl, rfl, beq_eq_false_iff_ne.mpr (Ne.symm (Nat.ne_of_lt I.big)), List.nodup_nil, Nat.zero_le _⟩), rfl, h _ (I.hok.fresh (Nat.le_refl _))⟩⟩
end
/-- what stands for a key -/
structure Kd {α : Type} (A : R α) where
  k : α → NestedKey
  is : ∀ {K : PySem.W.Frag} {F : Hp} {v : V} {a : α}, A.r K F v a → NKv K F (k a) v
  inj : ∀ a b : α, k a = k b → a = b
  dep : ∀ a : α, (k a).depth ≤ 8
def kI : Kd qI := ⟨.num, fun {K F v a} h => by cases (show v = .int a from h); exact .int a, fun a b h => by cases h; rfl, fun a => by show 0 ≤ 8; omega⟩
theorem nks {α : Type} {A : R α} (D : α → NestedKey) (h : ∀ {K : PySem.W.Frag} {F : Hp} {v : V} {a : α}, A.r K F v a → NKv K F (D a) v) {K : PySem.W.Frag} {F : Hp} : ∀ {vs : List V} {xs : List α}, Row A K F vs xs → NKs K F (xs.map D) vs
  | _, _, .nil => .nil
  | _, _, .cons r t => .cons (h r) (nks D h t)
theorem map_inj {α β : Type} {f : α → β} (h : ∀ a b, f a = f b → a = b) : ∀ {xs ys : List α}, xs.map f = ys.map f → xs = ys
  | [], [], _ => rfl
  | [], _ :: _, e => by cases e
  | _ :: _, [], e => by cases e
  | x :: xs, y :: ys, e => by
    rw [List.map_cons, List.map_cons] at e
    obtain ⟨e1, e2⟩ := List.cons.inj e
    rw [h _ _ e1, map_inj h e2]
theorem depth_le {α : Type} (f : α → NestedKey) (n : Nat) (h : ∀ a, (f a).depth ≤ n) : ∀ xs : List α, NestedKey.depthAll (xs.map f) ≤ n
  | [] => by rw [List.map_nil, NestedKey.depthAll]; exact Nat.zero_le _
  | x :: xs => by
    rw [List.map_cons, NestedKey.depthAll]
    exact Nat.max_le.mpr ⟨h x, depth_le f n h xs⟩
/-- tuples of tuples of ints -/
def kTI (xs : List Int) : NestedKey := .tup (xs.map .num)
theorem kTI_dep (xs : List Int) : (kTI xs).depth ≤ 1 := by
  unfold kTI
  rw [NestedKey.depth]
  have := depth_le NestedKey.num 0 (fun a => by rw [NestedKey.depth]; exact Nat.le_refl _) xs
  omega
theorem kTI_is {K : PySem.W.Frag} {F : Hp} {v : V} {a : List Int} (h : (qT qI).r K F v a) : NKv K F (kTI a) v := by
  obtain ⟨p, vs, rfl, h1, h2⟩ := h
  exact .tup h1 (nks _ kI.is h2)
theorem kTI_inj (a b : List Int) (h : kTI a = kTI b) : a = b := map_inj (f := NestedKey.num) (fun a b h => by cases h; rfl) (NestedKey.tup.inj h)
def kTT : Kd (qT (qT qI)) := ⟨fun xs => .tup (xs.map kTI), fun {K F v a} h => by
    obtain ⟨p, vs, rfl, h1, h2⟩ := h
    exact .tup h1 (nks _ kTI_is h2), fun a b h => map_inj kTI_inj (NestedKey.tup.inj h), fun a => by
    rw [NestedKey.depth]
    have := depth_le kTI 1 kTI_dep a
    omega⟩
def KRow {α : Type} {A : R α} (D : Kd A) (K : PySem.W.Frag) (F : Hp) (kas : List (NestedKey × Addr)) (xs : List α) : Prop := Paired (fun (x : NestedKey × Addr) (a : α) => x.1 = D.k a ∧ NKv K F x.1 (.ref x.2)) kas xs
section
variable {K : PySem.W.Frag} {P : Addr → Prop} {F0 H0 F H F' : Hp} {v : V} {Q : VK} {α : Type} {A : R α} {D : Kd A} {xs : List α} {a : α} {p : Addr} {kas : List (NestedKey × Addr)} {Pg : Program} {w : World} {σ : L2.St}
theorem KRow.mono (e : Same F F') (h : KRow D K F kas xs) : KRow D K F' kas xs := Paired.mapP h fun _ _ r => ⟨r.1, NKv.mono e r.2⟩
theorem KRow.keys (h : KRow D K F kas xs) : kas.map (·.1) = xs.map D.k := by
  unfold KRow at h
  induction h with
  | nil => rfl
  | cons r t ih => rw [List.map_cons, List.map_cons, ih, r.1]
theorem KRow.ok (h : KRow D K F kas xs) (e : Same F H) : keysOk K H kas := by
  unfold KRow at h
  induction h with
  | nil => intro x hx; cases hx
  | cons r t ih =>
    intro x hx
    rcases List.mem_cons.mp hx with rfl | hx
    · exact ⟨NKv.mono e r.2, by rw [r.1]; exact D.dep _⟩
    · exact ih x hx
theorem key_mem [DecidableEq α] (h : KRow D K F kas xs) : decide (D.k a ∈ kas.map (·.1)) = decide (a ∈ xs) := by
  rw [h.keys]
  by_cases e : a ∈ xs
  · rw [decide_eq_true e, decide_eq_true (List.mem_map_of_mem e)]
  · rw [decide_eq_false e, decide_eq_false fun z => by
      obtain ⟨b, hb, hb2⟩ := List.mem_map.mp z
      exact e (D.inj _ _ hb2 ▸ hb)]
def memK {α : Type} [DecidableEq α] (a : α) (xs : List α) : Bool := decide (a ∈ xs)
theorem nkv_ref {ks : List NestedKey} (h : NKv K F (.tup ks) v) : ∃ q, v = .ref q := by
  cases h with
  | tup _ _ => exact ⟨_, rfl⟩
theorem rd_newND (S : Sx P F0 H0 F H) (k : ∀ p H', H p = none → Sx P0 F H F H' → Ow P H0 F H' p (ndO Pg w p []) → Q (.ref p) H') : tDNewND Pg w σ H Q :=
  fun p hp => k p _ hp ((Sx.refl0 S.sub).temp hp) (S.own hp)
theorem rd_inND [DecidableEq α] (S : Sx P F0 H0 F H) (o : Ow P H0 F H p (ndO Pg w p kas)) (row : KRow D K F kas xs) (r : A.r K F v a) (hq : ∃ q, v = .ref q) (k : Q (.bl (memK a xs)) H) : rInND Pg w K false v (.ref p) H Q := by
  obtain ⟨q, rfl⟩ := hq
  exact ⟨p, kas, D.k a, q, rfl, rfl, o.at_, row.ok S.sub, NKv.mono S.sub (D.is r), D.dep a, by rw [if_neg (by decide), key_mem row]; exact k⟩
theorem rd_niND [DecidableEq α] (S : Sx P F0 H0 F H) (o : Ow P H0 F H p (ndO Pg w p kas)) (row : KRow D K F kas xs) (r : A.r K F v a) (hq : ∃ q, v = .ref q) (k : Q (.bl (!memK a xs)) H) : rInND Pg w K true v (.ref p) H Q := by
  obtain ⟨q, rfl⟩ := hq
  exact ⟨p, kas, D.k a, q, rfl, rfl, o.at_, row.ok S.sub, NKv.mono S.sub (D.is r), D.dep a, by rw [if_pos rfl, key_mem row]; exact k⟩
theorem rd_setND [DecidableEq α] {R : Hp → Prop} (S : Sx P F0 H0 F H) (o : Ow P H0 F H p (ndO Pg w p kas)) (row : KRow D K F kas xs) (r : A.r K F v a) (hq : ∃ q, v = .ref q) (hn : (!memK a xs) = true) (hf : fits xs = true)
    (k : ∀ kas' H', Sx (fun a => a = p) F H F H' → Ow P H0 F H' p (ndO Pg w p kas') → KRow D K F kas' (xs ++ [a]) → R H') : rSetND Pg w K (.ref p) v (.bl true) H R := by
  obtain ⟨q, rfl⟩ := hq
  refine ⟨p, kas, D.k a, q, rfl, rfl, rfl, o.at_, row.ok S.sub, NKv.mono S.sub (D.is r), D.dep a, ?_, by rw [Paired.length row]; exact of_decide_eq_true hf, k _ _ (putS S o) o.put (row.snoc ⟨rfl, D.is r⟩)⟩
  have := key_mem (a := a) row
  intro z
  rw [decide_eq_true z] at this
  rw [show memK a xs = decide (a ∈ xs) from rfl, ← this] at hn
  cases hn
theorem ref_tup {B : R α} {ys : List α} (r : (qT B).r K F v ys) : ∃ q, v = .ref q := let ⟨p, _, h, _⟩ := r; ⟨p, h⟩
end
end Gl

namespace Gl
open PySem PySem.W PySem.Calls PyProof.Rows

/-! ## a & b, a | b of instances whose classes find the method in the program -/
section
variable {prog : Program} {w : World} {A : Around} {E : Value → Shared → Prop} {s : Shared} {K : Frag} {x y C D f g : Addr} {ox oy : Obj} {od oe : Option Obj}
theorem bin_own {op : Operator} {Q : Value → Shared → Prop} (X : K.In s.heap) (I : InstAt s.heap x ox C od) (J : InstAt s.heap y oy D oe) (hc : selfFirst K C = true) (hd : selfFirst K D = true)
    (hs : findIn K (.ref C) (PySem.dunder op.info.2) = some (some (.ref f))) (hf : isFn K (.ref f) = true) (hr : findIn K (.ref C) (dunderR op.info.2) = some none)
    (hs2 : findIn K (.ref D) (PySem.dunder op.info.2) = some (some (.ref g))) (hr2 : findIn K (.ref D) (dunderR op.info.2) = some none) (hsub : C = D ∨ subIn K (.ref D) (.ref C) = some false)
    (h : wpAny (model prog w) A (call (.ref f) [.ref x, .ref y]) (PySem.W.CmpBack Q) E s) : wpAny (model prog w) A (binaryOp op (.ref x) (.ref y)) Q E s := by
  obtain ⟨cd, rest, hcd, hm⟩ := ksp_first hc
  obtain ⟨cd2, rest2, hcd2, hm2⟩ := ksp_first hd
  rcases hi : op.info with ⟨sym, nm'⟩
  rw [hi] at hs hr hs2 hr2
  dsimp only at hs hr hs2 hr2
  have one := ksp_try X I hs hf h
  obtain ⟨hh, g', d, tt, os⟩ := s
  have L1 : Looks (model prog w) hh (typeOf (.ref x)) (.ref C) := I.type
  have L2 : Looks (model prog w) hh (typeOf (.ref y)) (.ref D) := J.type
  have L3 : Looks (model prog w) hh (fillsNumberSlot (.ref C) nm') true := fills_K X hcd hm hs
  have L4 : Looks (model prog w) hh (fillsNumberSlot (.ref D) nm') true := fills_K X hcd2 hm2 hs2
  have L6 : Looks (model prog w) hh (numberSlotInPython (.ref C) nm') true := ksp_inPy X hs hr (.inl rfl)
  have L7 : Looks (model prog w) hh (numberSlotInPython (.ref D) nm') true := ksp_inPy X hs2 hr2 (.inl rfl)
  simp only [binaryOp, hi]
  refine wpAny_holding (wpAny_bind ?_)
  unfold binaryOp1
  refine wpAny_bind (L1.at (wpAny_bind (L2.at (wpAny_bind (L3.at ?_)))))
  by_cases hCD : C = D
  · subst hCD
    have he : (Value.ref C == Value.ref C) = true := beq_self_eq_true _
    simp only [he, if_true]
    ksp_lk
    refine wpAny_mono one (fun r s' hr' => ?_) fun _ _ e => e
    obtain ⟨v, rfl, hq⟩ := hr'
    ksp_lk
    exact hq
  · have hsub := hsub.resolve_left hCD
    have hne : (Value.ref C == Value.ref D) = false := Bool.eq_false_iff.mpr fun q => hCD (by cases beq_iff_eq.mp q; rfl)
    have L5 : Looks (model prog w) hh (isSubtype (.ref D) (.ref C)) false := looks_subIn X hsub
    simp only [hne, Bool.false_eq_true, if_false]
    ksp_lk
    refine wpAny_mono one (fun r s' hr' => ?_) fun _ _ e => e
    obtain ⟨v, rfl, hq⟩ := hr'
    ksp_lk
    exact hq
end
end Gl
namespace Gl
open PySem PySem.Spec PyProof.Rows L2
/-- what a class must have for its operator of the program's own -/
structure OwnOp (K : PySem.W.Frag) (C : Addr) (nm : String) (f : Addr) : Prop where
  first : PySem.W.selfFirst K C = true
  at_ : PySem.W.findIn K (.ref C) (PySem.dunder nm) = some (some (.ref f))
  fn : PySem.W.isFn K (.ref f) = true
  rev : PySem.W.findIn K (.ref C) (dunderR nm) = some none
def rBinO (K : PySem.W.Frag) (nm : String) (f : Addr) (sp : Sp) (E : XK) : R2 := fun x y H Q => ∃ a b C D dx dy fs gs g, x = .ref a ∧ y = .ref b ∧ H a = some (.ins C dx fs) ∧ H b = some (.ins D dy gs) ∧ OwnOp K C nm f ∧ OwnOp K D nm g ∧ (C = D ∨ PySem.W.subIn K (.ref D) (.ref C) = some false) ∧ sp [x, y] H Q E
section
variable {X : Cx} {CX : CXT} {k : Nat} {f : Addr} {fd : FuncData} {ps : List Str} {sp : Sp} {E : XK}
theorem op_binO {op : Operator} (F : FnOk X.prog X.w X.K X.mg X.base CX k f fd ps sp) (hr : Room k X.A) (hb : Binds X.K fd ps []) (hx : Passes CX X E) : OpR X (binaryOp op) (rBinO X.K op.info.2 f sp E) := by
  intro pins s σ H x y v u Q I rx ry h
  obtain ⟨a, b, C, D, dx, dy, fs, gs, g, rfl, rfl, e1, e2, o1, o2, hs, h⟩ := h
  cases rx; cases ry
  obtain ⟨ox, od, J, _⟩ := StX.insC_at I (.inr ⟨dx, fs, e1⟩)
  obtain ⟨oy, oe, J2, _⟩ := StX.insC_at I (.inr ⟨dy, gs, e2⟩)
  refine bin_own I.kIn J J2 o1.first o2.first o1.at_ o1.fn o1.rev o2.at_ o2.rev hs ?_
  have r := run_fn (X := X) (us := [.ref a, .ref b]) (vs := [.ref a, .ref b]) (dvs := []) (ds := []) F hr hb .nil hx I (.cons rfl (.cons rfl .nil)) (Q := Q) h
  refine wpAny_mono r (fun z s' hz => ?_) fun _ _ z => z
  obtain ⟨w', H', I', rw', q⟩ := id hz
  cases z with
  | notImplemented => cases w' <;> first | (obtain ⟨t, ht⟩ := rw'; cases ht; done) | (cases rw'; done) | exact absurd rw' (fun z => nomatch z)
  | _ => exact hz
end
end Gl
namespace Gl
open PySem PySem.W PySem.Calls PyProof.Rows
section
variable {prog : Program} {w : World} {A : Around} {E : Value → Shared → Prop} {s : Shared} {K : Frag} {x C f : Addr} {ox : Obj} {od : Option Obj} {b tb : Value}
/-- a == b, a of a class that has its method in the program -/
theorem cmp_own {op : CmpOp} {Q : Value → Shared → Prop} (hu : A.units < cLine) (X : K.In s.heap) (I : InstAt s.heap x ox C od) (hb : Looks (model prog w) s.heap (typeOf b) tb) (hn : notFirst K C tb = true)
    (hs : findIn K (.ref C) (cmpInfo op).2.1 = some (some (.ref f))) (hf : isFn K (.ref f) = true)
    (h : wpAny (model prog w) A (call (.ref f) [.ref x, b]) (PySem.W.CmpBack Q) E s) : wpAny (model prog w) A (richCompare op (.ref x) b) Q E s := by
  have one : wpAny (model prog w) A (tryCompare (.ref x) (cmpInfo op).2.1 b) (fun r s' => ∃ v, r = some v ∧ Q v s') E s := by
    unfold tryCompare
    refine wpAny_bind (ifBound_K X I hs hf (wpAny_mono h (fun v s' hv => ?_) fun _ _ e => e))
    cases v <;> first | exact hv.elim | exact wpAny_pure ⟨_, rfl, hv⟩
  unfold richCompare
  simp only [oneThing_ref]
  refine wpAny_holding (wpAny_bind (wpAny_cRoomFor hu ?_))
  refine wpAny_bind (I.type.here (wpAny_bind (hb.here ?_)))
  split
  · rename_i q
    have e : subIn K tb (.ref C) = some false := by
      rcases Bool.or_eq_true_iff.mp hn with e | e
      · rw [beq_iff_eq.mp e] at q; simp at q
      · exact beq_iff_eq.mp e
    refine wpAny_bind ((looks_subIn X e).here ?_)
    simp only [Bool.false_eq_true, if_false]
    refine wpAny_bind (wpAny_mono one (fun r s' z => ?_) fun _ _ e => e)
    obtain ⟨v, rfl, hq⟩ := z
    exact wpAny_pure hq
  · refine wpAny_bind (wpAny_pure ?_)
    simp only [Bool.false_eq_true, if_false]
    refine wpAny_bind (wpAny_mono one (fun r s' z => ?_) fun _ _ e => e)
    obtain ⟨v, rfl, hq⟩ := z
    exact wpAny_pure hq
end
end Gl
namespace Gl
open PySem PySem.Spec PyProof.Rows L2
/-- what a class must have for == by a method of the program's own -/
structure OwnEq (K : PySem.W.Frag) (C f : Addr) : Prop where
  at_ : PySem.W.findIn K (.ref C) "__eq__" = some (some (.ref f))
  fn : PySem.W.isFn K (.ref f) = true
/-- the right side: an instance, a text -/
inductive RightOk (K : PySem.W.Frag) (H : Hp) (C : Addr) : V → Prop
  | ins {b D dy : Addr} {gs : List (Str × V)} : H b = some (.ins D dy gs) → PySem.W.notFirst K C (.ref D) = true → RightOk K H C (.ref b)
  | str (z : Str) : PySem.W.notFirst K C (.type "str") = true → RightOk K H C (.str z)
def rEqO (K : PySem.W.Frag) (f : Addr) (sp : Sp) (E : XK) : R2 := fun x y H Q => ∃ a C dx fs, x = .ref a ∧ H a = some (.ins C dx fs) ∧ OwnEq K C f ∧ RightOk K H C y ∧ sp [x, y] H Q E
section
variable {X : Cx} {CX : CXT} {k : Nat} {f : Addr} {fd : FuncData} {ps : List Str} {sp : Sp} {E : XK}
theorem op_eqO (F : FnOk X.prog X.w X.K X.mg X.base CX k f fd ps sp) (hr : Room k X.A) (hb : Binds X.K fd ps []) (hx : Passes CX X E) : OpR X (compareOp .Eq) (rEqO X.K f sp E) := by
  intro pins s σ H x y v u Q I rx ry h
  obtain ⟨a, C, dx, fs, rfl, e1, o, ro, h⟩ := h
  cases rx
  obtain ⟨ox, od, J, _⟩ := StX.insC_at I (.inr ⟨dx, fs, e1⟩)
  have r := run_fn (X := X) (us := [.ref a, u]) (vs := [.ref a, y]) (dvs := []) (ds := []) F hr hb .nil hx I (.cons rfl (.cons ry .nil)) (Q := Q) h
  have back : wpAny (model X.prog X.w) X.A (call (.ref f) [.ref a, u]) (PySem.W.CmpBack (EP X pins σ Q)) X.xe s := by
    refine wpAny_mono r (fun z s' hz => ?_) fun _ _ z => z
    obtain ⟨w', H', I', rw', q⟩ := id hz
    cases z with
    | notImplemented => cases w' <;> first | (obtain ⟨t, ht⟩ := rw'; cases ht; done) | (cases rw'; done) | exact absurd rw' (fun z => nomatch z)
    | _ => exact hz
  have hu : X.A.units < cLine := hr.units0
  show wpAny _ _ (richCompare .Eq (.ref a) u) _ _ s
  cases ro with
  | ins e2 hn =>
    cases ry
    obtain ⟨oy, oe, J2, _⟩ := StX.insC_at I (.inr ⟨_, _, e2⟩)
    exact cmp_own hu I.kIn J J2.type hn o.at_ o.fn back
  | str z hn =>
    obtain ⟨t, rfl⟩ := ry
    exact cmp_own hu I.kIn J (PySem.W.Looks.of_pure rfl) hn o.at_ o.fn back
end
end Gl

namespace PySem
namespace OwnE
open PySem.W PySem.Calls PyProof.Rows PySem.HandSPX
/-! ## own errors over ValueError whose __init__ says super().__init__('text') and then keeps its parameters as fields -/
abbrev supS (text : Str) (j : Nat) (p0 p1 p2 p3 p4 p5 : Pos) : Stmt := .Expr (.Call (.Attribute (.Call (.Name "super" p0) [] [] p1) "__init__" p2) [.Constant (.str text) j p3] [] p4) p5
abbrev setS (f : Str) (q1 q2 q3 q4 : Pos) : Stmt := .Assign [.Attribute (.Name "self" q1) f q2] (.Name f q3) q4
/-- what the written part says of the class at C and of its __init__ at fI (q: its long name) -/
structure ErC (P : Program) (K : Frag) (C fI : Addr) (q : Str) (params : Arguments) (body : List Stmt) (scope : Scope) : Prop where
  x : L2.OexC K C
  iC : findIn K (.ref C) "__init__" = some (some (.ref fI))
  tC : typeIn K (.ref fI) = some (.type "function")
  sup : ks_superIn K C C "__init__" = some (some (.builtin "ValueError.__init__"))
  sub : subIn K (.ref C) (.type "ValueError") = some true
  own : mroIn K C (.ref C) = some true
  tp : nsIn K cStatics "thirdparty.any" = some none
  sg : nsIn K mainGlobals "super" = some none
  main : (P.main.scope.names.lookup ("super" : Str)).isSome = false
  fn : ∃ (oc : Value) (od : Option Addr) (kV doc pm : Value) (an : Option Addr) (cda : Addr) (ct : Value) (cc : Addr) (osl : Array (Option Value)) (ccl : Value) (cdd : Option Addr) (vs : Array Value) (ccs : Array (Option Value)) (file : Str) (tf : Tok) (cl : Value) (cld : Option Addr) (csl : Array (Option Value)),
    K.lookup fI = some ⟨oc, od, .func (ksFn "__init__" q params body scope .none kV doc pm an (.ref cda) ct cc), osl⟩ ∧ codeIn K (.ref cda) q = true ∧ K.lookup cda = some ⟨ccl, cdd, .fields vs, ccs⟩ ∧ vs[2]? = some (.str file tf) ∧ ((P.main.file : Str) == file) = true ∧ K.lookup cc = some ⟨cl, cld, .cell (some (.ref C)), csl⟩
section
variable {prog : Program} {w : World} {A : Around} {E : Value → Shared → Prop} {R : Result → Shared → Prop} {s : Shared} {K : Frag} {mg : Str → Option Value} {C fI : Addr} {q text : Str} {params : Arguments} {body : List Stmt} {scope : Scope}
theorem bw_call {u e t0 C : Addr} {nm q : Str} {N : Addr} {bs bm : List Value} {hdct : Bool} {sn : List Str} {sub : List Value} {ab : Bool} {col : Option Bool} {dd : Option Addr} {k0 k1 k2 k3 k5 : Option Value} {h : Heap} {g : Array GenState} {d : Drawn} {t : Nat} {os : OsState} {rest : List Value} {Q : Value → Shared → Prop}
    (hC : h.get? C = some (excClassObj nm q C N bs bm hdct sn sub ab col dd k0 k1 k2 k3 k5 "ValueError.__new__")) (he : h.get? e = some (excO C t0)) (hu : h.get? u = some (kxs_mw "ValueError.__init__" e)) (hrest : rest.length ≤ sizeLine)
    (hq : ∀ h' t1, (∀ b o, b ≠ e → h.get? b = some o → h'.get? b = some o) → h'.get? e = some (excO C t1) → Q .none ⟨h', g, d, t, os⟩) :
    wpAny (model prog w) A (call (.ref u) rest) Q E ⟨h, g, d, t, os⟩ := by
  refine wpAny_call (codeAny_of_tree ?_)
  show wpAny _ A.in1 (callAny (.ref u) ⟨rest, []⟩) _ _ _
  simp only [callAny]
  refine wpAny_bind (wpAny_load hu ?_)
  simp only [kxs_mw, show (Value.type "method-wrapper" == Value.type "method" || Value.type "method-wrapper" == Value.type "builtin_function_or_method" || Value.type "method-wrapper" == Value.type "method-wrapper") = true by decide, if_true]
  refine KFB.if_so (by decide) ?_
  refine wpAny_bind (check_bound_init PySem.F.excBase_ValueError.toExcCallFacts hC he rfl ?_)
  refine wpAny_bind (wpAny_pure (wpAny_pure ?_))
  refine ⟨plainId_quiet PySem.F.excBase_ValueError.init.plain _, codeAny_builtin PySem.F.excBase_ValueError.initEntry ?_⟩
  exact exc_init_tree (cls := .ref C) (t0 := t0) (dv := none) (c2 := .none) (c3 := .none) (b4 := .bool false) he hrest fun h' k e' _ => hq h' _ k e'
/-- super().__init__('text') -/
theorem sup_stmt (T : ErC prog K C fI q params body scope) {L x t0 cc cda : Addr} {m mb : Str → Option Value} {j : Nat} {p0 p1 p2 p3 p4 p5 : Pos} {ar : Arg} {Q : Flow → Shared → Prop} {oc : Value} {od : Option Addr} {dV kV doc pm : Value} {an : Option Addr} {ct : Value} {osl : Array (Option Value)} {ccl : Value} {cdd : Option Addr} {vs : Array Value} {ccs : Array (Option Value)} {file : Str} {tf : Tok} {cl : Value} {cld : Option Addr} {csl : Array (Option Value)}
    (lf : K.lookup fI = some ⟨oc, od, .func (ksFn "__init__" q params body scope dV kV doc pm an (.ref cda) ct cc), osl⟩) (lc : K.lookup cda = some ⟨ccl, cdd, .fields vs, ccs⟩) (hvs : vs[2]? = some (.str file tf)) (hfile : ((prog.main.file : Str) == file) = true)
    (lcc : K.lookup cc = some ⟨cl, cld, .cell (some (.ref C)), csl⟩) (X : K.In s.heap) (G : s.heap.Ns mainGlobals mg) (hsg : mg "super" = none) (Gb : s.heap.Ns builtinsNs mb) (hb : mb "super" = bootBuiltins "super")
    (hn : s.heap.Ns L m) (hv : m ar.arg = some (.ref x)) (hx : s.heap.get? x = some (excO C t0)) (hp : (params.posonlyargs ++ params.args).head? = some ar)
    (hks : scope.names.lookup ("super" : Str) = some .globalImplicit) (hkc : scope.names.lookup ("__class__" : Str) = some .free) (hka : scope.names.lookup ar.arg = some .local) (hk : scope.kind = .function)
    {pl : Sem Bool} (he : eval (.Call (.Attribute (.Call (.Name "super" p0) [] [] p1) "__init__" p2) [.Constant (.str text) j p3] [] p4) (ksEnv q scope L fI (.ref cda) cc) = (do
      let ov ← attributeBase (.Call (.Name "super" p0) [] [] p1) "__init__" (ksEnv q scope L fI (.ref cda) cc) (eval (.Call (.Name "super" p0) [] [] p1) (ksEnv q scope L fI (.ref cda) cc))
      standAt p2.atName
      let (f, first) ← holding [ov] (getMethod ov "__init__" pl)
      callWith p4 f first (backTo p4 (starEach [.Constant (.str text) j p3] (ksEnv q scope L fI (.ref cda) cc))) []))
    (hi : interactive (ksEnv q scope L fI (.ref cda) cc) = false) (hsw : swapsWith (.Call (.Attribute (.Call (.Name "super" p0) [] [] p1) "__init__" p2) [.Constant (.str text) j p3] [] p4) none p5.line (ksEnv q scope L fI (.ref cda) cc) = pure false)
    (hq : ∀ h' tk t1, h'.Ns L m → (∀ b o, b ≠ x → s.heap.get? b = some o → h'.get? b = some o) → h'.get? x = some (excO C t1) → Q .next { s with heap := h', toks := tk }) :
    _root_.PySem.wpAt (model prog w) A (.func body (ksEnv q scope L fI (.ref cda) cc)) (exec (supS text j p0 p1 p2 p3 p4 p5) (ksEnv q scope L fI (.ref cda) cc)) Q E s := by
  obtain ⟨nm, qn, N, bs, bm, sn, sub, ab, col, dd, k0, k1, k2, k3, k5, hC, hbm⟩ := T.x.cls
  have hcl : clsIn K C = some { name := nm, bases := bs, mro := .ref C :: bm, ns := N, qualname := qn, hasDict := true, slotNames := sn, subclasses := sub, abstract := ab, collection := col, hasDel := false } := by unfold clsIn; rw [hC] <;> rfl
  have hm := T.sup
  unfold ks_superIn at hm
  rw [hcl] at hm
  obtain ⟨hh, g, d, t, os⟩ := s
  refine ks_wpAt_Expr_any (ks_wpAt_MethodCall ?_ he) hi hsw
  refine ks_wpAt_super_base (env := ksEnv q scope L fI (.ref cda) cc) hks hkc rfl rfl (X _ _ lf) rfl hp rfl (X _ _ lc) rfl hvs hfile T.main ?_
  refine ks_loadName_global hk hks (loadGlobal_builtin (env := ksEnv q scope L fI (.ref cda) cc) G hsg Gb (hb.trans (by rfl)) ⟨rfl, ?_⟩)
  refine wpAny_loadName_free hk hkc rfl ⟨_, X _ _ lcc, rfl⟩ ?_
  refine wpAny_loadName_local hk hka hn hv ?_
  refine ks_wpAny_isType_cls (X _ _ hC) rfl ⟨rfl, ?_⟩
  refine ks_wpAny_call_super (X _ _ hC) rfl hx rfl (fun c e => by cases e) (looks_mroIn X T.own) (fun h' e k => ?_)
  have X' : K.In h' := X.keeps k
  have hI : Looks (model prog w) h' (isInstance (.ref x) (.type "ValueError")) true := (InstAt.type (⟨k _ _ hx, rfl, rfl, trivial⟩ : InstAt h' x (excO C t0) C none)).andThen (looks_subIn X' T.sub)
  have hxC : x ≠ C := fun z => by
    have e1 := X _ _ hC
    rw [← z, hx] at e1
    cases e1
  refine kxs_getMethod kxs_ValueError e (looks_opaque X' T.tp) (l₀ := .ref C :: bm) (fun A Q E s k q => wpAny_bind ((looks_clsIn X' hcl) A _ E s k (wpAny_pure q))) rfl X' hm hI hxC rfl ?_
  have hw : (h'.push (kxs_mw "ValueError.__init__" x)).get? h'.objs.size = some (kxs_mw "ValueError.__init__" x) := Heap.get?_push_at rfl rfl
  refine kxs_callWith (i := "ValueError.__init__") (x := x) rfl (evalArgs_plain (Calls.spliced_cons (wpAny_Constant_str (k := j) (pos := p3) (Calls.spliced_nil ⟨hw, ?_⟩))))
  refine bw_call ((X'.keeps fun b o e => Heap.get?_push_of_some _ e) _ _ hC) (Heap.get?_push_of_some _ (k _ _ hx)) hw (by rw [sizeLine_eq]; exact (by decide : 1 ≤ 16777216)) fun h3 t1 k3 hx3 => ?_
  obtain ⟨oL, es, ep, hL, r⟩ := hn
  have Lx : L ≠ x := fun z => by
    have e1 := hL
    rw [z] at e1
    have e2 := hx.symm.trans e1
    cases e2
    obtain ⟨hd, _⟩ := r
    cases hd
  exact hq h3 _ t1 ⟨oL, es, ep, k3 _ _ Lx (Heap.get?_push_of_some _ (k _ _ hL)), r⟩ (fun b o hb ho => k3 b o hb (Heap.get?_push_of_some _ (k b o ho))) hx3
end
/-- self.f = f, .. -/
inductive Sets : List Str → List Stmt → Prop
  | nil : Sets [] []
  | cons {f : Str} {fs : List Str} {ss : List Stmt} {q1 q2 q3 q4 : Pos} (r : Sets fs ss) : Sets (f :: fs) (setS f q1 q2 q3 q4 :: ss)
/-- an error that is being made: d its dict (none as yet), of mA; h0 the heap ahead of its making -/
def PartE (h0 h : Heap) (x C t1 : Addr) (mA : Str → Option Value) (ns : List Str) : Option Addr → Prop
  | none => h.get? x = some (excO C t1) ∧ (mA = fun _ => none) ∧ ns = []
  | some dx => h0.objs.size < dx ∧ dx ≠ x ∧ h.get? x = some { cls := .ref C, dict := some dx, data := .fields #[.ref t1, .none, .none, .none, .bool false, .none] } ∧ h.Ns1 dx mA ∧ Within mA ns
def putM : List Str → List Value → (Str → Option Value) → Str → Option Value
  | f :: fs, u :: us, mA => putM fs us (fun y => if y = f then some u else mA y)
  | _, _, mA => mA
section
variable {prog : Program} {w : World} {A : Around} {E : Value → Shared → Prop} {K : Frag} {C : Addr} {env : Env}
theorem kept_but {h h' : Heap} {x : Addr} (X : K.In h) (hx : K.lookup x = none) (k : ∀ b o, b ≠ x → h.get? b = some o → h'.get? b = some o) : K.In h' := fun a o e =>
  k a o (fun z => by rw [z, hx] at e; cases e) (X a o e)
theorem ns1_lt {h : Heap} {dx : Addr} {mA : Str → Option Value} (hn : h.Ns1 dx mA) : dx < h.objs.size := by
  obtain ⟨o, es, ep, ho, rr⟩ := hn
  exact Heap.lt_size ho
theorem sets_run (T : L2.OexC K C) {x t1 L : Addr} {m : Str → Option Value} {h0 : Heap} {Q : Flow → Shared → Prop} (hk : env.scope.kind = .function) (hL : env.locals = L) (hs0 : env.kindOf "self" = some .local) (hmx : m "self" = some (.ref x)) (hLx : L ≠ x) (hnx : K.lookup x = none) (hKl : ∀ a o, K.lookup a = some o → a < h0.objs.size) (hL0 : ∀ dx, h0.objs.size < dx → L ≠ dx) :
    ∀ {fs : List Str} {ss : List Stmt}, Sets fs ss → ∀ (us : List Value) (s : Shared) (d : Option Addr) (mA : Str → Option Value) (ns : List Str), us.length = fs.length → ns.length + fs.length ≤ 900 → (∀ f ∈ fs, env.kindOf f = some .local ∧ (f == ("__debug__" : Str)) = false ∧ findIn K (.ref C) f = some none) → (∀ p ∈ fs.zip us, m p.1 = some p.2) →
      h0.objs.size < s.heap.objs.size → K.In s.heap → s.heap.Ns L m → PartE h0 s.heap x C t1 mA ns d →
      (∀ h' tk d', (∀ b o, b ≠ x → h0.get? b = some o → s.heap.get? b = some o → h'.get? b = some o) → (fs = [] → d' = d) → (∀ z, d = some z → d' = some z) → (fs ≠ [] → d' ≠ none) → PartE h0 h' x C t1 (putM fs us mA) (fs.reverse ++ ns) d' → Q .next { s with heap := h', toks := tk }) →
      wpAny (model prog w) A (execs ss env) Q E s := by
  obtain ⟨nm, qn, N, bs, bm, sn, sub, ab, col, dd, k0, k1, k2, k3, k5, hC, hbm⟩ := T.cls
  have hcl : clsIn K C = some { name := nm, bases := bs, mro := .ref C :: bm, ns := N, qualname := qn, hasDict := true, slotNames := sn, subclasses := sub, abstract := ab, collection := col, hasDel := false } := by unfold clsIn; rw [hC] <;> rfl
  intro fs ss r
  induction r with
  | nil =>
    intro us s d mA ns hl hz hf hm hsz X hn hP hq
    obtain ⟨hp, g, dr, t, os⟩ := s
    have e : us = [] := List.length_eq_zero_iff.mp hl
    subst e
    exact wpAny_execs_nil (hq hp t d (fun b o _ _ h => h) (fun _ => rfl) (fun z h => h) (fun h => absurd rfl h) hP)
  | @cons f fs ss q1 q2 q3 q4 r ih =>
    intro us s d mA ns hl hz hf hm hsz X hn hP hq
    obtain ⟨hp, g, dr, t, os⟩ := s
    cases us with
    | nil => cases hl
    | cons u us =>
      obtain ⟨hf1, hf2, hf3⟩ := hf f (List.mem_cons_self ..)
      have hu : m f = some u := hm (f, u) (by show (f, u) ∈ (f, u) :: fs.zip us; exact List.mem_cons_self ..)
      refine wpAny_execs_cons (plainObj_wpAny_Assign_Attribute ?_ (by rfl))
      refine wpAny_Name (wpAny_loadName_local hk hf1 (by rw [hL]; exact hn) hu ?_) hf2
      refine wpAny_Name (wpAny_loadName_local hk hs0 (by rw [hL]; exact hn) hmx ?_) (by decide)
      have hl' : us.length = fs.length := Nat.succ.inj hl
      have hz' : (f :: ns).length + fs.length ≤ 900 := by simp only [List.length_cons] at hz ⊢; omega
      have hf' : ∀ g ∈ fs, env.kindOf g = some .local ∧ (g == ("__debug__" : Str)) = false ∧ findIn K (.ref C) g = some none := fun g hg => hf g (List.mem_cons_of_mem _ hg)
      have hm' : ∀ p ∈ fs.zip us, m p.1 = some p.2 := fun p hp => hm p (by show p ∈ (f, u) :: fs.zip us; exact List.mem_cons_of_mem _ hp)
      have er : (f :: fs).reverse ++ ns = fs.reverse ++ (f :: ns) := by simp
      cases d with
      | none =>
        obtain ⟨hx, rfl, rfl⟩ := hP
        refine set_plain X (ox := excO C t1) (od := none) ⟨hx, rfl, rfl, trivial⟩ T.sa ?_
        refine exc_osa X hx hcl (show refsVE (.ref C :: bm) = true from hbm) rfl hf3 (fun h3 tk3 dx k3' dn dne hx3 hn3 => ?_)
        have keepL : h3.Ns L m := by
          obtain ⟨oL, es, ep, hoL, rr⟩ := hn
          exact ⟨oL, es, ep, k3' _ _ hLx hoL, rr⟩
        refine ih us ⟨h3, g, dr, tk3, os⟩ (some dx) _ [f] hl' hz' hf' hm' ?_ ?_ keepL ⟨Nat.lt_of_lt_of_le hsz dn, dne, hx3, hn3, ?_⟩ ?_
        · exact Nat.lt_trans (Nat.lt_of_lt_of_le hsz dn) (ns1_lt hn3)
        · exact kept_but X hnx k3'
        · exact Within.cons f u (fun y hy => absurd rfl hy)
        · intro h4 tk4 d4 kk e1 e2 e3 hP4
          refine hq h4 tk4 d4 (fun b o hb h0 h1 => kk b o hb h0 (k3' b o hb h1)) (fun z => by cases z) (fun z h => by cases h) (fun _ z => by rw [e2 dx rfl] at z; cases z) ?_
          rw [er]
          exact hP4
      | some dx =>
        obtain ⟨hdx, dne, hx, hns, hw⟩ := hP
        obtain ⟨oD, esD, epD, hoD, rD⟩ := id hns
        refine set_plain X (ox := { cls := .ref C, dict := some dx, data := .fields #[.ref t1, .none, .none, .none, .bool false, .none] }) (od := some oD) ⟨hx, rfl, rfl, hoD⟩ T.sa ?_
        refine PySem.OEX.osa_old X hx hns hw (by simp only [List.length_cons] at hz; omega) hcl (show refsVE (.ref C :: bm) = true from hbm) rfl hf3 (fun h3 tk3 k3' hn3 => ?_)
        have keepL : h3.Ns L m := by
          obtain ⟨oL, es, ep, hoL, rr⟩ := hn
          exact ⟨oL, es, ep, k3' _ _ (hL0 dx hdx) hoL, rr⟩
        have hdK : K.lookup dx = none := by
          cases e : K.lookup dx with
          | none => rfl
          | some o => exact absurd (hKl _ _ e) (Nat.not_lt.mpr (Nat.le_of_lt hdx))
        refine ih us ⟨h3, g, dr, tk3, os⟩ (some dx) _ (f :: ns) hl' hz' hf' hm' ?_ ?_ keepL ⟨hdx, dne, k3' _ _ (Ne.symm dne) hx, hn3, ?_⟩ ?_
        · exact Nat.lt_trans hdx (ns1_lt hn3)
        · exact kept_but X hdK k3'
        · exact Within.cons f u hw
        · intro h4 tk4 d4 kk e1 e2 e3 hP4
          refine hq h4 tk4 d4 (fun b o hb h0 h1 => kk b o hb h0 (k3' b o (fun z => ?_) h1)) (fun z => by cases z) (fun z h => by cases h; exact e2 dx rfl) (fun _ z => by rw [e2 dx rfl] at z; cases z) ?_
          · rw [z] at h0
            exact absurd (Heap.lt_size h0) (Nat.not_lt.mpr (Nat.le_of_lt hdx))
          · rw [er]
            exact hP4
theorem lookup_mem {k : Str} {v : Value} : ∀ {l : List (Str × Value)}, (l.map (·.1)).Nodup → (k, v) ∈ l → l.lookup k = some v
  | [], _, h => by cases h
  | (a, b) :: l, hn, h => by
    rcases List.mem_cons.mp h with e | h
    · cases e
      simp [List.lookup]
    · have hne : (k == a) = false := by
        have h1 : a ∉ l.map (·.1) := (List.nodup_cons.mp hn).1
        have h2 : k ≠ a := fun z => h1 (by rw [← z]; exact List.mem_map.mpr ⟨_, h, rfl⟩)
        simpa using h2
      simp only [List.lookup, hne]
      exact lookup_mem (List.nodup_cons.mp hn).2 h
theorem lookup_rev {k : Str} {v : Value} {l : List (Str × Value)} (hn : (l.map (·.1)).Nodup) (h : (k, v) ∈ l) : l.reverse.lookup k = some v :=
  lookup_mem (by rw [List.map_reverse]; exact List.pairwise_reverse.mpr (hn.imp fun h => Ne.symm h)) (List.mem_reverse.mpr h)
/-- what the text of the __init__ is -/
structure IS (q : Str) (params : Arguments) (body : List Stmt) (scope : Scope) (fs : List Str) : Prop where
  bd : ∃ (text : Str) (j : Nat) (p0 p1 p2 p3 p4 p5 : Pos) (ss : List Stmt), body = supS text j p0 p1 p2 p3 p4 p5 :: ss ∧ Sets fs ss ∧
    (∀ (L fI cda cc : Addr), (∃ pl : Sem Bool, eval (.Call (.Attribute (.Call (.Name "super" p0) [] [] p1) "__init__" p2) [.Constant (.str text) j p3] [] p4) (ksEnv q scope L fI (.ref cda) cc) = (do
      let ov ← attributeBase (.Call (.Name "super" p0) [] [] p1) "__init__" (ksEnv q scope L fI (.ref cda) cc) (eval (.Call (.Name "super" p0) [] [] p1) (ksEnv q scope L fI (.ref cda) cc))
      standAt p2.atName
      let (f, first) ← holding [ov] (getMethod ov "__init__" pl)
      callWith p4 f first (backTo p4 (starEach [.Constant (.str text) j p3] (ksEnv q scope L fI (.ref cda) cc))) [])) ∧
      interactive (ksEnv q scope L fI (.ref cda) cc) = false ∧ swapsWith (.Call (.Attribute (.Call (.Name "super" p0) [] [] p1) "__init__" p2) [.Constant (.str text) j p3] [] p4) none p5.line (ksEnv q scope L fI (.ref cda) cc) = pure false)
  bind : ∀ (kV doc pm : Value) (an : Option Addr) (cda : Addr) (ct : Value) (cc : Addr) (us : List Value), us.length = ("self" :: fs : List Str).length → bindArgs (ksFn "__init__" q params body scope .none kV doc pm an (.ref cda) ct cc) ⟨us, []⟩ = pure (("self" :: fs : List Str).zip us)
  hd : ∃ ar : Arg, (params.posonlyargs ++ params.args).head? = some ar ∧ ar.arg = "self"
  nd : ("self" :: fs : List Str).Nodup
  loc : ∀ f ∈ ("self" :: fs : List Str), scope.names.lookup f = some .local ∧ (f == ("__debug__" : Str)) = false
  cell : ∀ x ∈ scope.names, x.2 ≠ .cell
  co : scope.isCoroutine = false
  gen : scope.isGenerator = false
  k : scope.kind = .function
  hks : scope.names.lookup ("super" : Str) = some .globalImplicit
  hkc : scope.names.lookup ("__class__" : Str) = some .free
  few : fs.length ≤ 900
  some_ : fs ≠ []
theorem err_init {R : Result → Shared → Prop} {s : Shared} {fI : Addr} {q : Str} {params : Arguments} {body : List Stmt} {scope : Scope} {fs : List Str} {mg mb : Str → Option Value} (T : ErC prog K C fI q params body scope) (S : IS q params body scope fs) (hno : ∀ f ∈ fs, findIn K (.ref C) f = some none) {x t0 : Addr} {us : List Value} (X : K.In s.heap) (hlim : s.heap.NoLimit)
    (hx : s.heap.get? x = some (excO C t0)) (hnx : K.lookup x = none) (G : s.heap.Ns mainGlobals mg) (Gb : s.heap.Ns builtinsNs mb) (hb : mb "super" = bootBuiltins "super") (hroom : A.depth < recursionLimit) (hl : us.length = fs.length)
    (hq : ∀ h' tk t1 d, (∀ b o, b ≠ x → s.heap.get? b = some o → h'.get? b = some o) → PartE s.heap h' x C t1 (putM fs us (fun _ => none)) (fs.reverse ++ []) (some d) → R (.ok (.ret .none)) { s with heap := h', toks := tk }) :
    codeAny (model prog w) A (.call (.ref fI) ⟨.ref x :: us, []⟩) R s := by
  obtain ⟨oc, od, kV, doc, pm, an, cda, ct, cc, osl, ccl, cdd, vs, ccs, file, tf, cl, cld, csl, lf, hcd, lc, hvs, hfile, lcc⟩ := T.fn
  obtain ⟨text, j, p0, p1, p2, p3, p4, p5, ss, eb, hss, hev⟩ := S.bd
  obtain ⟨ar, har, earg⟩ := S.hd
  have hKl : ∀ a o, K.lookup a = some o → a < s.heap.objs.size := fun a o e => Heap.lt_size (X _ _ e)
  have hkeys : ((("self" :: fs : List Str).zip (.ref x :: us)).map (·.1)).Nodup := by
    rw [List.map_fst_zip (by show fs.length + 1 ≤ us.length + 1; omega)]
    exact S.nd
  obtain ⟨⟨pl, he⟩, hi, hsw⟩ := hev s.heap.objs.size fI cda cc
  have hmg : mg "super" = none := PySem.W.mg_none_of X G T.sg
  refine ks_codeAny_call_defAt (fd := ksFn "__init__" q params body scope .none kV doc pm an (.ref cda) ct cc) (body := body) (binds := ("self" :: fs : List Str).zip (.ref x :: us)) hroom (X _ _ lf) rfl hlim (codeRec_of X hcd) rfl
    (BindsTo.of_eq (S.bind _ _ _ _ _ _ _ _ (by show us.length + 1 = fs.length + 1; omega))) S.cell (fun y hy => (S.loc y.1 (by
      obtain ⟨y1, y2⟩ := y
      exact (List.of_mem_zip hy).1)).1) (fun h₁ hns hk₁ => ?_) S.co S.gen S.k
  have X₁ : K.In h₁ := X.keeps hk₁
  have hself : (("self" :: fs : List Str).zip (Value.ref x :: us)).reverse.lookup ("self" : Str) = some (Value.ref x) := lookup_rev hkeys (by show _ ∈ (("self" : Str), Value.ref x) :: fs.zip us; exact List.mem_cons_self ..)
  show _root_.PySem.wpAt _ _ (.func body (ksEnv q scope s.heap.objs.size fI (.ref cda) cc)) (execs body (ksEnv q scope s.heap.objs.size fI (.ref cda) cc)) _ _ _
  subst eb
  refine ks_wpAt_execs_cons ?_
  refine sup_stmt T lf lc hvs hfile lcc X₁ (G.at fun o q => hk₁ _ _ q) hmg (Gb.at fun o q => hk₁ _ _ q) hb hns (ar := ar) (by rw [earg]; exact hself) (hk₁ _ _ hx) har S.hks S.hkc (by rw [earg]; exact (S.loc "self" (List.mem_cons_self ..)).1) S.k he hi hsw (fun h2 tk2 t1 hns2 k2 hx2 => ?_)
  refine wpAt_of_wpAny ?_
  have L1 : s.heap.objs.size < h₁.objs.size := hns.lt
  refine sets_run (env := ksEnv q scope s.heap.objs.size fI (.ref cda) cc) (h0 := s.heap) T.x S.k rfl (S.loc "self" (List.mem_cons_self ..)).1 hself (Nat.ne_of_gt (Heap.lt_size hx)) hnx hKl (fun dx h => Nat.ne_of_lt h) hss us _ none (fun _ => none) [] hl (by simpa using S.few) (fun f hf => ⟨(S.loc f (List.mem_cons_of_mem _ hf)).1, (S.loc f (List.mem_cons_of_mem _ hf)).2, hno f hf⟩)
    (fun p hp => lookup_rev hkeys (by show p ∈ (("self" : Str), Value.ref x) :: fs.zip us; exact List.mem_cons_of_mem _ hp)) ?_ (kept_but X₁ hnx k2) hns2 ⟨hx2, rfl, rfl⟩ ?_
  · exact hns2.lt
  · intro h' tk d' kk e1 e2 e3 hP
    cases d' with
    | none => exact absurd rfl (e3 S.some_)
    | some d => exact hq h' tk t1 d (fun b o hb h0 => kk b o hb h0 (k2 b o hb (hk₁ b o h0))) hP
/-- C(u, ..): what is left -/
structure Made (h h' : Heap) (e C d : Addr) (mA : Str → Option Value) : Prop where
  keep : ∀ b o, h.get? b = some o → h'.get? b = some o
  new : h.objs.size ≤ e
  obj : ∃ oe vs, h'.get? e = some oe ∧ oe.cls = .ref C ∧ oe.dict = some d ∧ oe.data = .fields vs ∧ vs[1]? = some .none
  dbig : h.objs.size ≤ d
  dne : d ≠ e
  ns : h'.Ns1 d mA
theorem err_made {R : Result → Shared → Prop} {s : Shared} {fI : Addr} {q : Str} {params : Arguments} {body : List Stmt} {scope : Scope} {fs : List Str} {mg mb : Str → Option Value} (T : ErC prog K C fI q params body scope) (S : IS q params body scope fs) (hno : ∀ f ∈ fs, findIn K (.ref C) f = some none) {us : List Value} (X : K.In s.heap) (hlim : s.heap.NoLimit)
    (G : s.heap.Ns mainGlobals mg) (Gb : s.heap.Ns builtinsNs mb) (hb : mb "super" = bootBuiltins "super") (hroom : A.depth + 1 < recursionLimit) (hl : us.length = fs.length)
    (hq : ∀ h' tk e d, Made s.heap h' e C d (putM fs us (fun _ => none)) → R (.ok (.ret (.ref e))) { s with heap := h', toks := tk }) :
    codeAny (model prog w) A (.call (.ref C) ⟨us, []⟩) R s := by
  obtain ⟨nm, qn, N, bs, bm, sn, sub, ab, col, dd, k0, k1, k2, k3, k5, hC, hbm⟩ := T.x.cls
  obtain ⟨hp, g, dr, tk, os⟩ := s
  have k : ∀ b o, hp.get? b = some o → ((hp.push (kdv_tup us)).push (excO C hp.objs.size)).get? b = some o := fun b o e => Heap.get?_push_of_some _ (Heap.get?_push_of_some _ e)
  have hget : ((hp.push (kdv_tup us)).push (excO C hp.objs.size)).get? (hp.objs.size + 1) = some (excO C hp.objs.size) := by heap_get
  have hnx : K.lookup (hp.objs.size + 1) = none := by
    cases e : K.lookup (hp.objs.size + 1) with
    | none => rfl
    | some o =>
      have z : hp.get? (hp.objs.size + 1) = some o := X _ _ e
      exact absurd (Nat.lt_of_succ_lt (Heap.lt_size z)) (Nat.lt_irrefl _)
  refine call_own PySem.F.excBase_ValueError (fun X => refsVE_contains X bm hbm) (X _ _ hC) (looks_findIn X T.iC) (fun self => bind_fn X self T.tC) (by rw [hl, sizeLine_eq]; exact Nat.le_trans S.few (by decide)) ?_
  refine err_init (s := ⟨(hp.push (kdv_tup us)).push (excO C hp.objs.size), g, dr, tk, os⟩) T S hno (X.keeps k) (hlim.keeps k) hget hnx (G.at fun o q => k _ _ q) (Gb.at fun o q => k _ _ q) hb ?_ hl fun h' tk' t1 d k' hP => ?_
  · show A.depth + 1 < recursionLimit
    exact hroom
  · obtain ⟨hd, dne, hx, hns, _⟩ := hP
    have old : ∀ b o, hp.get? b = some o → h'.get? b = some o := fun b o e => k' b o (Nat.ne_of_lt (Nat.lt_succ_of_lt (Heap.lt_size e))) (k b o e)
    have z : hp.objs.size + 1 + 1 < d := by
      have q := hd
      first
        | (simpa only [Heap.size_push] using q)
        | exact q
    have z2 : hp.objs.size ≤ d := by omega
    exact ⟨rfl, hq h' tk' (hp.objs.size + 1) d ⟨old, Nat.le_succ _, ⟨_, _, hx, rfl, rfl, rfl, rfl⟩, z2, dne, hns⟩⟩
end
end OwnE
end PySem
namespace Gl
open PySem PySem.Spec PyProof.Rows L2
open PySem.OwnE (ErC IS putM)
/-- an error's dict: the fields, stored one behind another -/
def putL : List Str → List V → List (Str × V) → List (Str × V)
  | f :: fs, v :: vs, l => putL fs vs ((f, v) :: l)
  | _, _, l => l
theorem relO_putL : ∀ {fs : List Str} {vs : List V} {us : List Value} {l : List (Str × V)} {mA : Str → Option Value}, Vals vs us → (∀ g, RelO (l.lookup g) (mA g)) → ∀ g, RelO ((putL fs vs l).lookup g) (putM fs us mA g)
  | [], _, _, _, _, _, h => by
    intro g
    unfold putL putM
    exact h g
  | f :: fs, _, _, l, mA, .nil, h => by
    intro g
    unfold putL putM
    exact h g
  | f :: fs, _, _, l, mA, .cons r rs, h => relO_putL (fs := fs) rs (relO_put r h)
/-- C(e, ..) of an own error class: its dict is new -/
def tErr (C : Addr) (fs : List Str) (ta : TA) : L2.St → Hp → XK → Prop := fun σ H Q => ta σ H fun vs H1 => vs.length = fs.length ∧ ∀ d, H1 d = none → Q (.ref C) (some d) (upd H1 d (.xd (putL fs vs [])))
section
variable {X : Cx} {C fI : Addr} {q : Str} {params : Arguments} {body : List Stmt} {scope : Scope} {fs : List Str}
theorem pmk_err {x : Str} {a : Expr} {as : List Expr} {ta : TA} {p pos : Pos} {k : Nat} (T : ErC X.prog X.K C fI q params body scope) (S : IS q params body scope fs) (hno : ∀ f ∈ fs, PySem.W.findIn X.K (.ref C) f = some none) (gC : X.mg x = some (.ref C)) (kC : PySem.W.keepIn X.K (.ref C) = true) (hr : Room (k + 1) X.A) (hg : Gl X x)
    (ha : PA X (a :: as) ta) (hdb : (x == ("__debug__" : Str)) = false := by decide)
    (he : starEach (a :: as) X.env = (false, eval a X.env) :: starEach as X.env := by rfl) (hpl : (backTo pos (starEach as X.env)).any (·.1) = false := by rfl) :
    PMk X (.Call (.Name x p) (a :: as) [] pos) (tErr C fs ta) := by
  intro pins s σ H Q I h
  refine wpAny_Call_Name_kw (ld_glob I hg gC ?_ hdb)
  refine PySem.W.callWith_K (h₀ := X.base) I.ok.mod.kin kC (thn (ha.run pos pins s σ H _ I h) fun us s1 hh => ?_) he hpl
  obtain ⟨vs, H1, I1, r1, hl, q1⟩ := hh
  refine ⟨I1.kIn, ?_⟩
  show wpAny _ _ (call (.ref C) us) _ _ _
  have hlim := I1.nolimit
  obtain ⟨mb, Gb, hmb⟩ := I1.ok.mod.blt
  have hG : s1.heap.Ns mainGlobals X.mg := I1.ok.mod.glob.keeps I1.bk
  have hB : s1.heap.Ns builtinsNs mb := Gb.keeps I1.bk
  obtain ⟨hp, g, dr, tk, os⟩ := s1
  refine wpAny_call (PySem.OwnE.err_made T S hno I1.kIn hlim hG hB (hmb _ (by decide)) (by have := hr.dp; omega) (by rw [← r1.length]; exact hl) fun h' tk' e d M => ?_)
  show MkP X pins σ Q (.ref e) ⟨h', g, dr, tk', os⟩
  obtain ⟨oe, fv, hoe, hc, hd, hdat, h1⟩ := M.obj
  have hns := M.ns
  obtain ⟨G', g1, g2⟩ := restrict h' fun b => decide (b ≠ e)
  have gk : ∀ b, b ≠ e → G'.get? b = h'.get? b := fun b hb => g1 b (decide_eq_true hb)
  have ge : G'.get? e = none := g2 e (by simp)
  have old : ∀ b o, hp.get? b = some o → G'.get? b = some o := fun b o q => (gk b (Nat.ne_of_lt (Nat.lt_of_lt_of_le (Heap.lt_size q) M.new))).trans (M.keep b o q)
  have ob : ObjOk X.prog X.w (upd H1 d (.xd (putL fs vs []))) G' d (.xd (putL fs vs [])) :=
    ⟨_, hns.at (fun o q => (gk d M.dne).trans q), relO_putL r1 fun g => trivial⟩
  have J : Inv X pins σ (upd H1 d (.xd (putL fs vs []))) ⟨G', g, dr, tk', os⟩ := I1.laid (t' := tk') old M.dbig ob
  refine ⟨e, oe, fv, ⟨G', g, dr, tk', os⟩, _, .ref C, some d, rfl, J, fun b o q => ?_, ge, hoe, ⟨hc, hd⟩, hdat, h1, ?_, rfl, I1.bare, raises_own T.x.exC T.x.tyC, q1 d (I1.hok.fresh M.dbig)⟩
  · by_cases hb : b = e
    · have q' : G'.get? b = some o := q
      rw [hb, ge] at q'; cases q'
    · exact (gk b hb).symm.trans q
  · rw [upd_ne (Ne.symm M.dne)]
    exact I1.hok.fresh M.new
end
end Gl

namespace Gl
open PySem PySem.Spec PyProof.Rows L2
open PySem.OwnE (ErC IS putM)
open He (ga ma)
/-! ## own errors: what the head says of them -/
def ccOf (K : PySem.W.Frag) (x : Str) : Addr := match K.lookup (ma K (ga K x) "__init__") with
  | some ⟨_, _, .func fd, _⟩ => (match fd.closure with
    | [p] => p.2
    | _ => 0)
  | _ => 0
def clsE (K : PySem.W.Frag) (C : Addr) : Bool := match K.lookup C with
  | some ⟨.type t, _, .cls cd, sl⟩ => decide (t = "type") && ((match cd.mro, sl.toList with
    | .ref C' :: bm, [_, _, _, _, some (.builtin n), _] => decide (C' = C) && (decide (n = "ValueError.__new__") && (!cd.hasDel && (cd.hasDict && PySem.HandSPX.refsVE bm)))
    | _, _ => false))
  | _ => false
theorem clsE_ok {K : PySem.W.Frag} {C : Addr} (h : clsE K C = true) : ∃ nm q N bs bm sn sub ab col dd k0 k1 k2 k3 k5, K.lookup C = some (excClassObj nm q C N bs bm true sn sub ab col dd k0 k1 k2 k3 k5 "ValueError.__new__") ∧ PySem.HandSPX.refsVE bm = true := by
  unfold clsE at h
  split at h
  · rename_i t dd cd sl ho
    obtain ⟨h0, h⟩ := He.ba h
    split at h
    · rename_i C' bm k0 k1 k2 k3 n k5 hm hs
      obtain ⟨h1, h⟩ := He.ba h
      obtain ⟨h2, h⟩ := He.ba h
      obtain ⟨h3, h⟩ := He.ba h
      obtain ⟨h4, h5⟩ := He.ba h
      have e1 := of_decide_eq_true h1
      have e2 := of_decide_eq_true h2
      have e0 := of_decide_eq_true h0
      subst e1 e2 e0
      obtain ⟨nm, bs, mro, ns, qn, hd, sn, sub, ab, col, del⟩ := cd
      dsimp only at hm h3 h4
      have h3' : del = false := by simpa using h3
      subst hm h3' h4
      have hsl : sl = #[k0, k1, k2, k3, some (.builtin "ValueError.__new__"), k5] := by
        obtain ⟨l⟩ := sl
        simp only at hs
        rw [hs]
      subst hsl
      exact ⟨_, _, _, _, _, _, _, _, _, _, _, _, _, _, _, ho, h5⟩
    · cases h
  · cases h
def fnE (P : Program) (K : PySem.W.Frag) (x q : Str) : Bool := match K.lookup (ma K (ga K x) "__init__") with
  | some ⟨_, _, .func fd, _⟩ => PySem.W.codeIn K fd.code q && ((decide (fd.defaults = .none)) && (match fd.code with
    | .ref cda => (match K.lookup cda with
      | some ⟨_, _, .fields vs, _⟩ => (match (vs[2]? : Option Value) with
        | some (Value.str file _) => ((P.main.file : Str) == file)
        | _ => false)
      | _ => false)
    | _ => false) && (match K.lookup (ccOf K x) with
      | some ⟨_, _, .cell (some (.ref D)), _⟩ => decide (D = ga K x)
      | _ => false))
  | _ => false
def errB (P : Program) (K : PySem.W.Frag) (x q : Str) (fs : List Str) : Bool :=
  clsE K (ga K x) && (He.eqO (PySem.W.findIn K (.ref (ga K x)) "__setattr__") (some (some (.builtin "object.__setattr__"))) && (decide (PySem.W.subIn K (.ref (ga K x)) (.type "BaseException") = some true) && (decide (PySem.W.typeIn K (.ref (ga K x)) = some (.type "type")) && (PySem.W.keepIn K (.ref (ga K x)) &&
  (He.eqO (PySem.W.findIn K (.ref (ga K x)) "__init__") (some (some (.ref (ma K (ga K x) "__init__")))) && (decide (PySem.W.typeIn K (.ref (ma K (ga K x) "__init__")) = some (.type "function")) && (He.eqO (PySem.W.ks_superIn K (ga K x) (ga K x) "__init__") (some (some (.builtin "ValueError.__init__"))) &&
  (decide (PySem.W.subIn K (.ref (ga K x)) (.type "ValueError") = some true) && (decide (PySem.W.mroIn K (ga K x) (.ref (ga K x)) = some true) && (He.eqO (PySem.W.nsIn K cStatics "thirdparty.any") (some none) && (He.eqO (PySem.W.nsIn K mainGlobals "super") (some none) && (!(P.main.scope.names.lookup ("super" : Str)).isSome &&
  (fs.all (fun f => He.eqO (PySem.W.findIn K (.ref (ga K x)) f) (some none)) && (fnE P K x q &&
  (He.eqO (PySem.W.findIn K (.ref (ga K x)) "__getattribute__") (some (some (.builtin "BaseException.__getattribute__"))) && (He.eqO (PySem.W.findIn K (.ref (ga K x)) "__getattr__") (some none) && (PySem.W.hasDictIn K (ga K x) && He.eqO (PySem.W.nsIn K mainGlobals x) (some (some (.ref (ga K x)))))))))))))))))))))
/-- what is known of the own error class x -/
structure Er (P : Program) (K : PySem.W.Frag) (mg : Str → Option Value) (x q : Str) (params : Arguments) (body : List Stmt) (scope : Scope) (fs : List Str) : Prop where
  c : ErC P K (ga K x) (ma K (ga K x) "__init__") q params body scope
  no : ∀ f ∈ fs, PySem.W.findIn K (.ref (ga K x)) f = some none
  xf : XfC K (ga K x)
  g : mg x = some (.ref (ga K x))
  k : PySem.W.keepIn K (.ref (ga K x)) = true
theorem er_ok {P : Program} {K : PySem.W.Frag} {h : Heap} {mg : Str → Option Value} {x q : Str} {params : Arguments} {body : List Stmt} {scope : Scope} {fs : List Str} (X : K.In h) (G : h.Ns mainGlobals mg) (c : errB P K x q fs = true)
    (e : He.fnW K (x, some "__init__") = some (("__init__" : Str), q, params, FuncBody.stmts body, scope, mainGlobals, [(("__class__" : Str), ccOf K x)], builtinsNs)) : Er P K mg x q params body scope fs := by
  unfold errB at c
  obtain ⟨c1, c⟩ := He.ba c
  obtain ⟨c2, c⟩ := He.ba c
  obtain ⟨c3, c⟩ := He.ba c
  obtain ⟨c4, c⟩ := He.ba c
  obtain ⟨c5, c⟩ := He.ba c
  obtain ⟨c6, c⟩ := He.ba c
  obtain ⟨c7, c⟩ := He.ba c
  obtain ⟨c8, c⟩ := He.ba c
  obtain ⟨c9, c⟩ := He.ba c
  obtain ⟨c10, c⟩ := He.ba c
  obtain ⟨c11, c⟩ := He.ba c
  obtain ⟨c12, c⟩ := He.ba c
  obtain ⟨c13, c⟩ := He.ba c
  obtain ⟨c14, c⟩ := He.ba c
  obtain ⟨c15, c⟩ := He.ba c
  obtain ⟨c16, c⟩ := He.ba c
  obtain ⟨c17, c⟩ := He.ba c
  obtain ⟨c18, c19⟩ := He.ba c
  have d3 := of_decide_eq_true c3
  have d4 := of_decide_eq_true c4
  refine ⟨⟨⟨clsE_ok c1, He.eqO_ok c2, d3, d4, c5⟩, He.eqO_ok c6, of_decide_eq_true c7, He.eqO_ok c8, of_decide_eq_true c9, of_decide_eq_true c10, He.eqO_ok c11, He.eqO_ok c12, by simpa using c13, ?_⟩,
    fun f hf => He.eqO_ok (List.all_eq_true.mp c14 f hf), ⟨He.eqO_ok c16, He.eqO_ok c17, d3, c18⟩, PySem.W.mg_of X G (He.eqO_ok c19), c5⟩
  unfold fnE at c15
  unfold He.fnW at e
  have ea : He.fAd K (x, some "__init__") = ma K (ga K x) "__init__" := rfl
  rw [ea] at e
  cases hl : K.lookup (ma K (ga K x) "__init__") with
  | none =>
    rw [hl] at e
    cases e
  | some o =>
    obtain ⟨oc, od, dt, osl⟩ := o
    rw [hl] at c15 e
    cases dt with
    | func fd =>
      obtain ⟨n1, n2, n3, n4, n5, n6, n7, n8, n9, n10, n11, n12, n13, n14, n15⟩ := fd
      have e2 : (some (n1, n2, n3, n4, n5, n6, n7, n15) : He.FnW) = some (("__init__" : Str), q, params, FuncBody.stmts body, scope, mainGlobals, [(("__class__" : Str), ccOf K x)], builtinsNs) := e
      simp only [Option.some.injEq, Prod.mk.injEq] at e2
      obtain ⟨h1, h2, h3, h4, h5, h6, h7, h8⟩ := e2
      subst h1 h2 h3 h4 h5 h6 h7 h8
      dsimp only at c15
      obtain ⟨k1, k2⟩ := He.ba c15
      obtain ⟨k3, k4⟩ := He.ba k2
      obtain ⟨k0, k3⟩ := He.ba k3
      have k0 : n8 = Value.none := of_decide_eq_true k0
      subst k0
      cases n13 with
      | ref cda =>
        dsimp only at k3
        cases hc : K.lookup cda with
        | none =>
          rw [hc] at k3
          cases k3
        | some oc2 =>
          obtain ⟨ccl, cdd, cdt, ccs⟩ := oc2
          rw [hc] at k3
          cases cdt with
          | fields vs =>
            dsimp only at k3
            cases hv : vs[2]? with
            | none =>
              rw [hv] at k3
              cases k3
            | some v =>
              rw [hv] at k3
              cases v with
              | str file tf =>
                cases hcc : K.lookup (ccOf K x) with
                | none =>
                  rw [hcc] at k4
                  cases k4
                | some o3 =>
                  obtain ⟨cl, cld, cdt3, csl⟩ := o3
                  rw [hcc] at k4
                  cases cdt3 with
                  | cell u =>
                    cases u with
                    | none => cases k4
                    | some u =>
                      cases u with
                      | ref D =>
                        have eD : D = ga K x := of_decide_eq_true k4
                        rw [eD] at hcc
                        exact ⟨oc, od, n9, n10, n11, n12, cda, n14, ccOf K x, osl, ccl, cdd, vs, ccs, file, tf, cl, cld, csl, rfl, k1, hc, hv, k3, hcc⟩
                      | _ => cases k4
                  | _ => cases k4
              | _ => cases k3
          | _ => cases k3
      | _ => cases k3
    | _ => cases c15
end Gl

namespace Gl
open PySem PySem.Spec PyProof.Rows L2

/-! ## options as data -/
/-- a datum that is not None -/
class NotNone {α : Type} {A : R α} (D : Dat A) : Prop where
  l : ∀ a, PyData.eqv (D.d a) .none = false
  r : ∀ a, PyData.eqv .none (D.d a) = false
instance : NotNone dI := ⟨fun _ => rfl, fun _ => rfl⟩
instance : NotNone dB := ⟨fun _ => rfl, fun _ => rfl⟩
instance : NotNone dS := ⟨fun _ => rfl, fun _ => rfl⟩
instance {α : Type} {A : R α} {D : Dat A} : NotNone (dL D) := ⟨fun _ => rfl, fun _ => rfl⟩
instance {α : Type} {A : R α} {D : Dat A} : NotNone (dT D) := ⟨fun _ => rfl, fun _ => rfl⟩
instance {α β : Type} {A : R α} {B : R β} {D : Dat A} {E : Dat B} : NotNone (d2 D E) := ⟨fun _ => rfl, fun _ => rfl⟩
def dO {α : Type} {A : R α} (D : Dat A) [N : NotNone D] : Dat (qO A) := ⟨fun
    | none => .none
    | some a => D.d a, fun {K F v a} h => by
    cases a with
    | none => cases (show v = .non from h); exact .non
    | some a => exact D.dp h, fun a b => by
    cases a with
    | none => cases b with
      | none => simp [PyData.eqv]
      | some b =>
        show PyData.eqv .none (D.d b) = true ↔ _
        rw [N.r b]; simp
    | some a => cases b with
      | none =>
        show PyData.eqv (D.d a) .none = true ↔ _
        rw [N.l a]; simp
      | some b =>
        show PyData.eqv (D.d a) (D.d b) = true ↔ _
        rw [D.eq]; simp⟩

/-! ## o.m(..), whatever class o is of: the answer names it -/
def MOk (X : Cx) (m : Str) (C : Addr) (sp : Sp) (E : XK) : Prop := ∃ (f : Addr) (k : Nat) (fd : FuncData) (ps : List Str) (CX : CXT), Cls X.K C ∧ Meth X.K C m f ∧ FnOk X.prog X.w X.K X.mg X.base CX k f fd ps sp ∧ Room k X.A ∧ Binds X.K fd ps [] ∧ Passes CX X E
def mvK (X : Cx) (m : Str) (E : XK) (t : (List V → Hp → Prop) → Hp → Prop) (Q : VK) : VK := fun x H1 => ∃ a dx fs C sp, x = .ref a ∧ H1 a = some (.ins C dx fs) ∧ fs.lookup m = none ∧ MOk X m C sp E ∧ t (fun vs H2 => sp (x :: vs) H2 Q E) H1
def tMethV (X : Cx) (m : Str) (E : XK) (ta : TE) (t : TA) : TE := fun σ H Q => ta σ H (mvK X m E (fun q H1 => t σ H1 q) Q)
section
variable {X : Cx} {o e : Expr} {es : List Expr} {m : Str} {ta : TE} {t : TA} {E : XK} {apos pos : Pos}
theorem pe_methV {pl : Sem Bool} (he : PE X o ta) (ha : PA X (e :: es) t)
    (hst : starEach (e :: es) X.env = (false, eval e X.env) :: starEach es X.env := by rfl) (hpl : (backTo pos (starEach es X.env)).any (·.1) = false := by rfl)
    (ht : eval (.Call (.Attribute o m apos) (e :: es) [] pos) X.env = (do
      let ov ← eval o X.env
      standAt apos.atName
      let (f, first) ← holding [ov] (getMethod ov m pl)
      callWith pos f first (backTo pos (starEach (e :: es) X.env)) (backToKw pos (keywordEach [] X.env))) := by rfl) :
    PE X (.Call (.Attribute o m apos) (e :: es) [] pos) (tMethV X m E ta t) := by
  refine ⟨fun pins s σ H Q I h => ?_⟩
  refine PySem.W.methodCall_KW (pl := pl) (thn (he.run pins s σ H _ I h) fun u s1 ⟨x, H1, I1, rx, a, dx, fs, C, sp, ex, ea, l, ⟨f, k, fd, ps, CX, c, hm, F, hr, hb, hx⟩, q⟩ => ?_) ht
  subst ex
  obtain rfl : u = Value.ref a := rx
  refine getmeth_ok I1 ea c hm l ?_
  refine PySem.W.callWith_K (first := [.ref a]) (h₀ := X.base) I.ok.mod.kin hm.kp (thn (ha.run pos pins s1 σ H1 _ I1 q) fun us s2 ⟨vs, H2, I2, r, q2⟩ => ⟨I2.kIn, ?_⟩) hst hpl
  exact run_fn (us := .ref a :: us) (vs := .ref a :: vs) (dvs := []) (ds := []) F hr hb .nil hx I2 (.cons rfl r) (by rw [List.append_nil]; exact q2)
theorem pe_methV0 {pl : Sem Bool} (he : PE X o ta)
    (ht : eval (.Call (.Attribute o m apos) [] [] pos) X.env = (do
      let ov ← eval o X.env
      standAt apos.atName
      let (f, first) ← holding [ov] (getMethod ov m pl)
      callWith pos f first (backTo pos (starEach [] X.env)) (backToKw pos (keywordEach [] X.env))) := by rfl) :
    PE X (.Call (.Attribute o m apos) [] [] pos) (tMethV X m E ta tNil) := by
  refine ⟨fun pins s σ H Q I h => ?_⟩
  refine PySem.W.methodCall_KW (pl := pl) (thn (he.run pins s σ H _ I h) fun u s1 ⟨x, H1, I1, rx, a, dx, fs, C, sp, ex, ea, l, ⟨f, k, fd, ps, CX, c, hm, F, hr, hb, hx⟩, q⟩ => ?_) ht
  subst ex
  obtain rfl : u = Value.ref a := rx
  refine getmeth_ok I1 ea c hm l ?_
  exact PySem.W.callWith_K0 (first := [.ref a]) I1.kIn hm.kp (run_fn (us := [.ref a]) (vs := [.ref a]) (dvs := []) (ds := []) F hr hb .nil hx I1 (.cons rfl .nil) q)
theorem rd_methV {σ : L2.St} {H : Hp} {Q : VK} (k : ta σ H (mvK X m E (fun q H1 => t σ H1 q) Q)) : tMethV X m E ta t σ H Q := k
end
/-! ## x in o likewise -/
def rInV (X : Cx) (E : XK) : R2 := fun x y H Q => ∃ a dx fs C sp, y = .ref a ∧ H a = some (.ins C dx fs) ∧ MOk X "__contains__" C sp E ∧ sp [.ref a, x] H (inK Q) E
theorem op_inV {X : Cx} {E : XK} : OpR X (compareOp .In) (rInV X E) := by
  intro pins s σ H x y v u Q I rx ry h
  obtain ⟨a, dx, fs, C, sp, rfl, e, ⟨f, k, fd, ps, CX, c, hm, F, hr, hb, hx⟩, h⟩ := h
  cases ry
  show wpAny _ _ ((contains (.ref a) v) >>= fun z => pure (Value.bool z)) _ _ s
  refine wpAny_bind (in_own hm F hr hb hx I e rx h fun r s' ⟨z, H', I', rz, b, ez, q⟩ => ?_)
  subst ez
  cases rz
  exact ⟨b, rfl, wpAny_pure (fin_bl I' q rfl)⟩
theorem op_niV {X : Cx} {E : XK} : OpR X (compareOp .NotIn) (fun x y H Q => rInV X E x y H fun v H2 => ∃ b, v = .bl b ∧ Q (.bl (!b)) H2) := by
  intro pins s σ H x y v u Q I rx ry h
  obtain ⟨a, dx, fs, C, sp, rfl, e, ⟨f, k, fd, ps, CX, c, hm, F, hr, hb, hx⟩, h⟩ := h
  cases ry
  show wpAny _ _ ((contains (.ref a) v) >>= fun z => pure (Value.bool (!z))) _ _ s
  refine wpAny_bind (in_own hm F hr hb hx I e rx h fun r s' ⟨z, H', I', rz, b, ez, c, ec, q⟩ => ?_)
  subst ez
  cases ec
  cases rz
  exact ⟨b, rfl, wpAny_pure (fin_bl I' q rfl)⟩

/-! ## patterns -/
inductive Pat where
  | form (ps : List Str) | both (l r : Pat) | either (l r : Pat)
  deriving DecidableEq
def Pat.forms : Pat → List (List Str)
  | .form ps => [ps]
  | .both l r => l.forms ++ r.forms
  | .either l r => l.forms ++ r.forms
def Pat.ht : Pat → Nat
  | .form _ => 0
  | .both l r => max l.ht r.ht + 1
  | .either l r => max l.ht r.ht + 1
/-- what a class must show for & | of its own -/
def ownOpB (K : PySem.W.Frag) (x : Str) (nm : String) (f : Addr) : Bool := PySem.W.selfFirst K (He.ga K x) && (He.eqO (PySem.W.findIn K (.ref (He.ga K x)) (PySem.dunder nm)) (some (some (.ref f))) && (PySem.W.isFn K (.ref f) && He.eqO (PySem.W.findIn K (.ref (He.ga K x)) (dunderR nm)) (some none)))
theorem ownOpB_ok {K : PySem.W.Frag} {x : Str} {nm : String} {f : Addr} (h : ownOpB K x nm f = true) : OwnOp K (He.ga K x) nm f := by
  unfold ownOpB at h
  obtain ⟨h1, h⟩ := He.ba h
  obtain ⟨h2, h⟩ := He.ba h
  obtain ⟨h3, h4⟩ := He.ba h
  exact ⟨h1, He.eqO_ok h2, h3, He.eqO_ok h4⟩
/-- classes x and y: the same, or y is not below x -/
def apartB (K : PySem.W.Frag) (x y : Str) : Bool := decide (He.ga K x = He.ga K y) || decide (PySem.W.subIn K (.ref (He.ga K y)) (.ref (He.ga K x)) = some false)
theorem apartB_ok {K : PySem.W.Frag} {x y : Str} (h : apartB K x y = true) : He.ga K x = He.ga K y ∨ PySem.W.subIn K (.ref (He.ga K y)) (.ref (He.ga K x)) = some false := by
  unfold apartB at h
  rcases Bool.or_eq_true_iff.mp h with h | h
  · exact .inl (of_decide_eq_true h)
  · exact .inr (of_decide_eq_true h)
def isaB (K : PySem.W.Frag) (x y : Str) (b : Bool) : Bool := decide (PySem.W.kitOne K (.ref (He.ga K x)) (.ref (He.ga K y)) = some b)
theorem isaB_ok {K : PySem.W.Frag} {x y : Str} {b : Bool} (h : isaB K x y b = true) : PySem.W.kitOne K (.ref (He.ga K x)) (.ref (He.ga K y)) = some b := of_decide_eq_true h

def qForm : R (List Str) := ⟨fun K F v a => ∃ (p dx : Addr) (u0 : V), v = .ref p ∧ F p = some (.ins (He.ga K "Form") dx [("pieces", u0)]) ∧ (qT qS).r K F u0 a, fun e ⟨p, dx, u0, h1, h2, k0⟩ => ⟨p, dx, u0, h1, e _ _ h2, (qT qS).mono e k0⟩⟩
def qPatR (K : PySem.W.Frag) (F : Hp) : V → Pat → Prop
  | v, .form ps => qForm.r K F v ps
  | v, .both l r => ∃ (p dx : Addr) (u w : V), v = .ref p ∧ F p = some (.ins (He.ga K "Both") dx [("left", u), ("right", w)]) ∧ qPatR K F u l ∧ qPatR K F w r
  | v, .either l r => ∃ (p dx : Addr) (u w : V), v = .ref p ∧ F p = some (.ins (He.ga K "Either") dx [("left", u), ("right", w)]) ∧ qPatR K F u l ∧ qPatR K F w r
theorem qPatR_mono {K : PySem.W.Frag} {F F' : Hp} (e : Same F F') : ∀ {v : V} {a : Pat}, qPatR K F v a → qPatR K F' v a
  | _, .form _, h => qForm.mono e h
  | _, .both _ _, ⟨p, dx, u, w, h1, h2, h3, h4⟩ => ⟨p, dx, u, w, h1, e _ _ h2, qPatR_mono e h3, qPatR_mono e h4⟩
  | _, .either _ _, ⟨p, dx, u, w, h1, h2, h3, h4⟩ => ⟨p, dx, u, w, h1, e _ _ h2, qPatR_mono e h3, qPatR_mono e h4⟩
def qPat : R Pat := ⟨fun K F v a => qPatR K F v a, fun e h => qPatR_mono e h⟩
def Pat.cls : Pat → Str
  | .form _ => "Form"
  | .both _ _ => "Both"
  | .either _ _ => "Either"
def Pat.holds : Pat → List Bool → Option Bool
  | .form _, t => atI t 0
  | .both l r, t => (l.holds (cut t none (some (l.forms.length : Int)))).bind fun b => if b = true then r.holds (cut t (some (l.forms.length : Int)) none) else some false
  | .either l r, t => (l.holds (cut t none (some (l.forms.length : Int)))).bind fun b => if b = true then some true else r.holds (cut t (some (l.forms.length : Int)) none)
def patN {α : Type} (n : Nat) (a : Pat) (x : Option α) : Option α := gd (decide (a.ht ≤ n)) <| gd (decide (a.forms.length ≤ 16)) x
def m_pat_forms (a : Pat) : Option (List (List Str)) := patN 3 a (some a.forms)
def m_pat_holds (a : Pat) (t : List Bool) : Option Bool := patN 3 a (a.holds t)
theorem patN_some {α : Type} {n : Nat} {a : Pat} {x : Option α} {r : α} (h : patN n a x = some r) : a.ht ≤ n ∧ a.forms.length ≤ 16 ∧ x = some r := by
  obtain ⟨h1, h⟩ := gd_some h
  obtain ⟨h2, h⟩ := gd_some h
  exact ⟨of_decide_eq_true h1, of_decide_eq_true h2, h⟩
theorem patN_of {α : Type} {n : Nat} {a : Pat} {x : Option α} (h1 : a.ht ≤ n) (h2 : a.forms.length ≤ 16) : patN n a x = x := by
  unfold patN
  rw [gd_true (decide_eq_true h1), gd_true (decide_eq_true h2)]
def isPatC (x : Str) : Prop := x = "Form" ∨ x = "Both" ∨ x = "Either"
theorem Pat.isC (a : Pat) : isPatC a.cls := by
  cases a with
  | form => exact .inl rfl
  | both => exact .inr (.inl rfl)
  | either => exact .inr (.inr rfl)
/-- a method of all three classes: what each keeps -/
structure VM (P : Program) (w : World) (K : PySem.W.Frag) (mg : Str → Option Value) (base : Heap) (k : Nat) (m : Str) (ps : List Str) (sp : Str → Sp) : Prop where
  go : ∀ x, isPatC x → Cls K (He.ga K x) ∧ Meth K (He.ga K x) m (He.fAd K (x, some m)) ∧ FnOk P w K mg base CX0 k (He.fAd K (x, some m)) (fdOf K (x, some m)) ps (sp x) ∧ Binds K (fdOf K (x, some m)) ps []
theorem qPat_ins {K : PySem.W.Frag} {F H : Hp} {v : V} {a : Pat} (r : qPat.r K F v a) (s : Same F H) : ∃ p dx fs, v = .ref p ∧ H p = some (.ins (He.ga K a.cls) dx fs) ∧ ∀ m : Str, m ≠ "pieces" → m ≠ "left" → m ≠ "right" → fs.lookup m = none := by
  cases a with
  | form ps =>
    obtain ⟨p, dx, u0, h1, h2, _⟩ := (show qForm.r K F v ps from r)
    exact ⟨p, dx, _, h1, s _ _ h2, fun m n1 n2 n3 => by simp [List.lookup, beq_eq_false_iff_ne.mpr n1]⟩
  | both l r' =>
    obtain ⟨p, dx, u, w, h1, h2, _⟩ := (show qPatR K F v (.both l r') from r)
    exact ⟨p, dx, _, h1, s _ _ h2, fun m n1 n2 n3 => by simp [List.lookup, beq_eq_false_iff_ne.mpr n2, beq_eq_false_iff_ne.mpr n3]⟩
  | either l r' =>
    obtain ⟨p, dx, u, w, h1, h2, _⟩ := (show qPatR K F v (.either l r') from r)
    exact ⟨p, dx, _, h1, s _ _ h2, fun m n1 n2 n3 => by simp [List.lookup, beq_eq_false_iff_ne.mpr n2, beq_eq_false_iff_ne.mpr n3]⟩
section
variable {X : Cx} {k : Nat} {m : Str} {ps : List Str} {sp : Str → Sp} {F H F0 H0 : Hp} {P' : Addr → Prop} {v : V} {a : Pat} {Q : VK} {t : (List V → Hp → Prop) → Hp → Prop} {E : XK}
theorem VM.call (V : VM X.prog X.w X.K X.mg X.base k m ps sp) (hr : Room k X.A) (S : Sx P' F0 H0 F H) (r : qPat.r X.K F v a) (kt : t (fun vs H2 => sp a.cls (v :: vs) H2 Q E) H)
    (n1 : m ≠ "pieces" := by decide) (n2 : m ≠ "left" := by decide) (n3 : m ≠ "right" := by decide) : mvK X m E t Q v H := by
  obtain ⟨p, dx, fs, rfl, h2, h3⟩ := qPat_ins r S.sub
  obtain ⟨c, me, F, b⟩ := V.go a.cls a.isC
  exact ⟨p, dx, fs, _, sp a.cls, rfl, h2, h3 m n1 n2 n3, ⟨_, k, _, ps, CX0, c, me, F, hr, b, pass0⟩, kt⟩
theorem VM.inAt {x : V} (V : VM X.prog X.w X.K X.mg X.base k "__contains__" ps sp) (hr : Room k X.A) (S : Sx P' F0 H0 F H) (r : qPat.r X.K F v a)
    (kt : sp a.cls [v, x] H (inK Q) E) : rInV X E x v H Q := by
  obtain ⟨p, dx, fs, rfl, h2, h3⟩ := qPat_ins r S.sub
  obtain ⟨c, me, F, b⟩ := V.go a.cls a.isC
  exact ⟨p, dx, fs, _, sp a.cls, rfl, h2, ⟨_, k, _, ps, CX0, c, me, F, hr, b, pass0⟩, kt⟩
end
def sp_pat_forms (n : Nat) (x : Str) (K : PySem.W.Frag) : Sp := fun vs H Q _ => ∃ (F : Hp) (v_self : V) (a_self : Pat) (r : List (List Str)), vs = [v_self] ∧ Same F H ∧ qPat.r K F v_self a_self ∧ a_self.cls = x ∧ patN n a_self (some a_self.forms) = some r ∧ ∀ v F' H', Sx P0 F H F' H' → (qL qForm).r K F' v r → Q v H'
def sp_pat_holds (n : Nat) (x : Str) (K : PySem.W.Frag) : Sp := fun vs H Q _ => ∃ (F : Hp) (v_self : V) (a_self : Pat) (v_truths : V) (a_truths : List Bool) (r : Bool), vs = [v_self, v_truths] ∧ Same F H ∧ qPat.r K F v_self a_self ∧ a_self.cls = x ∧ (qL qB).r K F v_truths a_truths ∧ patN n a_self (a_self.holds a_truths) = some r ∧ ∀ v F' H', Sx P0 F H F' H' → qB.r K F' v r → Q v H'

structure InsF (K : PySem.W.Frag) (C : Addr) : Prop where
  ha : PySem.W.findIn K (.ref C) "__class__" = some (some (.builtin "object.__class__"))
  hn : PySem.W.specialIn K (.builtin "object.__class__") "__get__" = some (some (.builtin "getset_descriptor.__get__"))
  htk : PySem.W.takesIn K (.builtin "object.__class__") = some true
  hm : PySem.W.mroIn K C (.type "object") = some true
def insB (K : PySem.W.Frag) (C : Addr) : Bool := He.eqO (PySem.W.findIn K (.ref C) "__class__") (some (some (.builtin "object.__class__"))) && (decide (PySem.W.specialIn K (.builtin "object.__class__") "__get__" = some (some (.builtin "getset_descriptor.__get__"))) && (decide (PySem.W.takesIn K (.builtin "object.__class__") = some true) && decide (PySem.W.mroIn K C (.type "object") = some true)))
theorem insB_ok {K : PySem.W.Frag} {C : Addr} (h : insB K C = true) : InsF K C := by
  unfold insB at h
  obtain ⟨h1, h⟩ := He.ba h
  obtain ⟨h2, h⟩ := He.ba h
  obtain ⟨h3, h4⟩ := He.ba h
  exact ⟨He.eqO_ok h1, of_decide_eq_true h2, of_decide_eq_true h3, of_decide_eq_true h4⟩
/-- what the head says of the three classes -/
structure PatF (K : PySem.W.Frag) : Prop where
  cls : ∀ x, isPatC x → Cls K (He.ga K x)
  ins : ∀ x, isPatC x → InsF K (He.ga K x)
  isa : ∀ x, isPatC x → PySem.W.kitOne K (.ref (He.ga K x)) (.ref (He.ga K "Pattern")) = some true
  and_ : ∀ x, isPatC x → OwnOp K (He.ga K x) "and" (He.fAd K ("Pattern", some "__and__"))
  or_ : ∀ x, isPatC x → OwnOp K (He.ga K x) "or" (He.fAd K ("Pattern", some "__or__"))
  ap : ∀ x y, isPatC x → isPatC y → He.ga K x = He.ga K y ∨ PySem.W.subIn K (.ref (He.ga K y)) (.ref (He.ga K x)) = some false
def patCs : List Str := ["Form", "Both", "Either"]
theorem patCs_mem {x : Str} (h : isPatC x) : x ∈ patCs := by
  rcases h with rfl | rfl | rfl <;> simp [patCs]
def patB (K : PySem.W.Frag) : Bool := patCs.all fun x => insB K (He.ga K x) && (isaB K x "Pattern" true && (ownOpB K x "and" (He.fAd K ("Pattern", some "__and__")) && (ownOpB K x "or" (He.fAd K ("Pattern", some "__or__")) && patCs.all (apartB K x))))
theorem patB_ok {K : PySem.W.Frag} (h : patB K = true) (c1 : Cls K (He.ga K "Form")) (c2 : Cls K (He.ga K "Both")) (c3 : Cls K (He.ga K "Either")) : PatF K := by
  have z := fun x (hx : isPatC x) => List.all_eq_true.mp h x (patCs_mem hx)
  refine ⟨fun x hx => ?_, fun x hx => ?_, fun x hx => ?_, fun x hx => ?_, fun x hx => ?_, fun x y hx hy => ?_⟩
  · rcases hx with rfl | rfl | rfl
    · exact c1
    · exact c2
    · exact c3
  · exact insB_ok (He.ba (z x hx)).1
  · exact isaB_ok (He.ba (He.ba (z x hx)).2).1
  · exact ownOpB_ok (He.ba (He.ba (He.ba (z x hx)).2).2).1
  · exact ownOpB_ok (He.ba (He.ba (He.ba (He.ba (z x hx)).2).2).2).1
  · exact apartB_ok (List.all_eq_true.mp (He.ba (He.ba (He.ba (He.ba (z x hx)).2).2).2).2 y (patCs_mem hy))
section
variable {K : PySem.W.Frag} {F H F0 H0 : Hp} {P' : Addr → Prop} {v w : V} {a b : Pat} {Q : VK} {sp : Sp} {E : XK}
theorem tx_pat (T : PatF K) (S : Sx P' F0 H0 F H) (r : qPat.r K F v a) : TyX K H v (.ref (He.ga K a.cls)) := by
  obtain ⟨p, dx, fs, rfl, h2, h3⟩ := qPat_ins r S.sub
  obtain ⟨i1, i2, i3, i4⟩ := T.ins a.cls a.isC
  exact .base (.ins h2 (T.cls a.cls a.isC) i1 i2 i3 i4)
theorem rd_isPat (T : PatF K) (S : Sx P' F0 H0 F H) (r : qPat.r K F v a) (k : Q (.bl true) H) : rIsi K [v, .ref (He.ga K "Pattern")] H Q :=
  ⟨v, _, _, _, true, rfl, .own _, tx_pat T S r, T.isa a.cls a.isC, k⟩
theorem pat_op {nm : String} {f : Addr} (o : ∀ x, isPatC x → OwnOp K (He.ga K x) nm f) (T : PatF K) (S : Sx P' F0 H0 F H) (r : qPat.r K F v a) (r2 : qPat.r K F w b) (k : sp [v, w] H Q E) : rBinO K nm f sp E v w H Q := by
  obtain ⟨p, dx, fs, rfl, h2, h3⟩ := qPat_ins r S.sub
  obtain ⟨q, dy, gs, rfl, h5, h6⟩ := qPat_ins r2 S.sub
  exact ⟨p, q, _, _, dx, dy, fs, gs, f, rfl, rfl, h2, h5, o a.cls a.isC, o b.cls b.isC, T.ap a.cls b.cls a.isC b.isC, k⟩
theorem pat_and (T : PatF K) (S : Sx P' F0 H0 F H) (r : qPat.r K F v a) (r2 : qPat.r K F w b) (k : sp [v, w] H Q E) : rBinO K "and" (He.fAd K ("Pattern", some "__and__")) sp E v w H Q := pat_op T.and_ T S r r2 k
theorem pat_or (T : PatF K) (S : Sx P' F0 H0 F H) (r : qPat.r K F v a) (r2 : qPat.r K F w b) (k : sp [v, w] H Q E) : rBinO K "or" (He.fAd K ("Pattern", some "__or__")) sp E v w H Q := pat_op T.or_ T S r r2 k
end

theorem rd_niK {Q : VK} {b : Bool} {H : Hp} (k : Q (.bl (!b)) H) : inK (fun v H2 => ∃ c, v = .bl c ∧ Q (.bl (!c)) H2) (.bl b) H := ⟨b, rfl, b, rfl, k⟩
/-! ## x is None -/
class NN {α : Type} (A : R α) : Prop where
  n : ∀ {K : PySem.W.Frag} {F : Hp} {v : V} {a : α}, A.r K F v a → v ≠ .non
instance : NN qI := ⟨fun h => by cases (show _ = V.int _ from h); exact fun z => nomatch z⟩
instance : NN qS := ⟨fun h => by cases (show _ = V.str _ from h); exact fun z => nomatch z⟩
instance : NN qB := ⟨fun h => by cases (show _ = V.bl _ from h); exact fun z => nomatch z⟩
instance {α : Type} {A : R α} : NN (qL A) := ⟨fun ⟨p, vs, h, _⟩ => by subst h; exact fun z => nomatch z⟩
instance {α : Type} {A : R α} : NN (qT A) := ⟨fun ⟨p, vs, h, _⟩ => by subst h; exact fun z => nomatch z⟩
instance {α β : Type} {A : R α} {B : R β} : NN (q2 A B) := ⟨fun ⟨p, u, w, h, _⟩ => by subst h; exact fun z => nomatch z⟩
instance {α β γ : Type} {A : R α} {B : R β} {C : R γ} : NN (q3 A B C) := ⟨fun ⟨p, u, w, z, h, _⟩ => by subst h; exact fun z => nomatch z⟩
instance : NN qForm := ⟨fun ⟨p, dx, u, h, _⟩ => by subst h; exact fun z => nomatch z⟩
instance : NN qPat := ⟨fun h => by obtain ⟨p, _, _, rfl, _⟩ := qPat_ins h (Same.refl _); exact fun z => nomatch z⟩
def rIsN0 : R2 := fun x y H Q => y = .non ∧ Q (.bl (decide (x = .non))) H
def rNotN0 : R2 := fun x y H Q => y = .non ∧ Q (.bl (!decide (x = .non))) H
theorem op_isN' {X : Cx} : OpR X (compareOp .Is) rIsN0 := op_isN
theorem op_notN' {X : Cx} : OpR X (compareOp .IsNot) rNotN0 := op_notN
section
variable {α : Type} {A : R α} {K : PySem.W.Frag} {F H : Hp} {v : V} {Q : VK} {a : Option α} {b : α}
theorem qO_non [N : NN A] (r : (qO A).r K F v a) : decide (v = .non) = a.isNone := by
  cases a with
  | none => cases (show v = .non from r); rfl
  | some a => exact decide_eq_false (N.n r)
theorem rd_isN [NN A] (r : (qO A).r K F v a) (k : Q (.bl a.isNone) H) : rIsN0 v .non H Q := ⟨rfl, by rw [qO_non r]; exact k⟩
theorem rd_notN [NN A] (r : (qO A).r K F v a) (k : Q (.bl (!a.isNone)) H) : rNotN0 v .non H Q := ⟨rfl, by rw [qO_non r]; exact k⟩
theorem rd_isNf [N : NN A] (r : A.r K F v b) (k : Q (.bl false) H) : rIsN0 v .non H Q := ⟨rfl, by rw [decide_eq_false (N.n r)]; exact k⟩
theorem rd_notNf [N : NN A] (r : A.r K F v b) (k : Q (.bl true) H) : rNotN0 v .non H Q := ⟨rfl, by rw [decide_eq_false (N.n r)]; exact k⟩
theorem rd_isNt (k : Q (.bl true) H) : rIsN0 .non .non H Q := ⟨rfl, k⟩
theorem rd_notNt (k : Q (.bl false) H) : rNotN0 .non .non H Q := ⟨rfl, k⟩
/-- what is known to be there -/
theorem qO_some (r : (qO A).r K F v a) (h : a = some b) : A.r K F v b := by subst h; exact r
end
end Gl

namespace Gl
open PySem PySem.Spec PyProof.Rows L2

/-! ## sorted of data -/
section
variable {X : Cx}
def rSortedD (K : PySem.W.Frag) : List V → Hp → VK → Prop := fun xs H Q => ∃ (p : Addr) (vs : List V) (β : Type) (enc : β → PyData) (bs : List β) (rel : V → β → Prop), xs = [.ref p] ∧ SqL K H p vs ∧ Paired rel vs bs ∧ (∀ v b, rel v b → Dp K H v (enc b)) ∧ (∀ b b', PySem.W.alike (enc b) (enc b') = true) ∧ PySem.W.Sortable (bs.map enc) ∧ (∀ b ∈ bs, (enc b).depth ≤ 16) ∧
  ∀ us q, Paired rel us (bs.mergeSort (PySem.W.dataLe false enc)) → H q = none → Q (.ref q) (upd H q (.lst us))
theorem each_of {pins : List (Addr × Obj)} {σ : L2.St} {H : Hp} {s : Shared} {β : Type} {rel : V → β → Prop} : ∀ {vs : List V} {its : List Value} {bs : List β}, Vals vs its → Paired rel vs bs → PySem.W.EachIs (fun u b => ∃ x, RelV x u ∧ rel x b) its bs
  | _, _, _, .nil, .nil => .nil
  | _, _, _, .cons r rs, .cons q qs => .cons ⟨_, r, q⟩ (each_of (pins := pins) (σ := σ) (H := H) (s := s) rs qs)
theorem each_back {β : Type} {rel : V → β → Prop} : ∀ {out : List Value} {bs : List β}, PySem.W.EachIs (fun u b => ∃ x, RelV x u ∧ rel x b) out bs → ∃ us, Vals us out ∧ Paired rel us bs
  | _, _, .nil => ⟨[], .nil, .nil⟩
  | _, _, .cons ⟨x, h1, h2⟩ t => by
    obtain ⟨us, h3, h4⟩ := each_back t
    exact ⟨x :: us, .cons h1 h3, .cons h2 h4⟩
theorem cr_sortedD (hu : X.A.units + 64 < cLine) : CallR X (.builtin "sorted") (rSortedD X.K) := by
  intro pins s σ H xs us Q I r h
  obtain ⟨p, vs, β, enc, bs, rel, rfl, hs, hp, hd, hal, hk, hdep, q⟩ := h
  obtain ⟨its, rv, hl, hz⟩ := I.list hs
  rw [Vals.ref1 r]
  have e := each_of (pins := pins) (σ := σ) (H := H) (s := s) rv hp
  have lb : bs.length = vs.length := (pLen hp).symm
  refine PySem.W.sorted_data (vs := its) hl.isList e (e.mono fun u b ⟨x, h1, h2⟩ => Dp.reads I _ _ _ (hd x b h2) h1) (PySem.W.AllAlike.of hal) hk (by rw [lb]; exact hz) (fun b hb => by have := hdep b hb; omega) fun out ho eo => ?_
  obtain ⟨zs, h1, h2⟩ := each_back eo
  obtain ⟨ep, he'⟩ := PyProof.Rows.sortedAll_at s.heap its out.toArray
  have hlen : zs.length ≤ sizeLine := by rw [h1.length, ho, lb]; exact hz
  exact ⟨.ref _, upd H (s.heap.objs.size + 1) (.lst zs), I.laid (t' := s.toks) (fun _ _ => PyProof.Rows.sortedAll_old) (Nat.le_succ _) ⟨hlen, out, ep, h1, he'⟩, rfl, q _ _ h2 (I.hok.fresh (Nat.le_succ _))⟩
end
/-- data of one kind, which can be put in order -/
class Ord1 {α : Type} {A : R α} (D : Dat A) where
  n : Nat
  al : ∀ a b, PySem.W.alike (D.d a) (D.d b) = true
  dep : ∀ a, (D.d a).depth ≤ n
class Ordd {α : Type} {A : R α} (D : Dat A) extends Ord1 D where
  srt : ∀ bs : List α, PySem.W.Sortable (bs.map D.d)
theorem depAllQ {α : Type} {A : R α} (D : Dat A) (n : Nat) (h : ∀ a, (D.d a).depth ≤ n) : ∀ xs : List α, PyData.depthAll (xs.map D.d) ≤ n
  | [] => by simp [PyData.depthAll]
  | x :: xs => by
    rw [List.map_cons, PyData.depthAll]
    exact Nat.max_le.mpr ⟨h x, depAllQ D n h xs⟩
theorem alAll {α : Type} {A : R α} (D : Dat A) [o : Ord1 D] : ∀ xs ys : List α, PySem.W.alikeAll (xs.map D.d) (ys.map D.d) = true
  | [], _ => by simp [PySem.W.alikeAll]
  | _ :: _, [] => by simp [PySem.W.alikeAll]
  | x :: xs, y :: ys => by
    rw [List.map_cons, List.map_cons, PySem.W.alikeAll, alAll D xs ys, o.al x y]; rfl
instance oI : Ordd dI where
  n := 0
  al := fun _ _ => rfl
  dep := fun _ => Nat.zero_le _
  srt := fun bs => PySem.W.Sortable.others fun b => ⟨(fun z => nomatch z), fun _ z => nomatch z⟩
instance oS : Ordd dS where
  n := 0
  al := fun _ _ => rfl
  dep := fun _ => Nat.zero_le _
  srt := fun bs => PySem.W.Sortable.others fun b => ⟨(fun z => nomatch z), fun _ z => nomatch z⟩
instance oB : Ordd dB where
  n := 0
  al := fun _ _ => rfl
  dep := fun _ => Nat.zero_le _
  srt := fun bs => PySem.W.Sortable.others fun b => ⟨(fun z => nomatch z), fun _ z => nomatch z⟩
instance oT {α : Type} {A : R α} {D : Dat A} [o : Ord1 D] : Ord1 (dT D) where
  n := o.n + 1
  al := fun a b => by
    show PySem.W.alike (.tuple (a.map D.d)) (.tuple (b.map D.d)) = true
    rw [PySem.W.alike]; exact alAll D a b
  dep := fun a => by
    show (PyData.tuple (a.map D.d)).depth ≤ _
    rw [PyData.depth]
    have := depAllQ D o.n o.dep a
    omega
instance oL {α : Type} {A : R α} {D : Dat A} [o : Ord1 D] : Ordd (dL D) where
  n := o.n + 1
  al := fun a b => by
    show PySem.W.alike (.list (a.map D.d)) (.list (b.map D.d)) = true
    rw [PySem.W.alike]; exact alAll D a b
  dep := fun a => by
    show (PyData.list (a.map D.d)).depth ≤ _
    rw [PyData.depth]
    have := depAllQ D o.n o.dep a
    omega
  srt := fun bs => PySem.W.Sortable.others fun b => ⟨(fun z => nomatch z), fun _ z => nomatch z⟩
instance o2 {α β : Type} {A : R α} {B : R β} {D : Dat A} {E : Dat B} [o : Ord1 D] [p : Ord1 E] : Ordd (d2 D E) where
  n := max o.n p.n + 1
  al := fun a b => by
    show PySem.W.alike (.tuple [D.d a.1, E.d a.2]) (.tuple [D.d b.1, E.d b.2]) = true
    simp [PySem.W.alike, PySem.W.alikeAll, o.al, p.al]
  dep := fun a => by
    show (PyData.tuple [D.d a.1, E.d a.2]).depth ≤ _
    have h1 := o.dep a.1
    have h2 := p.dep a.2
    simp only [PyData.depth, PyData.depthAll]
    omega
  srt := fun bs => PySem.W.Sortable.tuples fun b => ⟨_, _, rfl⟩
def srtD {α : Type} {A : R α} (D : Dat A) (xs : List α) : List α := xs.mergeSort (PySem.W.dataLe false D.d)
section
variable {α : Type} {A : R α} {K : PySem.W.Frag} {F H F0 H0 : Hp} {P : Addr → Prop} {v : V} {xs : List α} {Q : VK}
theorem rd_sortD {D : Dat A} (o : Ordd D) (S : Same F H) (s : SeenR A K F H v xs) (h : Nat.ble o.n 16 = true) (k : nL A K F Q H (srtD D xs)) : rSortedD K [v] H Q := by
  obtain ⟨p, vs, rfl, h1, r⟩ := s
  exact ⟨p, vs, α, D.d, xs, fun u b => A.r K F u b, rfl, h1, r, fun u b hb => Dp.mono S (D.dp hb), o.al, o.srt xs, fun b _ => Nat.le_trans (o.dep b) (Nat.le_of_ble_eq_true h), fun us q hp hq => k q us hq hp⟩
end
end Gl

namespace Gl
open PySem PySem.Spec PyProof.Rows L2

/-! ## dicts whose keys are tuples of any depth, with values -/
def ndvX (P : Program) (w : World) (a : Addr) (kvs : List (NestedKey × Addr × V)) (h : Heap) : Prop :=
  ∃ o es ep, ∃ xs : List (NestedKey × Addr × Value), h.get? a = some o ∧ o.ExactDict ∧ o.data = .dict es ep ∧ es.toList = xs.map (entryOfKey (nestedKind P w)) ∧ Paired (fun (p : NestedKey × Addr × V) (q : NestedKey × Addr × Value) => p.1 = q.1 ∧ p.2.1 = q.2.1 ∧ RelV p.2.2 q.2.2) kvs xs ∧ (a == sysModules) = false ∧ (kvs.map (·.1)).Nodup ∧ kvs.length ≤ sizeLine
def ndvO (P : Program) (w : World) (a : Addr) (kvs : List (NestedKey × Addr × V)) : HO := .ext (ndvX P w a kvs)
theorem ndvO_ok {P : Program} {w : World} {H : Hp} {h : Heap} {a : Addr} {kvs : List (NestedKey × Addr × V)} (x : ndvX P w a kvs h) : ObjOk P w H h a (ndvO P w a kvs) := by
  obtain ⟨o, es, ep, xs, h1, h2⟩ := id x
  exact ⟨x, ⟨o, h1⟩, fun h1' h2' ⟨o, es, ep, xs, e1, e2⟩ k => ⟨o, es, ep, xs, k o e1, e2⟩⟩
theorem ndvO_at {P : Program} {w : World} {H : Hp} {h : Heap} {a : Addr} {kvs : List (NestedKey × Addr × V)} (hok : HOk P w H h) (e : H a = some (ndvO P w a kvs)) : ndvX P w a kvs h := by
  have x : ObjOk P w H h a (.ext (ndvX P w a kvs)) := hok a _ e
  exact x.1
def keysOkV (K : PySem.W.Frag) (H : Hp) (kvs : List (NestedKey × Addr × V)) : Prop := ∀ x ∈ kvs, NKv K H x.1 (.ref x.2.1) ∧ x.1.depth ≤ 8
abbrev KvRel (kvs : List (NestedKey × Addr × V)) (xs : List (NestedKey × Addr × Value)) : Prop := Paired (fun (p : NestedKey × Addr × V) (q : NestedKey × Addr × Value) => p.1 = q.1 ∧ p.2.1 = q.2.1 ∧ RelV p.2.2 q.2.2) kvs xs
theorem KvRel.keys {kvs : List (NestedKey × Addr × V)} {xs : List (NestedKey × Addr × Value)} (r : KvRel kvs xs) : xs.map (·.1) = kvs.map (·.1) := by
  induction r with
  | nil => rfl
  | cons r t ih => rw [List.map_cons, List.map_cons, ih, r.1]
theorem KvRel.mem {kvs : List (NestedKey × Addr × V)} {xs : List (NestedKey × Addr × Value)} (r : KvRel kvs xs) : ∀ y ∈ xs, ∃ x ∈ kvs, x.1 = y.1 ∧ x.2.1 = y.2.1 := by
  induction r with
  | nil => intro y hy; cases hy
  | cons r t ih =>
    intro y hy
    rcases List.mem_cons.mp hy with rfl | hy
    · exact ⟨_, List.mem_cons_self .., r.1, r.2.1⟩
    · obtain ⟨x, hx, e⟩ := ih y hy
      exact ⟨x, List.mem_cons_of_mem _ hx, e⟩
theorem ndv_dict {X : Cx} {pins : List (Addr × Obj)} {σ : L2.St} {H : Hp} {s : Shared} {a : Addr} {kvs : List (NestedKey × Addr × V)} (I : Inv X pins σ H s) (e : H a = some (ndvO X.prog X.w a kvs)) (hk : keysOkV X.K H kvs) :
    ∃ xs, KvRel kvs xs ∧ s.heap.DictOfH (nestedKind X.prog X.w) a xs ∧ (a == sysModules) = false ∧ kvs.length ≤ sizeLine := by
  obtain ⟨o, es, ep, xs, h1, h2, h3, h4, r, h5, h6, h7⟩ := ndvO_at I.hok e
  refine ⟨xs, r, ⟨o, es, ep, h1, h2, h3, h4, fun y hy => ?_, by rw [KvRel.keys r]; exact h6⟩, h5, h7⟩
  obtain ⟨x, hx, e1, e2⟩ := KvRel.mem r y hy
  obtain ⟨k1, k2⟩ := hk x hx
  rw [← e1, ← e2]
  exact ⟨NKv.is I k1 rfl, k2⟩
def keyIn (k : NestedKey) (kvs : List (NestedKey × Addr × V)) : Bool := decide (k ∈ kvs.map (·.1))
theorem atKey_none {xs : List (NestedKey × Addr × Value)} {k : NestedKey} (h : k ∉ xs.map (·.1)) : atKey xs k = none := by
  unfold atKey
  rw [Option.map_eq_none_iff, List.find?_eq_none]
  intro x hx
  simp only [decide_eq_true_eq]
  exact fun e => h (e ▸ List.mem_map_of_mem hx)
theorem atKey_isSome {xs : List (NestedKey × Addr × Value)} {k : NestedKey} : (atKey xs k).isSome = decide (k ∈ xs.map (·.1)) := by
  by_cases h : k ∈ xs.map (·.1)
  · rw [decide_eq_true h]
    cases e : atKey xs k with
    | some p => rfl
    | none =>
      unfold atKey at e
      rw [Option.map_eq_none_iff, List.find?_eq_none] at e
      obtain ⟨x, hx, rfl⟩ := List.mem_map.mp h
      exact absurd (decide_eq_true rfl) (e x hx)
  · rw [decide_eq_false h, atKey_none h]; rfl
/-- the first pair with the key -/
def kvAt (kvs : List (NestedKey × Addr × V)) (k : NestedKey) : Option (Addr × V) := (kvs.find? fun x => decide (x.1 = k)).map (·.2)
theorem KvRel.at_ {kvs : List (NestedKey × Addr × V)} {xs : List (NestedKey × Addr × Value)} {k : NestedKey} (r : KvRel kvs xs) : ∀ {p : Addr × Value}, atKey xs k = some p → ∃ v, kvAt kvs k = some (p.1, v) ∧ RelV v p.2 := by
  induction r with
  | nil => intro p h; cases h
  | @cons x y kvs xs r t ih =>
    intro p h
    unfold atKey at h
    unfold kvAt
    rw [List.find?_cons] at h ⊢
    rw [r.1]
    by_cases e : y.1 = k
    · rw [decide_eq_true e] at h ⊢
      cases h
      refine ⟨x.2.2, ?_, r.2.2⟩
      show some x.2 = some (y.2.1, x.2.2)
      rw [← r.2.1]
    · rw [decide_eq_false e] at h ⊢
      exact ih h
theorem kvAt_none {kvs : List (NestedKey × Addr × V)} {k : NestedKey} (h : kvAt kvs k = none) : k ∉ kvs.map (·.1) := by
  intro z
  unfold kvAt at h
  rw [Option.map_eq_none_iff, List.find?_eq_none] at h
  obtain ⟨x, hx, rfl⟩ := List.mem_map.mp z
  exact absurd (decide_eq_true rfl) (h x hx)
/-- k with the value v: at its place, or behind -/
def putKV (kvs : List (NestedKey × Addr × V)) (k : NestedKey) (q : Addr) (v : V) : List (NestedKey × Addr × V) := if keyIn k kvs = true then kvs.map (fun x => if x.1 = k then (x.1, x.2.1, v) else x) else kvs ++ [(k, q, v)]
theorem KvRel.put {kvs : List (NestedKey × Addr × V)} {xs : List (NestedKey × Addr × Value)} {k : NestedKey} {q : Addr} {v : V} {u : Value} (r : KvRel kvs xs) (rv : RelV v u) : KvRel (putKV kvs k q v) (storedH xs k q u) := by
  unfold putKV storedH
  rw [atKey_isSome, KvRel.keys r, show decide (k ∈ kvs.map (·.1)) = keyIn k kvs from rfl]
  cases keyIn k kvs with
  | false =>
    rw [if_neg (by decide), if_neg (by decide)]
    exact r.snoc ⟨rfl, rfl, rv⟩
  | true =>
    rw [if_pos rfl, if_pos rfl]
    induction r with
    | nil => exact .nil
    | @cons x y kvs xs h t ih =>
      refine .cons ?_ ih
      unfold putAt
      by_cases e : y.1 = k
      · have e2 : x.1 = k := h.1.trans e
        simp only [if_pos e, if_pos e2]; exact ⟨h.1, h.2.1, rv⟩
      · have e2 : ¬ x.1 = k := fun z => e (h.1.symm.trans z)
        simp only [if_neg e, if_neg e2]; exact h
theorem putKV_keys (kvs : List (NestedKey × Addr × V)) (k : NestedKey) (q : Addr) (v : V) : (putKV kvs k q v).map (·.1) = if keyIn k kvs = true then kvs.map (·.1) else kvs.map (·.1) ++ [k] := by
  unfold putKV
  cases keyIn k kvs with
  | false => simp
  | true =>
    simp only [if_true, List.map_map]
    congr 1
    funext x
    simp only [Function.comp]
    split <;> rfl
def rInV2 (P : Program) (w : World) (K : PySem.W.Frag) (neg : Bool) : R2 := fun x y H Q => ∃ p kvs k q, y = .ref p ∧ x = .ref q ∧ H p = some (ndvO P w p kvs) ∧ keysOkV K H kvs ∧ NKv K H k (.ref q) ∧ k.depth ≤ 8 ∧ Q (.bl (if neg = true then !keyIn k kvs else keyIn k kvs)) H
def rSetNDV (P : Program) (w : World) (K : PySem.W.Frag) : TSet := fun o i v H Q => ∃ p kvs k q, o = .ref p ∧ i = .ref q ∧ H p = some (ndvO P w p kvs) ∧ keysOkV K H kvs ∧ NKv K H k (.ref q) ∧ k.depth ≤ 8 ∧ kvs.length < sizeLine ∧ Q (upd H p (ndvO P w p (putKV kvs k q v)))
def tDNewNDV (P : Program) (w : World) : TE := fun _ H Q => ∀ p, H p = none → Q (.ref p) (upd H p (ndvO P w p []))
section
variable {X : Cx}
theorem op_inNDV (hr : X.A.units + 64 < cLine) : OpR X (compareOp .In) (rInV2 X.prog X.w X.K false) := by
  intro pins s σ H x y v u Q I rx ry h
  obtain ⟨p, kvs, kk, q, rfl, rfl, e, hk, nk, dk, hq⟩ := h
  cases rx; cases ry
  obtain ⟨xs, r, D, h1, h2⟩ := ndv_dict I e hk
  refine wpAny_in_heap (knd := nestedKind X.prog X.w) (show X.A.in1.units + 8 < cLine from by show X.A.units + 1 + 8 < cLine; omega) ⟨NKv.is I nk rfl, dk⟩ h1 D ?_
  rw [atKey_isSome, KvRel.keys r]
  exact fin_bl (I.tok _) hq rfl
theorem op_niNDV (hr : X.A.units + 64 < cLine) : OpR X (compareOp .NotIn) (rInV2 X.prog X.w X.K true) := by
  intro pins s σ H x y v u Q I rx ry h
  obtain ⟨p, kvs, kk, q, rfl, rfl, e, hk, nk, dk, hq⟩ := h
  cases rx; cases ry
  obtain ⟨xs, r, D, h1, h2⟩ := ndv_dict I e hk
  refine wpAny_notIn_heap (knd := nestedKind X.prog X.w) (show X.A.in1.units + 8 < cLine from by show X.A.units + 1 + 8 < cLine; omega) ⟨NKv.is I nk rfl, dk⟩ h1 D ?_
  rw [atKey_isSome, KvRel.keys r]
  exact fin_bl (I.tok _) hq rfl
theorem ndv_put {pins : List (Addr × Obj)} {σ : L2.St} {H : Hp} {s : Shared} {h' : Heap} {t' : Nat} {p q : Addr} {kvs : List (NestedKey × Addr × V)} {xs : List (NestedKey × Addr × Value)} {kk : NestedKey} {v : V} {u : Value} (I : Inv X pins σ H s) (e : H p = some (ndvO X.prog X.w p kvs)) (r : KvRel kvs xs) (rv : RelV v u) (h1 : (p == sysModules) = false) (hl : kvs.length < sizeLine) (dd : h'.DictOfH (nestedKind X.prog X.w) p (storedH xs kk q u)) (hs : Heap.SameBut p s.heap h') :
    Inv X pins σ (upd H p (ndvO X.prog X.w p (putKV kvs kk q v))) { s with heap := h', toks := t' } := by
  obtain ⟨o, es, ep, d1, d2, d3, d4, _, d6⟩ := dd
  have r2 := KvRel.put (k := kk) (q := q) r rv
  refine d_write I (by rw [e]; exact True.intro) hs ⟨o, d1⟩ (ndvO_ok ⟨o, es, ep, _, d1, d2, d3, d4, r2, h1, ?_, ?_⟩)
  · rw [← KvRel.keys r2]; exact d6
  · have := congrArg List.length (putKV_keys kvs kk q v)
    rw [List.length_map] at this
    rw [this]
    split
    · rw [List.length_map]; exact Nat.le_of_lt hl
    · rw [List.length_append, List.length_map]; exact hl
theorem set_ndv (hr : X.A.units + 64 < cLine) : PSet X (rSetNDV X.prog X.w X.K) := by
  intro pins s σ H o i v ov iv u Q I ro ri rv h
  obtain ⟨p, kvs, kk, q, rfl, rfl, e, hk, nk, dk, hl, hq⟩ := h
  cases ro; cases ri
  obtain ⟨xs, r, D, h1, h2⟩ := ndv_dict I e hk
  refine wpAny_setItem_heap (knd := nestedKind X.prog X.w) (hsz := by rw [← pLen r]; exact h2) (show X.A.in1.units + 8 < cLine from by show X.A.units + 1 + 8 < cLine; omega) ⟨NKv.is I nk rfl, dk⟩ D fun h' dd hs => ⟨_, ndv_put I e r rv h1 hl dd hs, hq⟩
theorem pe_dnewNDV {pos : Pos} : PE X (.Dict [] [] pos) (tDNewNDV X.prog X.w) := ⟨fun pins s σ H Q I h =>
  wpAny_Dict_empty ⟨.ref s.heap.objs.size, _, I.laid (a := s.heap.objs.size) (o := ndvO X.prog X.w s.heap.objs.size []) (t' := s.toks) (fun _ _ q => Heap.get?_push_of_some _ q) (Nat.le_refl _)
    (ndvO_ok ⟨_, #[], 0, [], Heap.get?_push_size _ rfl, ⟨rfl, rfl, rfl⟩, rfl, rfl, .nil, beq_eq_false_iff_ne.mpr (Ne.symm (Nat.ne_of_lt I.big)), List.nodup_nil, Nat.zero_le _⟩), rfl, h _ (I.hok.fresh (Nat.le_refl _))⟩⟩
/-- d[k] -/
def rGetNDV (P : Program) (w : World) (K : PySem.W.Frag) : R2 := fun x y H Q => ∃ p kvs k q b v, x = .ref p ∧ y = .ref q ∧ H p = some (ndvO P w p kvs) ∧ keysOkV K H kvs ∧ NKv K H k (.ref q) ∧ k.depth ≤ 8 ∧ kvAt kvs k = some (b, v) ∧ Q v H
theorem pe_getNDV {o i : Expr} {td ty : TE} {pos : Pos} (hr : X.A.units + 64 < cLine) (ho : PE X o td) (hi : PE X i ty) (hs : NoSl i) : PE X (.Subscript o i pos) (tOp (rGetNDV X.prog X.w X.K) td ty) := by
  refine ⟨fun pins s σ H Q I h => ?_⟩
  refine subD_of PySem.F.slot_dict_getitem.lookup hs (thn (ho.run pins s σ H _ I h) fun u s1 ⟨x, H1, I1, rx, q1⟩ => thn (hi.run pins s1 σ H1 _ I1 q1) fun u2 s2 ⟨y, H2, I2, ry, q2⟩ => ?_)
  obtain ⟨p, kvs, kk, q, b, vv, rfl, rfl, e, hk, nk, dk, hv, hq⟩ := q2
  cases rx; cases ry
  obtain ⟨xs, r, D, h1, h2⟩ := ndv_dict I2 e hk
  refine ⟨D.typeIs, ?_⟩
  cases ha : atKey xs kk with
  | none =>
    have z := atKey_isSome (xs := xs) (k := kk)
    rw [ha, KvRel.keys r] at z
    have hn : kk ∉ kvs.map (·.1) := of_decide_eq_false z.symm
    exfalso
    unfold kvAt at hv
    cases hf : kvs.find? fun x => decide (x.1 = kk) with
    | none => rw [hf] at hv; cases hv
    | some x =>
      have hf2 : decide (x.1 = kk) = true := List.find?_some (p := fun x : NestedKey × Addr × V => decide (x.1 = kk)) hf
      exact hn (of_decide_eq_true hf2 ▸ List.mem_map_of_mem (List.mem_of_find?_eq_some hf))
  | some pr =>
    obtain ⟨v2, e2, rv⟩ := KvRel.at_ r ha
    rw [hv] at e2
    cases e2
    exact wpAny_getItem_heap (knd := nestedKind X.prog X.w) (show X.A.in1.units + 8 < cLine from by show X.A.units + 1 + 8 < cLine; omega) ⟨NKv.is I2 nk rfl, dk⟩ D ha ⟨_, H2, I2.tok _, rv, hq⟩
/-- d.setdefault(k, v) -/
def rSetdefNDV (P : Program) (w : World) (K : PySem.W.Frag) : V → List V → Hp → VK → Prop := fun x xs H Q => ∃ p kvs k q v, x = .ref p ∧ xs = [.ref q, v] ∧ H p = some (ndvO P w p kvs) ∧ keysOkV K H kvs ∧ NKv K H k (.ref q) ∧ k.depth ≤ 8 ∧ kvs.length < sizeLine ∧
  (∀ b u, kvAt kvs k = some (b, u) → Q u H) ∧ (kvAt kvs k = none → Q v (upd H p (ndvO P w p (kvs ++ [(k, q, v)]))))
theorem mt_setdefNDV (hr : X.A.units + 64 < cLine) : MtR X "dict.setdefault" (rSetdefNDV X.prog X.w X.K) := by
  intro pins s σ H x xs v us Q I rx rxs h
  obtain ⟨p, kvs, kk, q, vd, rfl, rfl, e, hk, nk, dk, hl, hq1, hq2⟩ := h
  cases rx
  obtain ⟨u1, u2, rfl, r1, r2⟩ := Vals.two rxs
  cases r1
  obtain ⟨ys, r, D, h1, h2⟩ := ndv_dict I e hk
  refine call_setdefault_heap (knd := nestedKind X.prog X.w) (hsz := by rw [← pLen r]; exact h2) (show X.A.in1.units + 8 < cLine from by show X.A.units + 1 + 8 < cLine; omega) ⟨NKv.is I nk rfl, dk⟩ h1 D (fun pr ha => ?_) fun ha h' dd hs => ?_
  · obtain ⟨v2, e2, rv⟩ := KvRel.at_ r ha
    exact ⟨v2, H, I.tok _, rv, hq1 _ _ e2⟩
  · have z := atKey_isSome (xs := ys) (k := kk)
    rw [ha, KvRel.keys r] at z
    have hn : kk ∉ kvs.map (·.1) := of_decide_eq_false z.symm
    have hn2 : kvAt kvs kk = none := by
      cases hf : kvAt kvs kk with
      | none => rfl
      | some pr =>
        unfold kvAt at hf
        cases hg : kvs.find? fun x => decide (x.1 = kk) with
        | none => rw [hg] at hf; cases hf
        | some x =>
          have e1 : x.1 = kk := of_decide_eq_true (List.find?_some (p := fun x : NestedKey × Addr × V => decide (x.1 = kk)) hg)
          exact absurd (e1 ▸ List.mem_map_of_mem (List.mem_of_find?_eq_some hg)) hn
    have ep : putKV kvs kk q vd = kvs ++ [(kk, q, vd)] := by
      unfold putKV
      rw [show keyIn kk kvs = false from z.symm, if_neg (by decide)]
    have J := ndv_put (v := vd) (t' := s.toks + (nestedKind X.prog X.w).draws kk) I e r r2 h1 hl dd hs
    rw [ep] at J
    exact ⟨vd, _, J, r2, hq2 hn2⟩
end

/-! ## methods of such dicts -/
def tyN (P : Program) (w : World) (K : PySem.W.Frag) (T : String) (x : V) (H : Hp) : Prop := tyV K T x H ∨ (T = "dict" ∧ ∃ p kvs, x = .ref p ∧ H p = some (ndvO P w p kvs))
def tBMN (P : Program) (w : World) (K : PySem.W.Frag) (T : String) (r : V → List V → Hp → VK → Prop) (to : TE) (t : TA) : TE := fun σ H Q => to σ H fun x H1 => tyN P w K T x H1 ∧ t σ H1 fun xs H2 => r x xs H2 Q
def tBMN0 (P : Program) (w : World) (K : PySem.W.Frag) (T : String) (r : V → List V → Hp → VK → Prop) (to : TE) : TE := fun σ H Q => to σ H fun x H1 => tyN P w K T x H1 ∧ r x [] H1 Q
theorem tyN_is {X : Cx} {pins : List (Addr × Obj)} {σ : L2.St} {H : Hp} {s : Shared} {T : String} {x : V} {v : Value} (I : Inv X pins σ H s) (r : RelV x v) (ty : tyN X.prog X.w X.K T x H) :
    s.TypeIs v T ∧ ∀ a, v = .ref a → ∃ ob, s.heap.get? a = some ob ∧ ob.dict = none := by
  rcases ty with ty | ⟨rfl, p, kvs, rfl, e⟩
  · exact tyV_is I r ty
  · cases r
    obtain ⟨o, es, ep, xs, h1, h2, _⟩ := ndvO_at I.hok e
    refine ⟨⟨o, h1, h2.1⟩, fun a e2 => ?_⟩
    cases e2
    exact ⟨o, h1, h2.2.1⟩
section
variable {X : Cx} {o e : Expr} {es : List Expr} {to : TE} {t : TA} {name : Str} {apos cpos : Pos} {T id : String} {r : V → List V → Hp → VK → Prop}
theorem pe_bmN0 (pa : PlainAttrs T) (slot : Slot T name id) (hty : typeOf (.builtin id) = pure (.type "method_descriptor")) (hm : MtR X id r) (ho : PE X o to)
    (hbase : attributeBase o name X.env (eval o X.env) = eval o X.env := by rfl) (hline : (apos.endLine == cpos.line) = true := by rfl) : PE X (.Call (.Attribute o name apos) [] [] cpos) (tBMN0 X.prog X.w X.K T r to) := by
  refine ⟨fun pins s σ H Q I h => ?_⟩
  refine wpAny_Call_method0_late hbase hline (thn (ho.run pins s σ H _ I h) fun v s1 ⟨x, H1, I1, r1, ty, q1⟩ => ?_)
  obtain ⟨h1, h2⟩ := tyN_is I1 r1 ty
  exact ⟨T, id, pa, slot, hty, h1, h2, Calls.callWith_builtin rfl (PySem.evalArgs_none (hm pins s1 σ H1 x [] v [] Q I1 r1 .nil q1))⟩
theorem pe_bmN (pa : PlainAttrs T) (slot : Slot T name id) (hty : typeOf (.builtin id) = pure (.type "method_descriptor")) (hm : MtR X id r) (ho : PE X o to) (ha : PA X (e :: es) t)
    (hbase : attributeBase o name X.env (eval o X.env) = eval o X.env := by rfl)
    (hfew : ((backTo cpos (starEach (e :: es) X.env)).all (fun x => !x.1) && (backToKw cpos (keywordEach [] X.env)).all (fun x => x.1.isSome)
      && decide ((e :: es).length + ([] : List Keyword).length + (if ([] : List Keyword).isEmpty then 0 else 1) < 30)) = true := by rfl)
    (hline : (apos.endLine == cpos.line) = true := by rfl) (hs : starEach (e :: es) X.env = (false, eval e X.env) :: starEach es X.env := by rfl) (hplain : (backTo cpos (starEach es X.env)).any (·.1) = false := by rfl) :
    PE X (.Call (.Attribute o name apos) (e :: es) [] cpos) (tBMN X.prog X.w X.K T r to t) := by
  refine ⟨fun pins s σ H Q I h => ?_⟩
  refine wpAny_Call_method_late hbase hfew hline rfl (thn (ho.run pins s σ H _ I h) fun v s1 ⟨x, H1, I1, r1, ty, q1⟩ => ?_)
  obtain ⟨h1, h2⟩ := tyN_is I1 r1 ty
  refine ⟨T, id, pa, slot, hty, h1, h2, ?_⟩
  have hA := ha.run cpos pins s1 σ H1 _ I1 q1
  rw [hs] at hA ⊢
  refine Calls.callWith_builtin (by show (false || (backTo cpos (starEach es X.env)).any (·.1)) = false; rw [hplain] <;> rfl) (Calls.evalArgs_plain ?_)
  exact thn hA fun us s2 ⟨vs, H2, I2, r2, q2⟩ => hm pins s2 σ H2 x vs v us Q I2 r1 r2 q2
/-- d.items() -/
def rItemsNDV (P : Program) (w : World) : V → List V → Hp → VK → Prop := fun x xs H Q => ∃ (a : Addr) (kvs : List (NestedKey × Addr × V)), x = .ref a ∧ xs = [] ∧ H a = some (ndvO P w a kvs) ∧ ∀ p, H p = none → Q (.ref p) (upd H p (DX.itemsO p a))
theorem mt_itemsNDV : MtR X "dict.items" (rItemsNDV X.prog X.w) := by
  intro pins s σ H x xs v us Q I rx rxs h
  obtain ⟨a, kvs, rfl, rfl, ha, q⟩ := h
  cases rx
  cases rxs
  obtain ⟨o, es, ep, ys, ho, hx, hdat, _, _, hd, _⟩ := ndvO_at I.hok ha
  refine DT.callItems (es := es) (ep := ep) hd ⟨o, ho, hx, hdat⟩ ?_
  have hf : H s.heap.objs.size = none := I.hok.fresh (Nat.le_refl _)
  exact ⟨.ref s.heap.objs.size, upd H s.heap.objs.size (DX.itemsO s.heap.objs.size a), I.laid (t' := s.toks) (fun b u e => Heap.get?_push_of_some _ e) (Nat.le_refl _) (DX.itemsO_ok (Heap.get?_push_size _ rfl)), rfl, q _ hf⟩
/-- sorted(d.items()): the pairs, by their data -/
def rSortItNDV (P : Program) (w : World) (K : PySem.W.Frag) : List V → Hp → VK → Prop := fun vs H Q => ∃ (p a : Addr) (kvs : List (NestedKey × Addr × V)) (β : Type) (enc : β → PyData) (bs : List β) (rel : NestedKey × Addr × V → β → Prop), vs = [.ref p] ∧ H p = some (DX.itemsO p a) ∧ H a = some (ndvO P w a kvs) ∧ Paired rel kvs bs ∧
  (∀ x b, rel x b → ∃ d1 d2, enc b = .tuple [d1, d2] ∧ Dp K H (.ref x.2.1) d1 ∧ Dp K H x.2.2 d2) ∧ (∀ b b', PySem.W.alike (enc b) (enc b') = true) ∧ (∀ b ∈ bs, (enc b).depth ≤ 16) ∧
  ∀ (H' : Hp) (l : Addr) (ps : List (Addr × (NestedKey × Addr × V))), Same H H' → H l = none → Paired (fun z b => rel z.2 b) ps (bs.mergeSort (PySem.W.dataLe false enc)) → H' l = some (.lst (ps.map fun z => V.ref z.1)) →
    (∀ z ∈ ps, H z.1 = none ∧ H' z.1 = some (.tup [.ref z.2.2.1, z.2.2.2])) → Q (.ref l) H'
end
mutual
theorem reads_lt {h : Heap} : ∀ {d : PyData} {v : Value} {as : List Addr}, Reads h v d as → ∀ x ∈ as, x < h.objs.size
  | _, _, _, .none, _, hx => nomatch hx
  | _, _, _, .bool _, _, hx => nomatch hx
  | _, _, _, .int _ _, _, hx => nomatch hx
  | _, _, _, .str _ _, _, hx => nomatch hx
  | _, _, _, .list h1 _ _ h4, x, hx => by
    rcases List.mem_cons.mp hx with rfl | hx
    · exact Heap.lt_size h1
    · exact readsAll_lt h4 x hx
  | _, _, _, .tuple _ _ _ h4, x, hx => readsAll_lt h4 x hx
  | _, _, _, .dict h1 _ _ h4 h5, x, hx => by
    rcases List.mem_append.mp hx with hx | hx
    · rcases List.mem_cons.mp hx with rfl | hx
      · exact Heap.lt_size h1
      · exact readsAll_lt h4 x hx
    · exact readsAll_lt h5 x hx
theorem readsAll_lt {h : Heap} : ∀ {ds : List PyData} {vs : List Value} {as : List Addr}, ReadsAll h vs ds as → ∀ x ∈ as, x < h.objs.size
  | _, _, _, .nil, _, hx => nomatch hx
  | _, _, _, .cons h1 h2, x, hx => by
    rcases List.mem_append.mp hx with hx | hx
    · exact reads_lt h1 x hx
    · exact readsAll_lt h2 x hx
end
theorem each_idx {α β : Type} {R : α → β → Prop} : ∀ {as : List α} {bs : List β}, as.length = bs.length → (∀ (j : Nat) a b, as[j]? = some a → bs[j]? = some b → R a b) → PySem.W.EachIs R as bs
  | [], [], _, _ => .nil
  | [], _ :: _, h, _ => by cases h
  | _ :: _, [], h, _ => by cases h
  | a :: as, b :: bs, h, k => .cons (k 0 a b rfl rfl) (each_idx (by simpa using h) fun j x y hx hy => k (j + 1) x y (by simpa using hx) (by simpa using hy))
theorem each_ps {β : Type} {rel : NestedKey × Addr × V → β → Prop} {as : List Addr} {kvs : List (NestedKey × Addr × V)} {h' : Heap} : ∀ {out : List Value} {bs : List β},
    PySem.W.EachIs (fun v b => ∃ (j : Nat) (c : Addr) (x : NestedKey × Addr × V) (u : Value), v = Value.ref c ∧ as[j]? = some c ∧ kvs[j]? = some x ∧ RelV x.2.2 u ∧ rel x b ∧ h'.get? c = some { cls := .type "tuple", data := .seq #[Value.ref x.2.1, u] }) out bs →
    ∃ ps : List (Addr × (NestedKey × Addr × V)), out = ps.map (fun z => Value.ref z.1) ∧ Paired (fun z b => rel z.2 b) ps bs ∧ ∀ z ∈ ps, ∃ j : Nat, as[j]? = some z.1 ∧ kvs[j]? = some z.2
  | _, _, .nil => ⟨[], rfl, .nil, fun _ h => nomatch h⟩
  | _, _, .cons ⟨j, c, x, u, e1, e2, e3, e4, e5, e6⟩ t => by
    obtain ⟨ps, h1, h2, h3⟩ := each_ps t
    refine ⟨(c, x) :: ps, by rw [List.map_cons, ← h1, e1], .cons e5 h2, fun z hz => ?_⟩
    rcases List.mem_cons.mp hz with rfl | hz
    · exact ⟨j, e2, e3⟩
    · exact h3 z hz
theorem cr_sortItNDV {X : Cx} (hc : X.calm = true) (hu : X.A.units + 64 < cLine) : CallR X (.builtin "sorted") (rSortItNDV X.prog X.w X.K) := by
  intro pins s σ H xs us Q I r h
  obtain ⟨p, a, kvs, β, enc, bs, rel, rfl, hp, ha, hrel, hdp, hal, hdep, q⟩ := h
  obtain rfl := Vals.ref1 r
  have view : s.heap.IsItemsView p a := (show ObjOk X.prog X.w H s.heap p (DX.itemsO p a) from I.hok p _ hp).1
  obtain ⟨o, es, ep, xs', ho, hx, hdat, hes, hkr, hd, hn, hz⟩ := ndvO_at I.hok ha
  have l1 : kvs.length = xs'.length := Paired.length hkr
  have l2 : es.size = xs'.length := size_of_entries hes
  have hh : X.A.handled = none := I.ok.hd hc
  refine DT.sortedI (es := es) (ep := ep) hh view ⟨o, ho, hx, hdat⟩ (by omega) fun h' tk as hk hlt hl hG => ?_
  have lak : as.length = kvs.length := by omega
  have nd : as.Nodup := List.Pairwise.imp (fun h => Nat.ne_of_lt h) hG.rise
  -- the pairs that were made
  have pr : ∀ (j : Nat) (b : Addr), as[j]? = some b → ∃ (x : NestedKey × Addr × V) (u : Value), kvs[j]? = some x ∧ RelV x.2.2 u ∧ h'.get? b = some { cls := .type "tuple", data := .seq #[Value.ref x.2.1, u] } := by
    intro j b hj
    obtain ⟨en, he, hg⟩ := hG.pairs j b hj
    rw [entry_at hes j] at he
    cases hxj : xs'[j]? with
    | none =>
      rw [hxj] at he
      exact nomatch (show (none : Option DictEntry) = some en from he)
    | some y =>
      rw [hxj] at he
      have een : entryOfKey (nestedKind X.prog X.w) y = en := Option.some.inj he
      obtain ⟨x, hx1, r1, r2, r3⟩ := DX.pget hkr hxj
      refine ⟨x, y.2.2, hx1, r3, ?_⟩
      rw [hg, ← een, r2]
      all_goals rfl
  have hob : (h'.push { cls := .type "list", data := .seq (as.map Value.ref).toArray }).get? h'.objs.size = some (seqObj "list" (as.map Value.ref).toArray 0) := Heap.get?_push_size _ rfl
  have kb : ∀ b o, s.heap.get? b = some o → (h'.push { cls := .type "list", data := .seq (as.map Value.ref).toArray }).get? b = some o := fun b o e => Heap.get?_push_of_some _ (hk b o e)
  have ne0 : ∀ b o, h'.get? b = some o → b ≠ h'.objs.size := fun b o e => Nat.ne_of_lt (Heap.lt_size e)
  generalize hh2 : h'.push { cls := .type "list", data := .seq (as.map Value.ref).toArray } = h2 at hob kb ⊢
  have ka : ∀ b o, h'.get? b = some o → h2.get? b = some o := fun b o e => by rw [← hh2]; exact Heap.get?_push_of_some _ e
  have lb : bs.length = kvs.length := (pLen hrel).symm
  have E : PySem.W.EachIs (fun v b => ∃ (j : Nat) (c : Addr) (x : NestedKey × Addr × V) (u : Value), v = Value.ref c ∧ as[j]? = some c ∧ kvs[j]? = some x ∧ RelV x.2.2 u ∧ rel x b ∧ h'.get? c = some { cls := .type "tuple", data := .seq #[Value.ref x.2.1, u] }) (as.map Value.ref) bs := by
    refine each_idx (by rw [List.length_map]; omega) fun j v b hv hb => ?_
    rw [List.getElem?_map] at hv
    cases hc' : as[j]? with
    | none => rw [hc'] at hv; cases hv
    | some c =>
      rw [hc'] at hv
      cases hv
      obtain ⟨x, u, hx1, r3, hg⟩ := pr j c hc'
      obtain ⟨x2, hx2, hr2⟩ := DX.pget hrel hb
      rw [hx1] at hx2
      cases hx2
      exact ⟨j, c, x, u, rfl, hc', hx1, r3, hr2, hg⟩
  refine PySem.W.list_sort_data (s := { s with heap := h2, toks := tk }) (vs := as.map Value.ref) (enc := enc) hob E (E.mono fun v b ⟨j, c, x, u, ev, h1, h3, r3, hr, hg⟩ => ?_) (PySem.W.AllAlike.of hal) (.inl ?_) (by omega) (fun b hb => by have := hdep b hb; show X.A.units + 1 + 1 + _ < cLine; omega) fun out ho eo => ?_
  · intro d hd
    obtain ⟨b, hb, rfl⟩ := List.mem_map.mp hd
    obtain ⟨j, hj⟩ := List.mem_iff_getElem?.mp hb
    obtain ⟨x, _, hr⟩ := DX.pget hrel hj
    obtain ⟨d1, d2, e1, _⟩ := hdp x b hr
    exact ⟨d1, [d2], e1⟩
  · show EP X pins σ Q (.ref h'.objs.size) { s with heap := sortedHeap h2 h'.objs.size (as.map Value.ref) (List.toArray out), toks := tk }
    obtain ⟨ps, hout, hps, hin⟩ := each_ps eo
    have kF : ∀ b o, b ≠ h'.objs.size → h2.get? b = some o → (sortedHeap h2 h'.objs.size (as.map Value.ref) (List.toArray out)).get? b = some o := fun b o hb e => (PyProof.Rows.sortedHeap_old hb (Heap.lt_size e)).trans e
    have kS : ∀ b o, s.heap.get? b = some o → (sortedHeap h2 h'.objs.size (as.map Value.ref) (List.toArray out)).get? b = some o := fun b o e => kF b o (ne0 _ _ (hk b o e)) (kb b o e)
    obtain ⟨eF, heF⟩ := PyProof.Rows.sortedHeap_at (vs := as.map Value.ref) (out := List.toArray out) hob
    have I1 : Inv X pins σ H { s with heap := sortedHeap h2 h'.objs.size (as.map Value.ref) (List.toArray out), toks := tk } := I.kept (t' := tk) kS
    have hn0 : H h'.objs.size = none := I.hok.fresh (Nat.le_of_lt hlt)
    have hlen : (ps.map fun z => V.ref z.1).length ≤ sizeLine := by
      have e := pLen hps
      rw [List.length_mergeSort] at e
      rw [List.length_map]
      omega
    have rv : Vals (ps.map fun z => V.ref z.1) out := by
      rw [hout]
      exact vals_maps (fun z : Addr × (NestedKey × Addr × V) => V.ref z.1) (fun z => Value.ref z.1) ps fun _ _ => rfl
    have I2 : Inv X pins σ (upd H h'.objs.size (.lst (ps.map fun z => V.ref z.1))) { s with heap := sortedHeap h2 h'.objs.size (as.map Value.ref) (List.toArray out), toks := tk } :=
      I1.take (h' := sortedHeap h2 h'.objs.size (as.map Value.ref) (List.toArray out)) (t' := tk) (fun b ob _ e => e) (I.fpOk (Nat.le_of_lt hlt) hn0) ⟨hlen, out, eF, rv, heF⟩
    obtain ⟨H2, I3, g, qt⟩ := DX.takeT (P := fun b vs => ∃ (j : Nat) (x : NestedKey × Addr × V), as[j]? = some b ∧ kvs[j]? = some x ∧ vs = [.ref x.2.1, x.2.2]) I as _ I2 nd fun b hb => by
      obtain ⟨j, hj⟩ := List.mem_iff_getElem?.mp hb
      obtain ⟨x, u, hx1, r3, hg⟩ := pr j b hj
      have hbl : s.heap.objs.size ≤ b := Nat.le_of_lt (hG.above b hb)
      refine ⟨hbl, ?_, [.ref x.2.1, x.2.2], ⟨j, x, hj, hx1, rfl⟩, fun H3 => ⟨(by rw [sizeLine_eq]; show 2 ≤ 16777216; omega), [Value.ref x.2.1, u], .cons rfl (.cons r3 .nil), ⟨_, kF _ _ (ne0 _ _ hg) (ka _ _ hg), rfl, 0, rfl⟩⟩⟩
      rw [upd_ne (ne0 _ _ hg)]
      exact I.hok.fresh hbl
    have gr : Same H H2 := fun b o e => g b o (by rw [upd_ne (ne_of_none e hn0)]; exact e)
    refine ⟨.ref h'.objs.size, H2, I3, rfl, q H2 h'.objs.size ps gr hn0 hps (g _ _ upd_same) fun z hz' => ?_⟩
    obtain ⟨i, i1, i2⟩ := hin z hz'
    have mz : z.1 ∈ as := List.mem_of_getElem? i1
    obtain ⟨vs, ⟨j, x, j1, j2, ev⟩, hH⟩ := qt z.1 mz
    have eij : i = j := (List.getElem?_inj (List.getElem?_eq_some_iff.mp i1).1 nd).mp (i1.trans j1.symm)
    subst eij
    rw [i2] at j2
    cases j2
    rw [ev] at hH
    exact ⟨I.hok.fresh (Nat.le_of_lt (hG.above _ mz)), hH⟩
  · subst ev
    obtain ⟨d1, d2, e1, p1, p2⟩ := hdp x b hr
    obtain ⟨as1, q1⟩ := Dp.reads I _ _ (Value.ref x.2.1) p1 rfl
    obtain ⟨as2, q2⟩ := Dp.reads I _ _ u p2 r3
    refine ⟨as1 ++ (as2 ++ []), ?_, fun hm => ?_⟩
    · rw [e1]
      exact .tuple (ka _ _ hg) rfl rfl (.cons (PyProof.Rows.Reads.keeps kb q1) (.cons (PyProof.Rows.Reads.keeps kb q2) .nil))
    · rw [List.append_nil] at hm
      rcases List.mem_append.mp hm with hm | hm
      · exact Nat.lt_irrefl _ (Nat.lt_trans hlt (reads_lt q1 _ hm))
      · exact Nat.lt_irrefl _ (Nat.lt_trans hlt (reads_lt q2 _ hm))
end Gl

namespace Gl
open PySem PySem.Spec PyProof.Rows L2

/-! ## dicts with keys of tuples and values, typed -/
def KVRow {α β : Type} {A : R α} (D : Kd A) (B : R β) (K : PySem.W.Frag) (F : Hp) (kvs : List (NestedKey × Addr × V)) (xs : List (α × β)) : Prop := Paired (fun (x : NestedKey × Addr × V) (a : α × β) => x.1 = D.k a.1 ∧ A.r K F (.ref x.2.1) a.1 ∧ B.r K F x.2.2 a.2) kvs xs
section
variable {α β : Type} [DecidableEq α]
def memKV (a : α) (xs : List (α × β)) : Bool := decide (a ∈ xs.map (·.1))
def getKV (a : α) (xs : List (α × β)) : Option β := (xs.find? fun p => decide (p.1 = a)).map (·.2)
def setKV (a : α) (b : β) (xs : List (α × β)) : List (α × β) := if memKV a xs = true then xs.map (fun p => if p.1 = a then (p.1, b) else p) else xs ++ [(a, b)]
def sdefKV (a : α) (b : β) (xs : List (α × β)) : List (α × β) := if memKV a xs = true then xs else xs ++ [(a, b)]
end
section
variable {K : PySem.W.Frag} {P : Addr → Prop} {F0 H0 F H F' : Hp} {v y : V} {Q : VK} {α β : Type} {A : R α} {B : R β} {D : Kd A} {xs : List (α × β)} {a : α} {b : β} {p : Addr} {kvs : List (NestedKey × Addr × V)} {Pg : Program} {w : World} {σ : L2.St}
theorem KVRow.mono (e : Same F F') (h : KVRow D B K F kvs xs) : KVRow D B K F' kvs xs := Paired.mapP h fun _ _ r => ⟨r.1, A.mono e r.2.1, B.mono e r.2.2⟩
theorem KVRow.keys (h : KVRow D B K F kvs xs) : kvs.map (·.1) = (xs.map (·.1)).map D.k := by
  unfold KVRow at h
  induction h with
  | nil => rfl
  | cons r t ih => rw [List.map_cons, List.map_cons, List.map_cons, ih, r.1]
theorem KVRow.ok (h : KVRow D B K F kvs xs) (e : Same F H) : keysOkV K H kvs := by
  unfold KVRow at h
  induction h with
  | nil => intro x hx; cases hx
  | cons r t ih =>
    intro x hx
    rcases List.mem_cons.mp hx with rfl | hx
    · exact ⟨by rw [r.1]; exact NKv.mono e (D.is r.2.1), by rw [r.1]; exact D.dep _⟩
    · exact ih x hx
theorem KVRow.mem [DecidableEq α] (h : KVRow D B K F kvs xs) : keyIn (D.k a) kvs = memKV a xs := by
  unfold keyIn memKV
  rw [h.keys]
  by_cases e : a ∈ xs.map (·.1)
  · rw [decide_eq_true e, decide_eq_true (List.mem_map_of_mem e)]
  · rw [decide_eq_false e, decide_eq_false fun z => by
      obtain ⟨b, hb, hb2⟩ := List.mem_map.mp z
      exact e (D.inj _ _ hb2 ▸ hb)]
theorem KVRow.get [DecidableEq α] (h : KVRow D B K F kvs xs) : ∀ {c : β}, getKV a xs = some c → ∃ q u, kvAt kvs (D.k a) = some (q, u) ∧ B.r K F u c := by
  unfold KVRow at h
  induction h with
  | nil => intro c h; cases h
  | @cons x z kvs xs r t ih =>
    intro c hc
    unfold getKV at hc
    unfold kvAt
    rw [List.find?_cons] at hc ⊢
    by_cases e : z.1 = a
    · rw [decide_eq_true e] at hc
      have e2 : x.1 = D.k a := by rw [r.1, e]
      rw [decide_eq_true e2]
      cases hc
      exact ⟨_, _, rfl, r.2.2⟩
    · rw [decide_eq_false e] at hc
      have e2 : ¬ x.1 = D.k a := fun z' => e (D.inj _ _ (r.1.symm.trans z'))
      rw [decide_eq_false e2]
      exact ih hc
theorem KVRow.put [DecidableEq α] (h : KVRow D B K F kvs xs) {q : Addr} (ra : A.r K F (.ref q) a) (rb : B.r K F y b) : KVRow D B K F (putKV kvs (D.k a) q y) (setKV a b xs) := by
  unfold putKV setKV
  rw [h.mem]
  cases memKV a xs with
  | false =>
    rw [if_neg (by decide), if_neg (by decide)]
    exact h.snoc ⟨rfl, ra, rb⟩
  | true =>
    rw [if_pos rfl, if_pos rfl]
    unfold KVRow at h ⊢
    induction h with
    | nil => exact .nil
    | @cons x z kvs xs r t ih =>
      refine .cons ?_ ih
      by_cases e : z.1 = a
      · have e2 : x.1 = D.k a := by rw [r.1, e]
        simp only [if_pos e, if_pos e2]; exact ⟨r.1, r.2.1, rb⟩
      · have e2 : ¬ x.1 = D.k a := fun z' => e (D.inj _ _ (r.1.symm.trans z'))
        simp only [if_neg e, if_neg e2]; exact r
theorem rd_newNDV (S : Sx P F0 H0 F H) (k : ∀ p H', H p = none → Sx P0 F H F H' → Ow P H0 F H' p (ndvO Pg w p []) → Q (.ref p) H') : tDNewNDV Pg w σ H Q :=
  fun p hp => k p _ hp ((Sx.refl0 S.sub).temp hp) (S.own hp)
theorem rd_inNDV [DecidableEq α] (S : Sx P F0 H0 F H) (o : Ow P H0 F H p (ndvO Pg w p kvs)) (row : KVRow D B K F kvs xs) (r : A.r K F v a) (hq : ∃ q, v = .ref q) (k : Q (.bl (memKV a xs)) H) : rInV2 Pg w K false v (.ref p) H Q := by
  obtain ⟨q, rfl⟩ := hq
  exact ⟨p, kvs, D.k a, q, rfl, rfl, o.at_, row.ok S.sub, NKv.mono S.sub (D.is r), D.dep a, by rw [if_neg (by decide), row.mem]; exact k⟩
theorem rd_niNDV [DecidableEq α] (S : Sx P F0 H0 F H) (o : Ow P H0 F H p (ndvO Pg w p kvs)) (row : KVRow D B K F kvs xs) (r : A.r K F v a) (hq : ∃ q, v = .ref q) (k : Q (.bl (!memKV a xs)) H) : rInV2 Pg w K true v (.ref p) H Q := by
  obtain ⟨q, rfl⟩ := hq
  exact ⟨p, kvs, D.k a, q, rfl, rfl, o.at_, row.ok S.sub, NKv.mono S.sub (D.is r), D.dep a, by rw [if_pos rfl, row.mem]; exact k⟩
theorem rd_getNDV [DecidableEq α] (S : Sx P F0 H0 F H) (o : Ow P H0 F H p (ndvO Pg w p kvs)) (row : KVRow D B K F kvs xs) (r : A.r K F v a) (hq : ∃ q, v = .ref q) (h : getKV a xs = some b) (k : ∀ u, B.r K F u b → Q u H) : rGetNDV Pg w K (.ref p) v H Q := by
  obtain ⟨q, rfl⟩ := hq
  obtain ⟨q2, u, h1, h2⟩ := row.get h
  exact ⟨p, kvs, D.k a, q, q2, u, rfl, rfl, o.at_, row.ok S.sub, NKv.mono S.sub (D.is r), D.dep a, h1, k u h2⟩
theorem rd_setNDV [DecidableEq α] {R : Hp → Prop} (S : Sx P F0 H0 F H) (o : Ow P H0 F H p (ndvO Pg w p kvs)) (row : KVRow D B K F kvs xs) (r : A.r K F v a) (hq : ∃ q, v = .ref q) (rb : B.r K F y b) (hf : fits xs = true)
    (k : ∀ kvs' H', Sx (fun a => a = p) F H F H' → Ow P H0 F H' p (ndvO Pg w p kvs') → KVRow D B K F kvs' (setKV a b xs) → R H') : rSetNDV Pg w K (.ref p) v y H R := by
  obtain ⟨q, rfl⟩ := hq
  exact ⟨p, kvs, D.k a, q, rfl, rfl, o.at_, row.ok S.sub, NKv.mono S.sub (D.is r), D.dep a, by rw [Paired.length row]; exact of_decide_eq_true hf, k _ _ (putS S o) o.put (row.put r rb)⟩
theorem rd_sdefNDV [DecidableEq α] (S : Sx P F0 H0 F H) (o : Ow P H0 F H p (ndvO Pg w p kvs)) (row : KVRow D B K F kvs xs) (r : A.r K F v a) (hq : ∃ q, v = .ref q) (rb : B.r K F y b) (hf : fits xs = true)
    (k : ∀ u kvs' H', Sx (fun a => a = p) F H F H' → Ow P H0 F H' p (ndvO Pg w p kvs') → KVRow D B K F kvs' (sdefKV a b xs) → Q u H') : rSetdefNDV Pg w K (.ref p) [v, y] H Q := by
  obtain ⟨q, rfl⟩ := hq
  refine ⟨p, kvs, D.k a, q, y, rfl, rfl, o.at_, row.ok S.sub, NKv.mono S.sub (D.is r), D.dep a, by rw [Paired.length row]; exact of_decide_eq_true hf, fun b1 u e => ?_, fun e => ?_⟩
  · have hm : memKV a xs = true := by
      rw [← row.mem (a := a)]
      unfold keyIn
      refine decide_eq_true ?_
      unfold kvAt at e
      cases hf : kvs.find? fun x => decide (x.1 = D.k a) with
      | none => rw [hf] at e; cases e
      | some x =>
        have h1 : x.1 = D.k a := of_decide_eq_true (List.find?_some (p := fun x : NestedKey × Addr × V => decide (x.1 = D.k a)) hf)
        exact h1 ▸ List.mem_map_of_mem (List.mem_of_find?_eq_some hf)
    refine k u kvs H (Sx.refl S.sub fun a z => by rw [z, o.at_]; exact fun h => nomatch h) o ?_
    unfold sdefKV
    rw [hm, if_pos rfl]
    exact row
  · have hm : memKV a xs = false := by
      rw [← row.mem (a := a)]
      exact decide_eq_false (kvAt_none e)
    refine k y _ _ (putS S o) o.put ?_
    unfold sdefKV
    rw [hm, if_neg (by decide)]
    exact row.snoc ⟨rfl, r, rb⟩
theorem Ow.tyN (o : Ow P H0 F H p (ndvO Pg w p kvs)) : tyN Pg w K "dict" (.ref p) H := .inr ⟨rfl, p, kvs, rfl, o.at_⟩
/-- d.items() -/
theorem rd_items (S : Sx P F0 H0 F H) (o : Ow P H0 F H p (ndvO Pg w p kvs)) (k : ∀ q H', H' q = some (DX.itemsO q p) → Sx P0 F H F H' → Q (.ref q) H') : rItemsNDV Pg w (.ref p) [] H Q :=
  ⟨p, kvs, rfl, rfl, o.at_, fun q hq => k q _ upd_same ((Sx.refl0 S.sub).temp hq)⟩
/-- two heaps in one: what stands in H as it is told, the rest as H' has it -/
theorem Sx.grow {H' : Hp} (S : Sx P F0 H0 F H) (h : Same H H') : ∃ F', Sx P0 F H F' H' ∧ ∀ a o, H a = none → H' a = some o → F' a = some o := by
  classical
  refine ⟨fun b => if H b = none then H' b else F b, ⟨fun a o e => ?_, fun a o e => ?_, fun a o e n => ?_, fun a o e _ => h a o e, fun a z => z.elim⟩, fun a o n e => ?_⟩
  · have e2 := S.sub a o e
    rw [if_neg (by rw [e2]; exact fun z => nomatch z)]
    exact e
  · by_cases z : H a = none
    · rw [if_pos z] at e; exact e
    · rw [if_neg z] at e; exact h a o (S.sub a o e)
  · by_cases z : H a = none
    · exact z
    · rw [if_neg z, n] at e; cases e
  · show (if H a = none then H' a else F a) = some o
    rw [if_pos n]; exact e
theorem rd_sortIt {DA : Dat A} {DB : Dat B} (o : Ordd (d2 DA DB)) (S : Sx P F0 H0 F H) (ow : Ow P H0 F H p (ndvO Pg w p kvs)) (row : KVRow D B K F kvs xs) {q : Addr} (hi : H q = some (DX.itemsO q p)) (hn : Nat.ble o.n 16 = true)
    (k : ∀ v F' H', Sx P0 F H F' H' → (qL (q2 A B)).r K F' v (srtD (d2 DA DB) xs) → Q v H') : rSortItNDV Pg w K [.ref q] H Q := by
  refine ⟨q, p, kvs, α × β, (d2 DA DB).d, xs, fun x a => x.1 = D.k a.1 ∧ A.r K F (.ref x.2.1) a.1 ∧ B.r K F x.2.2 a.2, rfl, hi, ow.at_, row, fun x b r => ⟨DA.d b.1, DB.d b.2, rfl, Dp.mono S.sub (DA.dp r.2.1), Dp.mono S.sub (DB.dp r.2.2)⟩, o.al, fun b _ => Nat.le_trans (o.dep b) (Nat.le_of_ble_eq_true hn), fun H' l ps hs hl hp h1 h2 => ?_⟩
  obtain ⟨F', c, g⟩ := S.grow hs
  refine k _ F' H' c ⟨l, _, rfl, g _ _ hl h1, ?_⟩
  have z : ∀ {zs : List (Addr × (NestedKey × Addr × V))} {bs : List (α × β)}, (∀ z ∈ zs, H z.1 = none ∧ H' z.1 = some (.tup [.ref z.2.2.1, z.2.2.2])) → Paired (fun (z : Addr × (NestedKey × Addr × V)) (a : α × β) => z.2.1 = D.k a.1 ∧ A.r K F (.ref z.2.2.1) a.1 ∧ B.r K F z.2.2.2 a.2) zs bs → Row (q2 A B) K F' (zs.map fun z => V.ref z.1) bs := by
    intro zs bs hz hp
    induction hp with
    | nil => exact .nil
    | cons r t ih =>
      obtain ⟨n1, n2⟩ := hz _ (List.mem_cons_self ..)
      exact .cons ⟨_, _, _, rfl, .inl (.inl (g _ _ n1 n2)), A.mono c.le r.2.1, B.mono c.le r.2.2⟩ (ih fun z hz' => hz z (List.mem_cons_of_mem _ hz'))
  exact z h2 hp
end
/-! ## any, all, sum, pop, insert, index, clear -/
section
variable {K : PySem.W.Frag} {P : Addr → Prop} {F0 H0 F H F' : Hp} {v : V} {Q : VK} {α : Type} {A : R α} {p : Addr} {vs : List V}
theorem row_bl {K : PySem.W.Frag} {F : Hp} {vs : List V} {xs : List Bool} (r : Row qB K F vs xs) : vs = xs.map V.bl := by
  induction r with
  | nil => rfl
  | cons h t ih => rw [ih, show _ = _ from h]; rfl
def rAnyK (K : PySem.W.Frag) : List V → Hp → VK → Prop := fun vs H Q => ∃ (a : Addr) (bs : List Bool), vs = [V.ref a] ∧ SqL K H a (bs.map V.bl) ∧ Q (.bl (bs.any id)) H
def rAllK (K : PySem.W.Frag) : List V → Hp → VK → Prop := fun vs H Q => ∃ (a : Addr) (bs : List Bool), vs = [V.ref a] ∧ SqL K H a (bs.map V.bl) ∧ Q (.bl (bs.all id)) H
def rSumK (K : PySem.W.Frag) : List V → Hp → VK → Prop := fun vs H Q => ∃ (a : Addr) (ns : List Int), vs = [V.ref a] ∧ SqL K H a (ns.map V.int) ∧ Q (.int ns.sum) H
theorem cr_anyK {X : Cx} (hc : X.calm = true) : CallR X (.builtin "any") (rAnyK X.K) := cr_any hc
theorem cr_allK {X : Cx} (hc : X.calm = true) : CallR X (.builtin "all") (rAllK X.K) := cr_all hc
theorem cr_sumK {X : Cx} (hc : X.calm = true) : CallR X (.builtin "sum") (rSumK X.K) := cr_sum hc
theorem rd_any {xs : List Bool} (s : SeenR qB K F H v xs) (k : Q (.bl (xs.any id)) H) : rAnyK K [v] H Q := by
  obtain ⟨p, vs, rfl, h1, r⟩ := s
  obtain rfl := row_bl r
  exact ⟨p, xs, rfl, h1, k⟩
theorem rd_all {xs : List Bool} (s : SeenR qB K F H v xs) (k : Q (.bl (xs.all id)) H) : rAllK K [v] H Q := by
  obtain ⟨p, vs, rfl, h1, r⟩ := s
  obtain rfl := row_bl r
  exact ⟨p, xs, rfl, h1, k⟩
theorem rd_sum {xs : List Int} (s : SeenR qI K F H v xs) (k : Q (.int xs.sum) H) : rSumK K [v] H Q := by
  obtain ⟨p, vs, rfl, h1, r⟩ := s
  obtain rfl := row_int r
  exact ⟨p, xs, rfl, h1, k⟩
theorem pDropLast {α β : Type} {R : α → β → Prop} {xs : List α} {ys : List β} (r : Paired R xs ys) : Paired R xs.dropLast ys.dropLast := by
  rw [List.dropLast_eq_take, List.dropLast_eq_take, pLen r]
  exact pTake _ r
theorem pErase {α β : Type} {R : α → β → Prop} : ∀ {xs : List α} {ys : List β} (i : Nat), Paired R xs ys → Paired R (xs.eraseIdx i) (ys.eraseIdx i)
  | _, _, _, .nil => .nil
  | _, _, 0, .cons _ t => t
  | _, _, i + 1, .cons q t => .cons q (pErase i t)
/-- xs.pop(): the last item, the rest -/
def popL {α : Type} (xs : List α) : Option (α × List α) := xs.getLast?.map fun a => (a, xs.dropLast)
theorem rd_pop {xs : List α} {a : α × List α} (S : Sx P F0 H0 F H) (w : Ow P H0 F H p (.lst vs)) (r : Row A K F vs xs) (h : popL xs = some a) (k : ∀ u H' us, A.r K F u a.1 → Sx (fun a => a = p) F H F H' → Ow P H0 F H' p (.lst us) → Row A K F us a.2 → Q u H') : rPop (.ref p) [] H Q := by
  unfold popL at h
  obtain ⟨b, h1, rfl⟩ := Option.map_eq_some_iff.mp h
  rw [List.getLast?_eq_getElem?] at h1
  rw [← pLen r] at h1
  obtain ⟨u, h2, h3⟩ := pGet r h1
  exact ⟨p, vs, u, rfl, rfl, w.at_, h2, k u _ _ h3 (putS S w) w.put (pDropLast r)⟩
/-- xs.pop(i) -/
def popAt {α : Type} (xs : List α) (i : Int) : Option (α × List α) := gd (decide (-(2 ^ 63) ≤ i) && decide (i < 2 ^ 63)) <| (seqIndex? i xs.length).bind fun k => xs[k]?.map fun a => (a, xs.eraseIdx k)
theorem rd_popAt {xs : List α} {i : Int} {a : α × List α} (S : Sx P F0 H0 F H) (w : Ow P H0 F H p (.lst vs)) (r : Row A K F vs xs) (h : popAt xs i = some a) (k : ∀ u H' us, A.r K F u a.1 → Sx (fun a => a = p) F H F H' → Ow P H0 F H' p (.lst us) → Row A K F us a.2 → Q u H') : rPopAt (.ref p) [.int i] H Q := by
  obtain ⟨g, h⟩ := gd_some h
  obtain ⟨g1, g2⟩ := Bool.and_eq_true_iff.mp g
  obtain ⟨j, h0, h⟩ := bd_some h
  obtain ⟨b, h1, rfl⟩ := Option.map_eq_some_iff.mp h
  obtain ⟨u, h2, h3⟩ := pGet r h1
  exact ⟨p, vs, i, j, u, rfl, rfl, w.at_, of_decide_eq_true g1, of_decide_eq_true g2, by rw [pLen r]; exact h0, h2, k u _ _ h3 (putS S w) w.put (pErase j r)⟩
def rInsertK : V → List V → Hp → VK → Prop := fun x vs H Q => ∃ (l : Addr) (xs : List V) (i : Int) (y : V), x = .ref l ∧ vs = [.int i, y] ∧ H l = some (.lst xs) ∧ xs.length < sizeLine ∧ 0 ≤ i ∧ i < 2 ^ 63 ∧ Q .non (upd H l (.lst (xs.take i.toNat ++ [y] ++ xs.drop i.toNat)))
theorem mt_insertK {X : Cx} : MtR X "list.insert" rInsertK := mt_insert
def insI {α : Type} (xs : List α) (i : Int) (a : α) : List α := xs.take i.toNat ++ [a] ++ xs.drop i.toNat
def insOk {α : Type} (xs : List α) (i : Int) : Bool := fits xs && (decide (0 ≤ i) && decide (i < 2 ^ 63))
theorem rd_insert {xs : List α} {i : Int} {y : V} {a : α} (S : Sx P F0 H0 F H) (w : Ow P H0 F H p (.lst vs)) (r : Row A K F vs xs) (ra : A.r K F y a) (h : insOk xs i = true) (k : ∀ H' us, Sx (fun a => a = p) F H F H' → Ow P H0 F H' p (.lst us) → Row A K F us (insI xs i a) → Q .non H') : rInsertK (.ref p) [.int i, y] H Q := by
  obtain ⟨h1, h2⟩ := Bool.and_eq_true_iff.mp h
  obtain ⟨h3, h4⟩ := Bool.and_eq_true_iff.mp h2
  exact ⟨p, vs, i, y, rfl, rfl, w.at_, by rw [pLen r]; exact of_decide_eq_true h1, of_decide_eq_true h3, of_decide_eq_true h4, k _ _ (putS S w) w.put (pApp (pApp (pTake _ r) (.cons ra .nil)) (pDrop _ r))⟩
theorem rd_clear {xs : List α} (S : Sx P F0 H0 F H) (w : Ow P H0 F H p (.lst vs)) (r : Row A K F vs xs) (k : ∀ H', Sx (fun a => a = p) F H F H' → Ow P H0 F H' p (.lst []) → Row A K F [] ([] : List α) → Q .non H') : rClear (.ref p) [] H Q :=
  ⟨p, vs, rfl, rfl, w.at_, k _ (putS S w) w.put .nil⟩
/-- xs.index(y), of ints and texts -/
def idxOf {α : Type} [DecidableEq α] (xs : List α) (a : α) : Option Int := (xs.findIdx? fun b => decide (b = a)).map fun (j : Nat) => (j : Int)
theorem findIdx_at {α : Type} {q : α → Bool} : ∀ {xs : List α} {j : Nat}, xs.findIdx? q = some j → ∃ x, xs[j]? = some x ∧ q x = true ∧ ∀ m x', m < j → xs[m]? = some x' → q x' = false
  | [], j, h => by simp at h
  | x :: xs, j, h => by
    rw [List.findIdx?_cons] at h
    by_cases e : q x = true
    · rw [e] at h
      simp at h
      subst h
      exact ⟨x, rfl, e, fun m x' hm _ => absurd hm (by omega)⟩
    · have e' : q x = false := by simpa using e
      rw [e'] at h
      simp only [Bool.false_eq_true, if_false, Option.map_eq_some_iff] at h
      obtain ⟨i, h1, rfl⟩ := h
      obtain ⟨y, h2, h3, h4⟩ := findIdx_at h1
      refine ⟨y, by simpa using h2, h3, fun m x' hm hx => ?_⟩
      cases m with
      | zero =>
        simp at hx
        exact hx ▸ e'
      | succ m => exact h4 m x' (by omega) (by simpa using hx)
theorem rd_indexI {xs : List Int} {a j : Int} (s : SeenR qI K F H v xs) (h : idxOf xs a = some j) (k : Q (.int j) H) : rIndex K v [.int a] H Q := by
  obtain ⟨p, vs, rfl, h1, r⟩ := s
  obtain rfl := row_int r
  unfold idxOf at h
  obtain ⟨i, h2, rfl⟩ := Option.map_eq_some_iff.mp h
  obtain ⟨x, h3, h4, h5⟩ := findIdx_at h2
  refine ⟨p, _, .int a, i, .int x, rfl, rfl, h1, rfl, ?_, by rw [List.getElem?_map, h3]; rfl, ?_, fun m z hm hz => ?_, k⟩
  · rw [List.all_map]; exact List.all_eq_true.mpr fun _ _ => rfl
  · show (x == a) = true
    exact beq_iff_eq.mpr (of_decide_eq_true h4)
  · rw [List.getElem?_map] at hz
    cases hx : xs[m]? with
    | none => rw [hx] at hz; cases hz
    | some x' =>
      rw [hx] at hz
      cases hz
      show (x' == a) = false
      exact beq_eq_false_iff_ne.mpr (of_decide_eq_false (h5 m x' hm hx))
theorem rd_indexS {xs : List Str} {a : Str} {j : Int} (s : SeenR qS K F H v xs) (h : idxOf xs a = some j) (k : Q (.int j) H) : rIndex K v [.str a] H Q := by
  obtain ⟨p, vs, rfl, h1, r⟩ := s
  obtain rfl := row_str r
  unfold idxOf at h
  obtain ⟨i, h2, rfl⟩ := Option.map_eq_some_iff.mp h
  obtain ⟨x, h3, h4, h5⟩ := findIdx_at h2
  refine ⟨p, _, .str a, i, .str x, rfl, rfl, h1, rfl, ?_, by rw [List.getElem?_map, h3]; rfl, ?_, fun m z hm hz => ?_, k⟩
  · rw [List.all_map]; exact List.all_eq_true.mpr fun _ _ => rfl
  · show (x == a) = true
    exact beq_iff_eq.mpr (of_decide_eq_true h4)
  · rw [List.getElem?_map] at hz
    cases hx : xs[m]? with
    | none => rw [hx] at hz; cases hz
    | some x' =>
      rw [hx] at hz
      cases hz
      show (x' == a) = false
      exact beq_eq_false_iff_ne.mpr (of_decide_eq_false (h5 m x' hm hx))
end
/-! ## rows of unlike things -/
structure RR (α : Type) where
  r : PySem.W.Frag → Hp → List V → α → Prop
  mono : ∀ {K : PySem.W.Frag} {F F' : Hp} {v : List V} {a : α}, Same F F' → r K F v a → r K F' v a
def f1 {α : Type} (A : R α) : RR α := ⟨fun K F vs a => ∃ u, vs = [u] ∧ A.r K F u a, fun e ⟨u, h1, h2⟩ => ⟨u, h1, A.mono e h2⟩⟩
def fc {α β : Type} (A : R α) (B : RR β) : RR (α × β) := ⟨fun K F vs a => ∃ u us, vs = u :: us ∧ A.r K F u a.1 ∧ B.r K F us a.2, fun e ⟨u, us, h1, h2, h3⟩ => ⟨u, us, h1, A.mono e h2, B.mono e h3⟩⟩
def qLr {α : Type} (B : RR α) : R α := ⟨fun K F v a => ∃ p vs, v = .ref p ∧ F p = some (.lst vs) ∧ B.r K F vs a, fun e ⟨p, vs, h1, h2, h3⟩ => ⟨p, vs, h1, e _ _ h2, B.mono e h3⟩⟩
def qTr {α : Type} (B : RR α) : R α := ⟨fun K F v a => ∃ p vs, v = .ref p ∧ SqT K F p vs ∧ B.r K F vs a, fun e ⟨p, vs, h1, h2, h3⟩ => ⟨p, vs, h1, same_t e h2, B.mono e h3⟩⟩
structure DatR {α : Type} (B : RR α) where
  d : α → List PyData
  dp : ∀ {K : PySem.W.Frag} {F : Hp} {v : List V} {a : α}, B.r K F v a → DpAll K F v (d a)
  eq : ∀ a b : α, PyData.eqvAll (d a) (d b) = true ↔ a = b
def e1 {α : Type} {A : R α} (D : Dat A) : DatR (f1 A) := ⟨fun a => [D.d a], fun ⟨u, h1, h2⟩ => by subst h1; exact .cons (D.dp h2) .nil, fun a b => by
  show (PyData.eqv (D.d a) (D.d b) && true) = true ↔ _
  rw [Bool.and_true, D.eq]⟩
def ec {α β : Type} {A : R α} {B : RR β} (D : Dat A) (E : DatR B) : DatR (fc A B) := ⟨fun a => D.d a.1 :: E.d a.2, fun ⟨u, us, h1, h2, h3⟩ => by subst h1; exact .cons (D.dp h2) (E.dp h3), fun a b => by
  show (PyData.eqv (D.d a.1) (D.d b.1) && PyData.eqvAll (E.d a.2) (E.d b.2)) = true ↔ _
  rw [Bool.and_eq_true, D.eq, E.eq]
  obtain ⟨a1, a2⟩ := a
  obtain ⟨b1, b2⟩ := b
  simp⟩
def dLr {α : Type} {B : RR α} (E : DatR B) : Dat (qLr B) := ⟨fun a => .list (E.d a), fun ⟨p, vs, h1, h2, h3⟩ => by subst h1; exact .lst (SqL.of h2) (E.dp h3), fun a b => E.eq a b⟩
def dTr {α : Type} {B : RR α} (E : DatR B) : Dat (qTr B) := ⟨fun a => .tuple (E.d a), fun ⟨p, vs, h1, h2, h3⟩ => by subst h1; exact .tup h2 (E.dp h3), fun a b => E.eq a b⟩
instance {α : Type} {B : RR α} : NN (qLr B) := ⟨fun ⟨p, vs, h, _⟩ => by subst h; exact fun z => nomatch z⟩
instance {α : Type} {B : RR α} : NN (qTr B) := ⟨fun ⟨p, vs, h, _⟩ => by subst h; exact fun z => nomatch z⟩
instance {α : Type} {B : RR α} {E : DatR B} : NotNone (dLr E) := ⟨fun _ => rfl, fun _ => rfl⟩
instance {α : Type} {B : RR α} {E : DatR B} : NotNone (dTr E) := ⟨fun _ => rfl, fun _ => rfl⟩
section
variable {K : PySem.W.Frag} {P : Addr → Prop} {F0 H0 F H F' : Hp} {v u : V} {Q : VK} {α : Type} {B : RR α} {a : α}
/-- the item at a written place: its value -/
theorem rd_ixLr {i : Int} {vs : List V} {p : Addr} (S : Sx P F0 H0 F H) (h : F p = some (.lst vs)) (e : atI vs i = some u) (k : Q u H) : rIxL K (.ref p) (.int i) H Q := ⟨p, vs, i, u, rfl, rfl, SqL.of (S.sub _ _ h), e, k⟩
theorem rd_ixTr {i : Int} {vs : List V} {p : Addr} (S : Sx P F0 H0 F H) (h : SqT K F p vs) (e : atI vs i = some u) (k : Q u H) : rIxT K (.ref p) (.int i) H Q := ⟨p, vs, i, u, rfl, rfl, same_t S.sub h, e, k⟩
theorem alLr {vs : List V} (S : Sx P F0 H0 F H) (r : B.r K F vs a) (k : ∀ v F' H', Sx P0 F H F' H' → (qLr B).r K F' v a → Q v H') : nK Q H (.lst vs) :=
  alF S fun p F' H' c h => k _ F' H' c ⟨p, vs, rfl, h, B.mono c.le r⟩
theorem alTr {vs : List V} (S : Sx P F0 H0 F H) (r : B.r K F vs a) (k : ∀ v F' H', Sx P0 F H F' H' → (qTr B).r K F' v a → Q v H') : nK Q H (.tup vs) :=
  alF S fun p F' H' c h => k _ F' H' c ⟨p, vs, rfl, .inl (.inl h), B.mono c.le r⟩
theorem rd_lenLr {vs : List V} {p : Addr} (S : Sx P F0 H0 F H) (h : F p = some (.lst vs)) (k : Q (.int (vs.length : Int)) H) : rLenQ K [.ref p] H Q := ⟨p, vs, rfl, .inl (SqL.of (S.sub _ _ h)), k⟩
theorem rd_lenTr {vs : List V} {p : Addr} (S : Sx P F0 H0 F H) (h : SqT K F p vs) (k : Q (.int (vs.length : Int)) H) : rLenQ K [.ref p] H Q := ⟨p, vs, rfl, .inr (same_t S.sub h), k⟩
end

/-- where a row of unlike things has what -/
structure RowAt {α γ : Type} (B : RR α) (i : Nat) (C : R γ) (g : α → γ) : Prop where
  at_ : ∀ {K : PySem.W.Frag} {F : Hp} {vs : List V} {a : α}, B.r K F vs a → ∃ u, vs[i]? = some u ∧ C.r K F u (g a)
theorem ra0 {α β : Type} {A : R α} {B : RR β} : RowAt (fc A B) 0 A (fun a => a.1) := ⟨fun ⟨u, us, h1, h2, _⟩ => ⟨u, by rw [h1]; rfl, h2⟩⟩
theorem ra1 {α : Type} {A : R α} : RowAt (f1 A) 0 A (fun a => a) := ⟨fun ⟨u, h1, h2⟩ => ⟨u, by rw [h1]; rfl, h2⟩⟩
theorem raS {α β γ : Type} {A : R α} {B : RR β} {C : R γ} {i : Nat} {g : β → γ} (h : RowAt B i C g) : RowAt (fc A B) (i + 1) C (fun a => g a.2) := ⟨fun ⟨u, us, h1, _, h3⟩ => by
  obtain ⟨w, h4, h5⟩ := h.at_ h3
  exact ⟨w, by rw [h1, List.getElem?_cons_succ]; exact h4, h5⟩⟩
theorem atI_nat {α : Type} {xs : List α} {i : Nat} {x : α} (h : xs[i]? = some x) (hz : xs.length ≤ 1000) : atI xs (i : Int) = some x := by
  have hi : i < xs.length := (List.getElem?_eq_some_iff.mp h).1
  have : ixN xs.length (i : Int) = some i := by
    unfold ixN
    first | (simp; omega) | (rw [if_pos (by omega)]; simp) | skip
  unfold atI
  rw [this]
  exact h

section
variable {K : PySem.W.Frag} {P : Addr → Prop} {F0 H0 F H F' : Hp} {v u : V} {Q : VK} {α γ : Type} {B : RR α} {C : R γ} {g : α → γ} {a : α} {i : Nat} {σ : L2.St} {QS : L2.St → Hp → Prop} {ts : TGs}
theorem rd_xLr (S : Sx P F0 H0 F H) (r : (qLr B).r K F v a) (ra : RowAt B i C g) (hl : ∀ K F vs a, B.r K F vs a → vs.length ≤ 1000) (k : ∀ u, C.r K F u (g a) → Q u H) : rIxL K v (.int (i : Int)) H Q := by
  obtain ⟨p, vs, rfl, h2, h3⟩ := r
  obtain ⟨u, h4, h5⟩ := ra.at_ h3
  exact ⟨p, vs, i, u, rfl, rfl, SqL.of (S.sub _ _ h2), atI_nat h4 (hl _ _ _ _ h3), k u h5⟩
theorem rd_xTr (S : Sx P F0 H0 F H) (r : (qTr B).r K F v a) (ra : RowAt B i C g) (hl : ∀ K F vs a, B.r K F vs a → vs.length ≤ 1000) (k : ∀ u, C.r K F u (g a) → Q u H) : rIxT K v (.int (i : Int)) H Q := by
  obtain ⟨p, vs, rfl, h2, h3⟩ := r
  obtain ⟨u, h4, h5⟩ := ra.at_ h3
  exact ⟨p, vs, i, u, rfl, rfl, same_t S.sub h2, atI_nat h4 (hl _ _ _ _ h3), k u h5⟩
/-- pairs, triples by their places -/
theorem rd_x2 {α β : Type} {A : R α} {B : R β} {x : α × β} (S : Sx P F0 H0 F H) (r : (q2 A B).r K F v x) (k : ∀ u, A.r K F u x.1 → Q u H) : rIxT K v (.int 0) H Q := by
  obtain ⟨p, u, w, rfl, h2, h3, h4⟩ := r
  exact ⟨p, _, 0, u, rfl, rfl, same_t S.sub h2, rfl, k u h3⟩
theorem rd_y2 {α β : Type} {A : R α} {B : R β} {x : α × β} (S : Sx P F0 H0 F H) (r : (q2 A B).r K F v x) (k : ∀ u, B.r K F u x.2 → Q u H) : rIxT K v (.int 1) H Q := by
  obtain ⟨p, u, w, rfl, h2, h3, h4⟩ := r
  exact ⟨p, _, 1, w, rfl, rfl, same_t S.sub h2, rfl, k w h4⟩
/-- how many there are -/
class RRn {α : Type} (B : RR α) where
  n : Nat
  le : n ≤ 1000
  len : ∀ {K : PySem.W.Frag} {F : Hp} {vs : List V} {a : α}, B.r K F vs a → vs.length = n
instance {α : Type} {A : R α} : RRn (f1 A) := ⟨1, by decide, fun ⟨u, h, _⟩ => by rw [h]; rfl⟩
theorem rrn_c {α β : Type} {A : R α} {B : RR β} {m : Nat} (hl : ∀ {K : PySem.W.Frag} {F : Hp} {vs : List V} {a : β}, B.r K F vs a → vs.length = m) {K : PySem.W.Frag} {F : Hp} {vs : List V} {a : α × β} (h : (fc A B).r K F vs a) : vs.length = m + 1 := by
  obtain ⟨u, us, h1, _, h3⟩ := h
  rw [h1, List.length_cons, hl h3]
/-- the values of a row, one by one -/
theorem un_c {α β : Type} {A : R α} {B : RR β} {vs : List V} {a : α × β} (h : (fc A B).r K F vs a) : ∃ u us, vs = u :: us ∧ A.r K F u a.1 ∧ B.r K F us a.2 := h
theorem un_1 {α : Type} {A : R α} {vs : List V} {a : α} (h : (f1 A).r K F vs a) : ∃ u, vs = [u] ∧ A.r K F u a := h
theorem un_Lr (r : (qLr B).r K F v a) : ∃ p vs, v = .ref p ∧ F p = some (.lst vs) ∧ B.r K F vs a := r
theorem un_Tr (r : (qTr B).r K F v a) : ∃ p vs, v = .ref p ∧ SqT K F p vs ∧ B.r K F vs a := r
/-- a row unpacked into targets -/
theorem rd_gunT (S : Sx P F0 H0 F H) (r : (qTr B).r K F v a) {n : Nat} (hl : ∀ vs, B.r K F vs a → vs.length = n) (k : ∀ vs, B.r K F vs a → ts vs σ H QS) : gTup K n ts v σ H QS := by
  obtain ⟨p, vs, rfl, h2, h3⟩ := r
  exact ⟨p, vs, rfl, same_t S.sub h2, hl vs h3, k vs h3⟩
theorem rd_gunL (S : Sx P F0 H0 F H) (r : (qLr B).r K F v a) {n : Nat} (hl : ∀ vs, B.r K F vs a → vs.length = n) (k : ∀ vs, B.r K F vs a → ts vs σ H QS) : gUnl K n ts v σ H QS := by
  obtain ⟨p, vs, rfl, h2, h3⟩ := r
  exact ⟨p, vs, rfl, SqL.of (S.sub _ _ h2), hl vs h3, k vs h3⟩
theorem rd_gun2 {α β : Type} {A : R α} {B : R β} {x : α × β} (S : Sx P F0 H0 F H) (r : (q2 A B).r K F v x) (k : ∀ u w, A.r K F u x.1 → B.r K F w x.2 → ts [u, w] σ H QS) : gTup K 2 ts v σ H QS := by
  obtain ⟨p, u, w, rfl, h2, h3, h4⟩ := r
  exact ⟨p, _, rfl, same_t S.sub h2, rfl, k u w h3 h4⟩
theorem rd_lenR {n : Nat} (S : Sx P F0 H0 F H) (r : (qLr B).r K F v a) (hl : ∀ vs, B.r K F vs a → vs.length = n) (k : Q (.int (n : Int)) H) : rLenQ K [v] H Q := by
  obtain ⟨p, vs, rfl, h2, h3⟩ := r
  exact ⟨p, vs, rfl, .inl (SqL.of (S.sub _ _ h2)), by rw [hl vs h3]; exact k⟩
theorem rd_lenT {n : Nat} (S : Sx P F0 H0 F H) (r : (qTr B).r K F v a) (hl : ∀ vs, B.r K F vs a → vs.length = n) (k : Q (.int (n : Int)) H) : rLenQ K [v] H Q := by
  obtain ⟨p, vs, rfl, h2, h3⟩ := r
  exact ⟨p, vs, rfl, .inr (same_t S.sub h2), by rw [hl vs h3]; exact k⟩
theorem rd_len2 {α β : Type} {A : R α} {B : R β} {x : α × β} (S : Sx P F0 H0 F H) (r : (q2 A B).r K F v x) (k : Q (.int 2) H) : rLenQ K [v] H Q := by
  obtain ⟨p, u, w, rfl, h2, h3, h4⟩ := r
  exact ⟨p, _, rfl, .inr (same_t S.sub h2), k⟩
theorem tx_Lr (S : Sx P F0 H0 F H) (r : (qLr B).r K F v a) : TyX K H v (.type "list") := by
  obtain ⟨p, vs, rfl, h2, h3⟩ := r
  exact .base (.lst (S.sub _ _ h2))
theorem tx_Tr (S : Sx P F0 H0 F H) (r : (qTr B).r K F v a) : TyX K H v (.type "tuple") := by
  obtain ⟨p, vs, rfl, h2, h3⟩ := r
  exact tx_sqt (same_t S.sub h2)
end
theorem pg_unlK {X : Cx} {K : PySem.W.Frag} {pos : Pos} {es : List Expr} {k n : Nat} {t : TGs} (hc : X.calm = true) (h : PGs X es t) (hK : X.K = K := by rfl)
    (hn : (assignEach es X.env).length = n := by rfl) (hst : (assignEach es X.env).findIdx? (·.1) = none := by rfl) : PG X (.Tuple es k pos) (gUnl K n t) := by subst hK; exact pg_unl hc h hn hst

section
variable {K : PySem.W.Frag} {P : Addr → Prop} {F0 H0 F H : Hp} {v : V} {Q : VK} {α β : Type} {A : R α} {B : R β} {σ : L2.St} {to : TE} {t : TA} {Pg : Program} {w : World} {T : String} {r : V → List V → Hp → VK → Prop}
theorem ref_pair {x : α × β} (r : (q2 A B).r K F v x) : ∃ q, v = .ref q := let ⟨p, _, _, h, _⟩ := r; ⟨p, h⟩
theorem tyL_seen {xs : List α} (s : SeenR A K F H v xs) : tyV K "list" v H := by
  obtain ⟨p, vs, rfl, h, _⟩ := s
  exact .inl ⟨rfl, vs, h⟩
theorem rd_bmN (k : to σ H fun x H1 => tyN Pg w K T x H1 ∧ t σ H1 fun xs H2 => r x xs H2 Q) : tBMN Pg w K T r to t σ H Q := k
theorem rd_bmN0 (k : to σ H fun x H1 => tyN Pg w K T x H1 ∧ r x [] H1 Q) : tBMN0 Pg w K T r to σ H Q := k
end
def kT1 : Kd (qT qI) := ⟨kTI, fun h => kTI_is h, kTI_inj, fun a => Nat.le_trans (kTI_dep a) (by decide)⟩
end Gl

namespace Gl
open PySem PySem.Spec PyProof.Rows L2

/-! ## set(xs), xs a list of ints -/
section
variable {P : Program} {w : World} {A : Around} {E : Value → Shared → Prop} {s : Shared}
abbrev newSetO (w : World) : Obj := { cls := .type "set", dict := none, data := .set #[] 0 (.fresh 0 0 (!w.params.followText "set-order")) }
theorem set_of_list {l : Addr} {items : Array Value} (ns : List Int) {Q : Value → Shared → Prop} (hh : A.handled = none) (hl : s.heap.IsList l items) (hit : IntsAre items.toList ns) (hb : ns.length + 1 < scanBound)
    (h : ∀ (h' : Heap) (tk c : Nat), SetR w h' s.heap.objs.size (fun j => decide (j ∈ ns)) c → c ≤ ns.length → (∀ b o, s.heap.get? b = some o → h'.get? b = some o) → Q (.ref s.heap.objs.size) { s with heap := h', toks := tk }) :
    wpAny (model P w) A (call (.type "set") [.ref l]) Q E s := by
  have hisz : items.size = ns.length := by
    have q := IntsAre.length hit
    rwa [Array.length_toList] at q
  obtain ⟨c, tl, hmro⟩ := F.called_set.mro
  have hmade := F.called_set.made
  have hsub := F.called_set.sub
  refine wpAny_call (codeAny_of_tree ?_)
  show wpAny _ _ (callAny (.type "set") _) _ _ _
  refine wpAny_pure ⟨Code.quiet_builtin _ (by decide +kernel), codeAny_builtin F.entry_type_call ?_⟩
  rw [Around.under_plain (weight_type_call_type "set" [.ref l] []) rfl]
  have h1 := F.called_set.notType
  have h2 := F.called_set.canCreate
  have hct := F.typeCall_set_1 (.ref l)
  repeat (any_goals (first | assumption | wp_step))
  refine codeAny_mono (code_set_led1 (.ref l) (E := E) (Q₁ := fun obj s₁ => obj = .ref s.heap.objs.size ∧ s₁ = { s with heap := s.heap.push (newSetO w) }) ⟨rfl, rfl⟩) fun r s₁ hr => ?_
  cases r with
  | error e => exact hr
  | ok fl =>
    cases fl with
    | ret obj =>
      obtain ⟨rfl, rfl⟩ := hr
      have hS : (s.heap.push (newSetO w)).get? s.heap.objs.size = some (newSetO w) := Heap.get?_push_size _ rfl
      have hT : Shared.TypeIs { s with heap := s.heap.push (newSetO w) } (.ref s.heap.objs.size) "set" := ⟨_, hS, rfl⟩
      have hli := F.called_set.init.lookup
      have hbi := F.called_set.init.bind (.ref s.heap.objs.size)
      repeat (any_goals (first | assumption | wp_step))
      refine codeAny_mono (codeAny_call_builtin (R := wants (fun r s₂ => r = .none ∧ ∃ h' tk c, s₂ = { s with heap := h', toks := tk } ∧ SetR w h' s.heap.objs.size (fun j => decide (j ∈ ns)) c ∧ c ≤ ns.length ∧
          (∀ b o, s.heap.get? b = some o → h'.get? b = some o)) E) F.called_set.init.plain F.entry_set_init (check_set_init_1 hT ?_)) fun r₂ s₂ hr₂ => ?_
      · obtain ⟨ol, hol, hcl, nl, hdl⟩ := hl
        obtain ⟨ocls, odict, odata, oslots⟩ := ol
        simp only at hcl hdl
        subst hcl; subst hdl
        have hol' : (s.heap.push (newSetO w)).get? l = some { cls := .type "list", dict := odict, data := .seq items nl, slots := oslots } := Heap.get?_push_of_some _ hol
        have hsls := F.sub_list_set
        have hslf := F.sub_list_frozenset
        have hne : (Value.type "list" == Value.type "dict") = false := by decide
        have hl1 : (s.heap.push (newSetO w)).IsList l items := ⟨_, hol', rfl, nl, rfl⟩
        unfold Builtin.«set.__init__» noKeywords Builtin.Frozenset.updateFrom
        generalize hPI : pyIter = PI
        wp_walk
        subst hPI
        refine wpAny_pyIter_list hl1 ?_
        refine wpAny_bind (wpAny_runValue ?_)
        have hlS : l < s.heap.objs.size := Heap.lt_size hol
        have hh3 : A.in1.in1.in1.handled = none := by simp [hh]
        have hneI : l ≠ (s.heap.push (newSetO w)).objs.size := by
          rw [Heap.size_push]; exact Nat.ne_of_lt (Nat.lt_succ_of_lt hlS)
        have hSf : s.heap.objs.size ∉ [(s.heap.push (newSetO w)).objs.size, l] := by
          rw [Heap.size_push]; simp only [List.mem_cons, List.mem_singleton, List.not_mem_nil, or_false, not_or]
          exact ⟨Nat.ne_of_lt (Nat.lt_succ_self _), Nat.ne_of_gt hlS⟩
        have hval : ∀ (i : Nat) (v : Value), items[i]? = some v → ∃ k t, ns[i]? = some k ∧ v = .int k t := fun i v hv => by
          have hi : i < ns.length := by rw [← hisz]; exact (Array.getElem?_eq_some_iff.mp hv).1
          obtain ⟨t, e⟩ := PyProof.Rows.IntsAre.int_at hit i v (by rw [Array.getElem?_toList]; exact hv)
          refine ⟨ns[i], t, List.getElem?_eq_getElem hi, ?_⟩
          rw [e, List.getD_eq_getElem?_getD, List.getElem?_eq_getElem hi] <;> rfl
        refine set_update_ints ((Walks.list hh3 _ l hneI items).toS) s.heap.objs.size hSf ns hisz hb hval (items.size - 0) 0 _ (by omega) (Nat.zero_le _)
          ⟨⟨_, Heap.get?_push_size _ rfl, rfl, rfl⟩, (hl1.push _)⟩ ⟨0, Nat.le_refl 0, setR_new_at (Heap.get?_push_of_some _ hS)⟩ ?_
        intro s' c' hm hc' hS'
        obtain ⟨h', g2, d', tk', os'⟩ := s'
        have eg : g2 = s.gens := hm.gens
        have ed : d' = s.drawn := hm.drawn
        have eo : os' = s.os := hm.os
        subst eg; subst ed; subst eo
        show wpAny _ _ _ _ _ _
        refine wpAny_pure ?_
        show wpAny _ _ (ret Value.none) _ _ _
        rw [hisz] at hc'
        refine wpAny_pure ⟨rfl, h', tk', c', rfl, hS', hc', fun b o e => ?_⟩
        have hb0 : b < s.heap.objs.size := Heap.lt_size e
        refine hm.heap b o ?_ (Heap.get?_push_of_some _ (Heap.get?_push_of_some _ e))
        rw [Heap.size_push]
        simp only [List.mem_cons, List.mem_singleton, List.not_mem_nil, or_false, not_or]
        exact ⟨Nat.ne_of_lt hb0, Nat.ne_of_lt (Nat.lt_succ_of_lt hb0)⟩
      · cases r₂ with
        | error e => exact hr₂
        | ok fl₂ =>
          cases fl₂ with
          | ret r =>
            obtain ⟨rfl, h', tk, c', rfl, hS', hc', hk'⟩ := hr₂
            repeat (any_goals (first | assumption | wp_step))
            exact h _ _ _ hS' hc' hk'
          | _ => exact hr₂.elim
    | _ => exact hr.elim
end
def rSetLI (K : PySem.W.Frag) (w : World) : List V → Hp → VK → Prop := fun xs H Q => ∃ (l : Addr) (ns : List Int), xs = [V.ref l] ∧ SqL K H l (ns.map V.int) ∧ ns.length + 1 < scanBound ∧ ∀ a c, H a = none → c ≤ ns.length → Q (.ref a) (upd H a (SetO w a (fun j => decide (j ∈ ns)) c))
theorem cr_setLI {X : Cx} (hc : X.calm = true) : CallR X (.type "set") (rSetLI X.K X.w) := by
  intro pins s σ H xs us Q I r h
  obtain ⟨l, ns, rfl, hl, hf, q⟩ := h
  rw [Vals.ref1 r]
  obtain ⟨its, rv, pl, hz⟩ := I.list hl
  refine set_of_list (P := X.prog) (w := X.w) ns (I.ok.hd hc) pl.isList (by simpa using rv.ints) hf fun h' tk c R hcn k => ?_
  exact ⟨.ref s.heap.objs.size, upd H s.heap.objs.size (SetO X.w s.heap.objs.size (fun j => decide (j ∈ ns)) c), I.laid (t' := tk) k (Nat.le_refl _) (setO_new R), rfl, q _ c (I.hok.fresh (Nat.le_refl _)) hcn⟩
/-- a set of ints stands at p, of at most so many -/
def SetIn (w : World) (H : Hp) (p : Addr) (xs : List Int) : Prop := ∃ c, H p = some (SetO w p (fun j => decide (j ∈ xs)) c) ∧ c ≤ xs.length
def few64 {α : Type} (xs : List α) : Bool := decide (xs.length < 64)
/-- each once, the first stay -/
def once (xs : List Int) : List Int := xs.foldl (fun l x => if x ∈ l then l else l ++ [x]) []
theorem once_go (xs : List Int) : ∀ l : List Int, l.Nodup → (xs.foldl (fun l x => if x ∈ l then l else l ++ [x]) l).Nodup ∧ ∀ k, k ∈ xs.foldl (fun l x => if x ∈ l then l else l ++ [x]) l ↔ k ∈ l ∨ k ∈ xs := by
  induction xs with
  | nil => intro l h; exact ⟨h, fun k => by simp⟩
  | cons x xs ih =>
    intro l h
    rw [List.foldl_cons]
    by_cases hx : x ∈ l
    · rw [if_pos hx]
      obtain ⟨h1, h2⟩ := ih l h
      refine ⟨h1, fun k => (h2 k).trans ?_⟩
      constructor
      · rintro (z | z)
        · exact .inl z
        · exact .inr (List.mem_cons_of_mem _ z)
      · rintro (z | z)
        · exact .inl z
        · rcases List.mem_cons.mp z with e | z
          · exact .inl (e ▸ hx)
          · exact .inr z
    · rw [if_neg hx]
      obtain ⟨h1, h2⟩ := ih (l ++ [x]) (by
        rw [List.nodup_append]
        refine ⟨h, by simp, fun a ha b hb => ?_⟩
        rw [List.mem_singleton] at hb
        exact fun e => hx (by rw [← hb, ← e]; exact ha))
      refine ⟨h1, fun k => (h2 k).trans ?_⟩
      simp only [List.mem_append, List.mem_cons, List.not_mem_nil, or_false, or_assoc]
theorem once_nodup (xs : List Int) : (once xs).Nodup := (once_go xs [] List.nodup_nil).1
theorem mem_once {xs : List Int} {k : Int} : k ∈ once xs ↔ k ∈ xs := ((once_go xs [] List.nodup_nil).2 k).trans (by simp)
/-- sorted(set(xs)) -/
def srtU (xs : List Int) : List Int := srtI (once xs)
theorem mem_srtU {xs : List Int} {k : Int} : k ∈ srtU xs ↔ k ∈ xs := ((srtI_perm _).mem_iff).trans mem_once
theorem srtU_pw (xs : List Int) : (srtU xs).Pairwise (· < ·) := by
  have h1 := srtI_pw (once xs)
  have h2 : (srtU xs).Nodup := ((srtI_perm _).nodup_iff).mpr (once_nodup xs)
  exact List.Pairwise.imp₂ (fun a b h k => by
    have h : a ≤ b := h
    have k : a ≠ b := k
    omega) h1 h2
theorem asc_ext : ∀ {l m : List Int}, l.Pairwise (· < ·) → m.Pairwise (· < ·) → (∀ k, k ∈ l ↔ k ∈ m) → l = m := fun {l m} hl hm h => by
  have nl : l.Nodup := hl.imp fun z => by omega
  have nm : m.Nodup := hm.imp fun z => by omega
  refine List.Perm.eq_of_pairwise (le := (· ≤ ·)) (fun a b _ _ => Int.le_antisymm) (hl.imp fun z => Int.le_of_lt z) (hm.imp fun z => Int.le_of_lt z) ?_
  exact (List.perm_ext_iff_of_nodup nl nm).mpr h
section
variable {K : PySem.W.Frag} {P : Addr → Prop} {F0 H0 F H : Hp} {v : V} {Q : VK} {w : World}
theorem rd_setLI {xs : List Int} (S : Sx P F0 H0 F H) (s : SeenR qI K F H v xs) (h : few64 xs = true) (k : ∀ q H', SetIn w H' q xs → Sx P0 F H F H' → Q (.ref q) H') : rSetLI K w [v] H Q := by
  obtain ⟨p, vs, rfl, h1, r⟩ := s
  obtain rfl := row_int r
  have := of_decide_eq_true h
  exact ⟨p, xs, rfl, h1, by unfold scanBound; omega, fun q c hq hc => k q _ ⟨c, upd_same, hc⟩ ((Sx.refl0 S.sub).temp hq)⟩
theorem rd_sortSet {q : Addr} {xs : List Int} (hs : SetIn w H q xs) (h : few64 xs = true) (k : nL qI K F Q H (srtU xs)) : rSortedSet w [.ref q] H Q := by
  obtain ⟨c, e, hc⟩ := hs
  have := of_decide_eq_true h
  refine ⟨q, _, c, rfl, e, by omega, fun ns p hp hm hl hn => ?_⟩
  have e : ns = srtU xs := asc_ext hp (srtU_pw xs) fun k => (hm k).trans (by rw [decide_eq_true_eq]; exact mem_srtU.symm)
  subst e
  exact k p _ hn (row_ints _)
/-- len(set(xs)), xs each once -/
def setOk (xs : List Int) : Bool := decide (xs.length < 64 ∧ xs.Nodup)
theorem rd_lenSet {te : TE} {σ : L2.St} (k : te σ H fun x H1 => ∃ (l : Addr) (ns : List Int), x = V.ref l ∧ SqL K H1 l (ns.map V.int) ∧ ns.Nodup ∧ ns.length ≤ 4000 ∧ Q (.int (ns.length : Nat)) H1) : RZ.tLenSetI K te σ H Q := k
def lsK (K : PySem.W.Frag) (Q : VK) : VK := fun x H1 => ∃ (l : Addr) (ns : List Int), x = V.ref l ∧ SqL K H1 l (ns.map V.int) ∧ ns.Nodup ∧ ns.length ≤ 4000 ∧ Q (.int (ns.length : Nat)) H1
theorem rd_lenSetK {te : TE} {σ : L2.St} (k : te σ H (lsK K Q)) : RZ.tLenSetI K te σ H Q := k
theorem ls_at {xs : List Int} (s : SeenR qI K F H v xs) (h : setOk xs = true) (k : Q (.int (xs.length : Int)) H) : lsK K Q v H := by
  obtain ⟨p, vs, rfl, h1, r⟩ := s
  obtain rfl := row_int r
  obtain ⟨h2, h3⟩ := of_decide_eq_true h
  exact ⟨p, xs, rfl, h1, h3, by omega, k⟩
/-! ## the truth of a list -/
def trK (K : PySem.W.Frag) (Q : Bool → Hp → Prop) : VK := fun x H' => ∃ k, TruV K x H' k ∧ Q k H'
theorem rd_truth {te : TE} {σ : L2.St} {Q : Bool → Hp → Prop} (k : te σ H (trK K Q)) : (fun (σ : L2.St) (H : Hp) (Q : Bool → Hp → Prop) => te σ H fun x H' => ∃ k, TruV K x H' k ∧ Q k H') σ H Q := k
theorem tr_at {α : Type} {A : R α} {xs : List α} {Q : Bool → Hp → Prop} (s : SeenR A K F H v xs) (k : Q (!xs.isEmpty) H) : trK K Q v H := by
  obtain ⟨p, vs, rfl, h1, r⟩ := s
  refine ⟨_, .inl ⟨vs, h1, rfl⟩, ?_⟩
  have e : vs.isEmpty = xs.isEmpty := by cases r <;> rfl
  rw [e]; exact k
/-! ## [x] * n -/
def repLOk {α : Type} (xs : List α) (k : Int) : Bool := decide (k < 2 ^ 63 ∧ -(2 ^ 63) ≤ k ∧ xs.length * k.toNat ≤ sizeLine)
def repL {α : Type} (xs : List α) (k : Int) : List α := (List.replicate k.toNat xs).flatten
theorem row_rep {α : Type} {A : R α} {vs : List V} {xs : List α} (r : Row A K F vs xs) : ∀ n : Nat, Row A K F (List.replicate n vs).flatten (List.replicate n xs).flatten
  | 0 => .nil
  | n + 1 => by
    rw [List.replicate_succ, List.replicate_succ, List.flatten_cons, List.flatten_cons]
    exact pApp r (row_rep r n)
theorem rd_repL {α : Type} {A : R α} {xs : List α} {k : Int} (s : SeenL A K F H v xs) (h : repLOk xs k = true) (q : nL A K F Q H (repL xs k)) : rRep v (.int k) H Q := by
  obtain ⟨p, vs, rfl, h1, r⟩ := s
  obtain ⟨h2, h3, h4⟩ := of_decide_eq_true h
  have e : vs.length = xs.length := pLen r
  exact ⟨p, k, vs, rfl, rfl, h1, h3, h2, by rw [e]; exact h4, fun l hl => q l _ hl (row_rep r _)⟩
end
/-! ## o[i], len(o), o of a class of the program's own -/
section
variable {prog : Program} {w : World} {A : Around} {E : Value → Shared → Prop} {s : Shared} {K : PySem.W.Frag} {x C f : Addr} {ox : Obj} {od : Option Obj}
theorem fnIn_of {q p : Str} {params : Arguments} {body : List Stmt} {scope : Scope} {dvs : List V} {kws : List (Str × V)} {fd : FuncData} (F : FunD K q p params body scope dvs kws f fd) : PySem.W.fnIn K f = true := by
  obtain ⟨oc, od, dV, kV, doc, pm, an, cdv, ct, osl, _, lk, _⟩ := F.ex
  unfold PySem.W.fnIn
  rw [lk]
theorem sub_own {value slice : Expr} {i : Value} {Q : Value → Shared → Prop} (X : K.In s.heap) (I : PySem.W.InstAt s.heap x ox C od) (hs : PySem.W.findIn K (.ref C) "__getitem__" = some (some (.ref f))) (hf : PySem.W.fnIn K f = true) (hfn : PySem.W.isFn K (.ref f) = true)
    (h : wpAny (model prog w) A.in1 (call (.ref f) [.ref x, i]) Q E s)
    (hsl : subscripted slice true (.ref x) i = runValue (.builtin "lifetime.subscript" ⟨[.ref x, i], []⟩)) :
    wpAny (model prog w) A (subscriptTail value slice (.ref x) i) Q E s := by
  unfold PySem.W.fnIn at hf
  split at hf
  · rename_i e
    unfold subscriptTail getitemInPython
    refine wpAny_bind (wpAny_bind (wpAny_bind (I.type.here ((PySem.W.looks_findIn X hs).here ?_))))
    refine wpAny_bind (wpAny_load (X _ _ e) (wpAny_pure ?_))
    dsimp only
    rw [hsl]
    refine wpAny_bind (wpAny_runValue (codeAny_builtin PySem.W.entry_sub ?_))
    unfold Builtin.«lifetime.subscript»
    refine wpAny_bind (PySem.W.special_fn X I hs (beq_iff_eq.mp hfn) (wpAny_mono h (fun v s' z => ?_) fun _ _ z => z))
    exact wpAny_pure (wpAny_bind (wpAny_letTemporaryGo (wpAny_pure z)))
  · cases hf
end
section
variable {X : Cx} {CX : CXT} {k : Nat} {C f : Addr} {fd : FuncData} {ps : List Str} {sp : Sp} {E : XK} {a b : Expr} {ta tb : TE} {pos : Pos}
/-- run_fn one place deeper -/
theorem run_fn1 {pins : List (Addr × Obj)} {σ : L2.St} {H : Hp} {s : Shared} {Q : VK} {us : List Value} {vs : List V} (F : FnOk X.prog X.w X.K X.mg X.base CX k f fd ps sp) (hr : Room (k + 1) X.A) (hb : Binds X.K fd ps []) (hx : Passes CX X E)
    (I : Inv X pins σ H s) (r : Vals vs us) (h : sp vs H Q E) : wpAny (model X.prog X.w) X.A.in1 (call (.ref f) us) (EP X pins σ Q) X.xe s := by
  have hl : (us ++ []).length = ps.length := by rw [List.append_nil, ← r.length]; exact F.len _ _ _ _ h
  have hb' := hb s us I.kIn hl
  rw [List.append_nil] at hb'
  refine wpAny_call (codeAny_mono (F.run X.A.in1 X.stack s H ⟨us, []⟩ us vs Q E hr.in1 I.env0.in1 hb' r h) fun r s' hq => ?_)
  cases r with
  | error e => exact hx pins σ H s e s' I hq
  | ok fl =>
    cases fl with
    | ret u => exact I.after hq
    | next => exact False.elim hq
    | brk => exact False.elim hq
    | cont => exact False.elim hq
def rSubO (C : Addr) (sp : Sp) (E : XK) : R2 := fun x y H Q => ∃ a dx fs, x = .ref a ∧ H a = some (.ins C dx fs) ∧ sp [.ref a, y] H Q E
theorem pe_subO (hm : Meth X.K C "__getitem__" f) (hfi : PySem.W.fnIn X.K f = true) (F : FnOk X.prog X.w X.K X.mg X.base CX k f fd ps sp) (hr : Room (k + 1) X.A) (hb : Binds X.K fd ps []) (hx : Passes CX X E) (ha : PE X a ta) (hb' : PE X b tb)
    (hs : ∀ o i, subscripted b true o i = runValue (.builtin "lifetime.subscript" ⟨[o, i], []⟩) := by intro _ _; rfl) : PE X (.Subscript a b pos) (tOp (rSubO C sp E) ta tb) := by
  refine ⟨fun pins s σ H Q I h => ?_⟩
  refine Subscript_ (binT ha hb' I h fun v u s2 x y H2 I2 rx ry q => ?_)
  obtain ⟨a, dx, fs, rfl, e, q⟩ := q
  cases rx
  obtain ⟨ox, od, J, _⟩ := StX.insC_at I2 (.inr ⟨dx, fs, e⟩)
  exact sub_own I2.kIn J hm.at_ hfi hm.fn (run_fn1 (vs := [.ref a, y]) F hr hb hx I2 (.cons rfl (.cons ry .nil)) q) (hs _ _)
theorem sub_at {p dx : Addr} {fs : List (Str × V)} {x : V} {H : Hp} {Q : VK} (h : H p = some (.ins C dx fs)) (k : sp [.ref p, x] H Q E) : rSubO C sp E (.ref p) x H Q := ⟨p, dx, fs, rfl, h, k⟩
end
/-! ## tests of lists; xs += ys -/
def tTr (K : PySem.W.Frag) (te : TE) : TT := fun σ H Q => te σ H (trK K Q)
theorem pt_truthK {X : Cx} {K : PySem.W.Frag} {a : Expr} {ta : TE} (ha : PE X a ta) (he : ∀ whole, isTrue a X.env whole = (do let v ← whole; standAt a.pos; holding [v] (truthy v))) (hK : X.K = K := by rfl) : PT X a (tTr K ta) := by
  subst hK; exact pt_truth ha he
section
variable {K : PySem.W.Frag} {P : Addr → Prop} {F0 H0 F H : Hp} {v : V} {Q : VK} {σ : L2.St} {te : TE} {α : Type} {A : R α} {p : Addr} {vs : List V} {xs ys : List α}
theorem rd_tr {Q : Bool → Hp → Prop} (k : te σ H (trK K Q)) : tTr K te σ H Q := k
theorem rd_ipx (S : Sx P F0 H0 F H) (w : Ow P H0 F H p (.lst vs)) (r : Row A K F vs xs) {b : V} (s : SeenL A K F H b ys) (h : fits2 xs ys = true)
    (k : ∀ us H', Sx (fun a => a = p) F H F H' → Ow P H0 F H' p (.lst (vs ++ us)) → Row A K F (vs ++ us) (xs ++ ys) → Q (.ref p) H') : rExt2 (.ref p) b H Q := by
  obtain ⟨q, us, rfl, h2, r2⟩ := s
  refine ⟨p, q, vs, us, rfl, rfl, w.at_, h2, by rw [pLen r, pLen r2]; exact of_decide_eq_true h, ?_⟩
  exact k us _ ((Sx.refl S.sub fun a z => by rw [z, w.at_]; exact fun h => nomatch h).put w.arg) w.put (pApp r r2)
end
/-! ## a chain of ints -/
def chK (r' : R2) (tc : TE) (y : V) (σ : L2.St) (Q : VK) : VK := fun z H3 => ∃ k, z = .bl k ∧ (if k = true then tc σ H3 fun w' H4 => r' y w' H4 Q else Q (.bl false) H3)
theorem rd_chain {r r' : R2} {ta tb tc : TE} {σ : L2.St} {H : Hp} {Q : VK} (k : ta σ H fun x H1 => tb σ H1 fun y H2 => r x y H2 (chK r' tc y σ Q)) : tChain r r' ta tb tc σ H Q := k
theorem ch_at {r' : R2} {tc : TE} {y z : V} {σ : L2.St} {H : Hp} {Q : VK} {b c : Bool} (hc : ∀ Q' : VK, Q' z H → tc σ H Q') (hr : ∀ Q' : VK, Q' (.bl c) H → r' y z H Q') (k : Q (.bl (b && c)) H) : chK r' tc y σ Q (.bl b) H :=
  ⟨b, rfl, by
    cases b
    · exact k
    · exact hc _ (hr _ k)⟩
/-! ## x in o, whatever class o is of, within blocks too -/
def rInW (P : Program) (w : World) (K : PySem.W.Frag) (mg : Str → Option Value) (base : Heap) (k : Nat) (neg : Bool) : R2 := fun x y H Q => ∃ (a dx : Addr) (fs : List (Str × V)) (C f : Addr) (sp : Sp) (j : Nat) (fd : FuncData) (ps : List Str), y = .ref a ∧ H a = some (.ins C dx fs) ∧
  Meth K C "__contains__" f ∧ FnOk P w K mg base CX0 j f fd ps sp ∧ j ≤ k ∧ Binds K fd ps [] ∧ sp [.ref a, x] H (fun v H2 => ∃ b, v = .bl b ∧ Q (.bl (neg != b)) H2) E0
theorem op_inW {X : Cx} {k : Nat} (hr : Room k X.A) : OpR X (compareOp .In) (rInW X.prog X.w X.K X.mg X.base k false) := by
  intro pins s σ H x y v u Q I rx ry h
  obtain ⟨a, dx, fs, C, f, sp, j, fd, ps, rfl, e, hm, F, hj, hb, h⟩ := h
  cases ry
  show wpAny _ _ ((contains (.ref a) v) >>= fun z => pure (Value.bool z)) _ _ s
  refine wpAny_bind (in_own (E := E0) hm F (hr.mono hj) hb pass0 I e rx h fun r s' ⟨z, H', I', rz, b, ez, q⟩ => ?_)
  subst ez
  cases rz
  refine ⟨b, rfl, wpAny_pure (fin_bl I' ?_ rfl)⟩
  cases b <;> exact q
theorem op_niW {X : Cx} {k : Nat} (hr : Room k X.A) : OpR X (compareOp .NotIn) (rInW X.prog X.w X.K X.mg X.base k true) := by
  intro pins s σ H x y v u Q I rx ry h
  obtain ⟨a, dx, fs, C, f, sp, j, fd, ps, rfl, e, hm, F, hj, hb, h⟩ := h
  cases ry
  show wpAny _ _ ((contains (.ref a) v) >>= fun z => pure (Value.bool (!z))) _ _ s
  refine wpAny_bind (in_own (E := E0) hm F (hr.mono hj) hb pass0 I e rx h fun r s' ⟨z, H', I', rz, b, ez, q⟩ => ?_)
  subst ez
  cases rz
  refine ⟨b, rfl, wpAny_pure (fin_bl I' ?_ rfl)⟩
  cases b <;> exact q
def inWK (neg : Bool) (Q : VK) : VK := fun v H2 => ∃ b, v = .bl b ∧ Q (.bl (neg != b)) H2
theorem rd_inWf {Q : VK} {b : Bool} {H : Hp} (k : Q (.bl b) H) : inWK false Q (.bl b) H := ⟨b, rfl, by cases b <;> exact k⟩
theorem rd_inWt {Q : VK} {b : Bool} {H : Hp} (k : Q (.bl (!b)) H) : inWK true Q (.bl b) H := ⟨b, rfl, by cases b <;> exact k⟩
theorem VM.inW {P : Program} {w : World} {K : PySem.W.Frag} {mg : Str → Option Value} {base : Heap} {k : Nat} {ps : List Str} {sp : Str → Sp} {F H F0 H0 : Hp} {P' : Addr → Prop} {v x : V} {a : Pat} {Q : VK} {neg : Bool} (V : VM P w K mg base k "__contains__" ps sp) (S : Sx P' F0 H0 F H) (r : qPat.r K F v a)
    (kt : sp a.cls [v, x] H (inWK neg Q) E0) : rInW P w K mg base k neg x v H Q := by
  obtain ⟨p, dx, fs, rfl, h2, h3⟩ := qPat_ins r S.sub
  obtain ⟨c, me, F, b⟩ := V.go a.cls a.isC
  exact ⟨p, dx, fs, _, _, sp a.cls, k, _, ps, rfl, h2, me, F, Nat.le_refl _, b, kt⟩
/-! ## built-in methods, the reading by K itself -/
section
variable {X : Cx} {K : PySem.W.Frag} {T id : String} {name : Str} {o e : Expr} {es : List Expr} {to : TE} {t : TA} {r : V → List V → Hp → VK → Prop} {apos cpos : Pos}
theorem pe_bm0K (pa : PlainAttrs T) (slot : Slot T name id) (hty : typeOf (.builtin id) = pure (.type "method_descriptor")) (hm : MtR X id r) (ho : PE X o to) (hK : X.K = K := by rfl)
    (hbase : attributeBase o name X.env (eval o X.env) = eval o X.env := by rfl) (hline : (apos.endLine == cpos.line) = true := by rfl) : PE X (.Call (.Attribute o name apos) [] [] cpos) (tBM0 K T r to) := by
  subst hK; exact pe_bm0 pa slot hty hm ho hbase hline
theorem pe_bmK (pa : PlainAttrs T) (slot : Slot T name id) (hty : typeOf (.builtin id) = pure (.type "method_descriptor")) (hm : MtR X id r) (ho : PE X o to) (ha : PA X (e :: es) t) (hK : X.K = K := by rfl)
    (hbase : attributeBase o name X.env (eval o X.env) = eval o X.env := by rfl)
    (hfew : ((backTo cpos (starEach (e :: es) X.env)).all (fun x => !x.1) && (backToKw cpos (keywordEach [] X.env)).all (fun x => x.1.isSome)
      && decide ((e :: es).length + ([] : List Keyword).length + (if ([] : List Keyword).isEmpty then 0 else 1) < 30)) = true := by rfl)
    (hline : (apos.endLine == cpos.line) = true := by rfl) (hs : starEach (e :: es) X.env = (false, eval e X.env) :: starEach es X.env := by rfl) (hplain : (backTo cpos (starEach es X.env)).any (·.1) = false := by rfl) :
    PE X (.Call (.Attribute o name apos) (e :: es) [] cpos) (tBM K T r to t) := by
  subst hK; exact pe_bm pa slot hty hm ho ha hbase hfew hline hs hplain
end
/-! ## the slots told anew, so that they do not grow -/
theorem rd_gnE {i : Nat} {x : V} {σ σ' : L2.St} {H : Hp} {N : L2.St → Hp → Prop} (e : σ.set i (some x) = σ') (k : N σ' H) : gName i x σ H N := by
  subst e; exact k
end Gl

namespace Gl
open PySem PySem.Spec PyProof.Rows L2

/-! ## data in order: < -/
section
variable {X : Cx}
def rLtD (K : PySem.W.Frag) : R2 := fun x y H Q => ∃ d e, Dp K H x d ∧ Dp K H y e ∧ PySem.W.alike d e = true ∧ d ≠ .none ∧ d.depth ≤ 16 ∧ Q (.bl (PySem.W.dataLt d e)) H
theorem op_ltD (hu : X.A.units + 64 < cLine) : OpR X (compareOp .Lt) (rLtD X.K) := by
  intro pins s σ H x y v u Q I rx ry h
  obtain ⟨d, e, hd, he, ha, hn, hdep, q⟩ := h
  obtain ⟨as, r1⟩ := Dp.reads I d x v hd rx
  obtain ⟨bs, r2⟩ := Dp.reads I e y u he ry
  have : min d.depth e.depth ≤ 16 := Nat.le_trans (Nat.min_le_left _ _) hdep
  exact PySem.W.lt_data r1 r2 ha hn (by omega) ⟨.bl _, H, I, rfl, q⟩
end
def ltD {α : Type} {A : R α} (D : Dat A) (a b : α) : Bool := PySem.W.dataLt (D.d a) (D.d b)
section
variable {α : Type} {A : R α} {K : PySem.W.Frag} {F H F0 H0 : Hp} {P : Addr → Prop} {v w : V} {a b : α} {Q : VK}
theorem rd_ltD {D : Dat A} (o : Ord1 D) (s : SeenD D K H v a) (t : SeenD D K H w b) (hn : D.d a ≠ .none) (h : Nat.ble o.n 16 = true) (k : Q (.bl (ltD D a b)) H) : rLtD K v w H Q :=
  ⟨_, _, s, t, o.al a b, hn, Nat.le_trans (o.dep a) (Nat.le_of_ble_eq_true h), k⟩
end
/-! ## displays with a star ahead -/
section
variable {X : Cx} {K : PySem.W.Frag} {α : Type} {A : R α} {F H F0 H0 : Hp} {P : Addr → Prop} {v : V} {xs ys : List α} {us ws : List V} {Q : VK} {QA : List V → Hp → Prop} {te : TE} {t : TA} {σ : L2.St} {e : Expr} {es : List Expr} {p : Pos}
def kSt (K : PySem.W.Frag) (σ : L2.St) (t : TA) (QA : List V → Hp → Prop) : VK := fun x H => ∃ p xs, x = V.ref p ∧ (SqT K H p xs ∨ SqL K H p xs) ∧ t σ H fun ys H2 => QA (xs ++ ys) H2
theorem rd_star (k : te σ H (kSt K σ t QA)) : StX.tStar K te t σ H QA := k
theorem st_at (s : SeenQ A K F H v xs) (k : ∀ us, Row A K F us xs → t σ H fun ys H2 => QA (us ++ ys) H2) : kSt K σ t QA v H := by
  obtain ⟨p, vs, rfl, h1, r⟩ := s.seq
  exact ⟨p, vs, rfl, h1.symm, k vs r⟩
theorem pa_starK (he : PE X e te) (hr : PA X es t) (hK : X.K = K := by rfl) (hs : starEach (.Starred e p :: es) X.env = (true, eval e X.env) :: starEach es X.env := by rfl) : PA X (.Starred e p :: es) (StX.tStar K te t) := by
  subst hK; exact StX.pa_star he hr hs
theorem fits2_len {xs ys : List α} (h : fits2 xs ys = true) : xs.length + ys.length ≤ sizeLine := of_decide_eq_true h
theorem rd_lKs (r : Row A K F us xs) (r2 : Row A K F ws ys) (g : fits2 xs ys = true) (k : nK Q H (.lst (us ++ ws))) : lK Q (us ++ ws) H :=
  ⟨by rw [List.length_append, pLen r, pLen r2]; exact fits2_len g, k⟩
theorem rd_uKs (r : Row A K F us xs) (r2 : Row A K F ws ys) (g : fits2 xs ys = true) (k : nK Q H (.tup (us ++ ws))) : uK Q (us ++ ws) H :=
  ⟨by rw [List.length_append, pLen r, pLen r2]; exact fits2_len g, k⟩
end
/-! ## zip of two lists -/
section
variable {K : PySem.W.Frag} {a b : Addr} {vs ws : List V} {α β : Type} {A : R α} {B : R β} {F H F0 H0 : Hp} {P : Addr → Prop} {v v2 : V} {xs : List α} {ys : List β} {RI : It → Hp → Prop} {σ : L2.St} {tr : TA}
theorem feedsZ : Feeds2 (Itz K a b) (min vs.length ws.length) (fun H => SqL K H a vs ∧ SqL K H b ws) (fun i u w => vs[i]? = some u ∧ ws[i]? = some w) :=
  ⟨fun i H h q => ⟨vs, ws, vs[i]'(by omega), ws[i]'(by omega), q.1, q.2, List.getElem?_eq_getElem _, List.getElem?_eq_getElem _⟩, fun H q => ⟨vs, ws, q.1, q.2, by omega⟩, fun i H x H' h q ⟨T, u, w, e1, e2, e3, e4, e5⟩ => ⟨T, u, w, e1, e2, e3, e4 vs q.1, e5 ws q.2⟩⟩
theorem typedZ (r : Row A K F vs xs) (r2 : Row B K F ws ys) : Typed2 A B K F (min vs.length ws.length) (fun i u w => vs[i]? = some u ∧ ws[i]? = some w) (xs.zip ys) :=
  ⟨by rw [List.length_zip, pLen r, pLen r2], fun i u w ⟨e1, e2⟩ => by
    obtain ⟨a, h1, h2⟩ := pGetL r e1
    obtain ⟨b, h3, h4⟩ := pGetL r2 e2
    exact ⟨(a, b), by rw [List.getElem?_zip_eq_some]; exact ⟨h1, h3⟩, h2, h4⟩⟩
def wZ (K : PySem.W.Frag) (RI : It → Hp → Prop) : List V → Hp → Prop := fun vs H1 => ∃ a b xs ys, vs = [.ref a, .ref b] ∧ SqL K H1 a xs ∧ SqL K H1 b ys ∧ RI (Itz K a b) H1
theorem rd_iZ (k : tr σ H (wZ K RI)) : iZip K tr σ H RI := k
theorem rd_wZ (S : Sx P F0 H0 F H) (r : (qL A).r K F v xs) (r2 : (qL B).r K F v2 ys) (k : ∀ p vs q ws, SqL K F p vs ∧ SqL K F q ws → Row A K F vs xs → Row B K F ws ys → RI (Itz K p q) H) : wZ K RI [v, v2] H := by
  obtain ⟨p, vs, rfl, h1, h2⟩ := r
  obtain ⟨q, ws, rfl, h3, h4⟩ := r2
  exact ⟨p, q, vs, ws, rfl, Same.seq S.sub (SqL.of h1), Same.seq S.sub (SqL.of h3), k p vs q ws ⟨SqL.of h1, SqL.of h3⟩ h2 h4⟩
end
end Gl

namespace Gl
open PySem PySem.Spec PyProof.Rows L2

/-! ## an own list of own lists -/
def InR {α : Type} (A : R α) (K : PySem.W.Frag) (P : Addr → Prop) (H0 F H : Hp) (q : Addr) (xs : List α) : Prop := ∃ us, Ow P H0 F H q (.lst us) ∧ Row A K F us xs
structure Nest {α : Type} (A : R α) (K : PySem.W.Frag) (P : Addr → Prop) (H0 F H : Hp) (p : Addr) (qs : List Addr) (xss : List (List α)) : Prop where
  out : Ow P H0 F H p (.lst (qs.map V.ref))
  nd : (p :: qs).Nodup
  inn : Paired (InR A K P H0 F H) qs xss
/-- what the new one is made of: the old one's objects, and new ones -/
def Keep (H : Hp) (p : Addr) (qs qs' : List Addr) : Prop := ∀ a ∈ p :: qs', a ∈ p :: qs ∨ H a = none
theorem pMem {α β : Type} {R : α → β → Prop} : ∀ {xs : List α} {ys : List β} {x : α}, Paired R xs ys → x ∈ xs → ∃ y, R x y
  | _, _, _, .cons r t, h => by
    rcases List.mem_cons.mp h with e | e
    · rw [e]; exact ⟨_, r⟩
    · exact pMem t e
theorem pMono {α β : Type} {R S : α → β → Prop} : ∀ {xs : List α} {ys : List β}, (∀ x ∈ xs, ∀ y, R x y → S x y) → Paired R xs ys → Paired S xs ys
  | _, _, _, .nil => .nil
  | _, _, h, .cons r t => .cons (h _ List.mem_cons_self _ r) (pMono (fun x hx => h x (List.mem_cons_of_mem _ hx)) t)
section
variable {α : Type} {A : R α} {K : PySem.W.Frag} {P P' : Addr → Prop} {F0 H0 F H F' H' : Hp} {p q r : Addr} {qs qs' : List Addr} {xss : List (List α)} {Q : VK} {i : Int} {j : Nat} {xs : List α} {us : List V}
theorem Nest.len (n : Nest A K P H0 F H p qs xss) : qs.length = xss.length := pLen n.inn
theorem Nest.ow (n : Nest A K P H0 F H p qs xss) {a : Addr} (h : a ∈ p :: qs) : ∃ us, Ow P H0 F H a (.lst us) := by
  rcases List.mem_cons.mp h with e | e
  · rw [e]; exact ⟨_, n.out⟩
  · obtain ⟨xs, us, w, _⟩ := pMem n.inn e
    exact ⟨us, w⟩
theorem Nest.mine (n : Nest A K P H0 F H p qs xss) : ∀ a, a ∈ p :: qs → P a ∨ H0 a = none := fun a h => let ⟨_, w⟩ := n.ow h; w.mine.symm
theorem Nest.alive (n : Nest A K P H0 F H p qs xss) : ∀ a, a ∈ p :: qs → H a ≠ none := fun a h => by
  obtain ⟨_, w⟩ := n.ow h
  rw [w.at_]; exact fun z => nomatch z
theorem Nest.ne (n : Nest A K P H0 F H p qs xss) (h : H r = none) : ∀ a ∈ p :: qs, a ≠ r := fun a ha e => n.alive a ha (by rw [e]; exact h)
theorem Nest.call (n : Nest A K P H0 F H p qs xss) (c : Sx P' F H F' H') (h : ∀ a ∈ p :: qs, ¬ P' a) : Nest A K P H0 F' H' p qs xss :=
  ⟨n.out.call c (h p List.mem_cons_self), n.nd, pMono (fun a ha xs ⟨us, w, r⟩ => ⟨us, w.call c (h a (List.mem_cons_of_mem _ ha)), Row.mono c.le r⟩) n.inn⟩
theorem Nest.call0 (n : Nest A K P H0 F H p qs xss) (c : Sx P0 F H F' H') : Nest A K P H0 F' H' p qs xss := n.call c fun _ _ z => z
theorem Nest.call1 (n : Nest A K P H0 F H p qs xss) (c : Sx (fun a => a = r) F H F' H') (h : ∀ a ∈ p :: qs, a ≠ r) : Nest A K P H0 F' H' p qs xss := n.call c h
theorem Nest.callS (S : Sx P F0 H0 F H) (n : Nest A K P H0 F H p qs xss) (c : Sx (fun a => a ∈ p :: qs) F H F' H') : Sx P F0 H0 F' H' := S.call c fun a h => n.mine a h
theorem Keep.ap (k : Keep H p qs qs') (h : ∀ a ∈ p :: qs, a ≠ r) (l : H r ≠ none) : ∀ a ∈ p :: qs', a ≠ r := fun a ha => by
  rcases k a ha with z | z
  · exact h a z
  · exact fun e => l (by rw [← e]; exact z)
theorem Keep.same : Keep H p qs qs := fun _ h => .inl h
/-- one of the inner lists -/
theorem Nest.get (n : Nest A K P H0 F H p qs xss) (h : atI xss i = some xs) : ∃ j q us, ixN xss.length i = some j ∧ qs[j]? = some q ∧ Ow P H0 F H q (.lst us) ∧ Row A K F us xs := by
  unfold atI at h
  obtain ⟨j, h1, h2⟩ := bd_some h
  obtain ⟨q, h3, us, w, r⟩ := pGet n.inn h2
  exact ⟨j, q, us, h1, h3, w, r⟩
theorem rd_ixN (n : Nest A K P H0 F H p qs xss) (h : atI xss i = some xs) (k : ∀ j q us, ixN xss.length i = some j → qs[j]? = some q → Ow P H0 F H q (.lst us) → Row A K F us xs → Q (.ref q) H) : rIxL K (.ref p) (.int i) H Q := by
  obtain ⟨j, q, us, h1, h2, w, r⟩ := n.get h
  refine ⟨p, _, i, .ref q, rfl, rfl, SqL.of n.out.at_, ?_, k j q us h1 h2 w r⟩
  unfold atI
  rw [List.length_map, n.len, h1]
  show (qs.map V.ref)[j]? = _
  rw [List.getElem?_map, h2]; rfl
theorem Nest.inMem (h : qs[j]? = some q) : q ∈ p :: qs := List.mem_cons_of_mem _ (List.mem_of_getElem? h)
theorem nodup_at {l : List Addr} {i j : Nat} {a : Addr} (h : l.Nodup) (h1 : l[i]? = some a) (h2 : l[j]? = some a) : i = j := by
  have b1 := (List.getElem?_eq_some_iff.mp h1)
  have b2 := (List.getElem?_eq_some_iff.mp h2)
  obtain ⟨b1, e1⟩ := b1
  obtain ⟨b2, e2⟩ := b2
  have pw := List.pairwise_iff_getElem.mp h
  rcases Nat.lt_trichotomy i j with z | z | z
  · exact absurd (e1.trans e2.symm) (pw i j b1 b2 z)
  · exact z
  · exact absurd (e2.trans e1.symm) (pw j i b2 b1 z)
theorem nd_set {q : Addr} : ∀ {l : List Addr} {j : Nat}, l.Nodup → q ∉ l → (l.set j q).Nodup
  | [], _, h, _ => h
  | a :: l, 0, h, n => List.nodup_cons.mpr ⟨fun z => n (List.mem_cons_of_mem _ z), (List.nodup_cons.mp h).2⟩
  | a :: l, j + 1, h, n => by
    have h2 := List.nodup_cons.mp h
    refine List.nodup_cons.mpr ⟨fun z => ?_, nd_set h2.2 fun z => n (List.mem_cons_of_mem _ z)⟩
    rcases List.mem_or_eq_of_mem_set z with z | z
    · exact h2.1 z
    · exact n (by rw [z]; exact List.mem_cons_self)
theorem pSetAt {α β : Type} {R S : α → β → Prop} : ∀ {xs : List α} {ys : List β} {j : Nat} {y : β} {x : α}, Paired R xs ys → xs[j]? = some x → S x y → (∀ k x' y', k ≠ j → xs[k]? = some x' → R x' y' → S x' y') → Paired S xs (ys.set j y)
  | _, _, 0, y, x, .cons r t, h, s, f => by
    cases h
    have go : Paired S _ _ := pMonoAt t fun k x' y' hk r => f (k + 1) x' y' (by omega) hk r
    exact .cons s go
  | _, _, j + 1, y, x, .cons r t, h, s, f => .cons (f 0 _ _ (by omega) rfl r) (pSetAt t h s fun k x' y' hk e r => f (k + 1) x' y' (by omega) e r)
where
  pMonoAt {α β : Type} {R S : α → β → Prop} : ∀ {xs : List α} {ys : List β}, Paired R xs ys → (∀ k x' y', xs[k]? = some x' → R x' y' → S x' y') → Paired S xs ys
    | _, _, .nil, _ => .nil
    | _, _, .cons r t, f => .cons (f 0 _ _ rfl r) (pMonoAt t fun k x' y' e r => f (k + 1) x' y' e r)
/-- an inner list has been changed -/
theorem Nest.upd1 {zss : List (List α)} {xs' : List α} {us' : List V} (n : Nest A K P H0 F H p qs xss) (hi : ixN xss.length i = some j) (hj : qs[j]? = some q) (h : setI xss i xs' = some zss) (c : Sx (fun a => a = q) F H F' H') (w : Ow P H0 F' H' q (.lst us')) (r : Row A K F' us' xs') : Nest A K P H0 F' H' p qs zss := by
  unfold setI at h
  rw [hi] at h
  cases (Option.some.inj h : xss.set j xs' = zss)
  have hq := List.mem_of_getElem? hj
  have nd := List.nodup_cons.mp n.nd
  have pq : p ≠ q := fun e => nd.1 (e ▸ hq)
  refine ⟨n.out.call c pq, n.nd, pSetAt n.inn hj ⟨us', w, r⟩ fun k x' y' hk e ⟨us, w2, r2⟩ => ⟨us, w2.call c fun z => hk ?_, Row.mono c.le r2⟩⟩
  exact nodup_at nd.2 e (by rw [z]; exact hj)
/-- len, == , truth -/
theorem rd_lenN (n : Nest A K P H0 F H p qs xss) (k : Q (.int (xss.length : Int)) H) : rLenQ K [.ref p] H Q :=
  ⟨p, _, rfl, .inl (SqL.of n.out.at_), by rw [List.length_map, n.len]; exact k⟩
theorem Nest.dp (n : Nest A K P H0 F H p qs xss) (S : Sx P F0 H0 F H) (D : Dat A) : SeenD (dL (dL D)) K H (.ref p) xss := by
  refine .lst (SqL.of n.out.at_) ?_
  have go : ∀ {qs : List Addr} {xss : List (List α)}, Paired (InR A K P H0 F H) qs xss → DpAll K H (qs.map V.ref) (xss.map (dL D).d) := by
    intro qs xss h
    induction h with
    | nil => exact .nil
    | cons r t ih =>
      obtain ⟨us, w, row⟩ := r
      exact .cons (.lst (SqL.of w.at_) (dpAll D (Row.mono S.sub row))) ih
  exact go n.inn
/-- a new own list put in, at the end, at a place; in place of another one -/
theorem Nest.join (n : Nest A K P H0 F H p qs xss) {zs : List Addr} {yss : List (List α)} (hz : (p :: zs).Nodup) (hp : Paired (InR A K P H0 F H) zs yss) (hl : H' = upd H p (.lst (zs.map V.ref))) (hF : Same F H) : Nest A K P H0 F H' p zs yss := by
  subst hl
  have nd := List.nodup_cons.mp hz
  refine ⟨n.out.put, hz, pMono (fun a ha xs ⟨us, w, r⟩ => ⟨us, w.putO fun e => nd.1 (e ▸ ha), r⟩) hp⟩
theorem putN (S : Sx P F0 H0 F H) (n : Nest A K P H0 F H p qs xss) {o : HO} : Sx (fun a => a ∈ p :: qs) F H F (upd H p o) := by
  have base : Sx (fun a => a ∈ p :: qs) F H F H := Sx.refl S.sub n.alive
  exact base.put ⟨n.out.fr, n.out.at_, .inr List.mem_cons_self⟩
theorem nd_snoc (h : (p :: qs).Nodup) (hq : ∀ a ∈ p :: qs, a ≠ q) : (p :: (qs ++ [q])).Nodup := by
  have h2 := List.nodup_cons.mp h
  refine List.nodup_cons.mpr ⟨fun z => ?_, List.nodup_append.mpr ⟨h2.2, by simp, fun a ha b hb e => ?_⟩⟩
  · rcases List.mem_append.mp z with z | z
    · exact h2.1 z
    · exact hq p List.mem_cons_self (List.mem_singleton.mp z)
  · rw [List.mem_singleton.mp hb] at e
    exact hq a (List.mem_cons_of_mem _ ha) e
theorem rd_appN (S : Sx P F0 H0 F H) (n : Nest A K P H0 F H p qs xss) (w : Ow P H0 F H q (.lst us)) (r : Row A K F us xs) (hq : ∀ a ∈ p :: qs, a ≠ q) (h : fits xss = true)
    (k : ∀ H' zs, Sx (fun a => a ∈ p :: qs) F H F H' → Nest A K P H0 F H' p zs (xss ++ [xs]) → (∀ a ∈ p :: zs, a ∈ p :: qs ∨ a = q) → Q .non H') : rAppend (.ref p) [.ref q] H Q := by
  refine ⟨p, _, _, rfl, rfl, n.out.at_, by rw [List.length_map, n.len]; exact of_decide_eq_true h, ?_⟩
  refine k _ (qs ++ [q]) (putN S n) (n.join (nd_snoc n.nd hq) (pApp n.inn (.cons ⟨us, w, r⟩ .nil)) (by rw [List.map_append]; rfl) S.sub) fun a ha => ?_
  rcases List.mem_cons.mp ha with e | ha
  · exact .inl (by rw [e]; exact List.mem_cons_self)
  · rcases List.mem_append.mp ha with z | z
    · exact .inl (List.mem_cons_of_mem _ z)
    · exact .inr (List.mem_singleton.mp z)
theorem rd_insN (S : Sx P F0 H0 F H) (n : Nest A K P H0 F H p qs xss) (w : Ow P H0 F H q (.lst us)) (r : Row A K F us xs) (hq : ∀ a ∈ p :: qs, a ≠ q) (h : insOk xss i = true)
    (k : ∀ H' zs, Sx (fun a => a ∈ p :: qs) F H F H' → Nest A K P H0 F H' p zs (insI xss i xs) → (∀ a ∈ p :: zs, a ∈ p :: qs ∨ a = q) → Q .non H') : rInsertK (.ref p) [.int i, .ref q] H Q := by
  unfold insOk at h
  obtain ⟨h1, h2⟩ := Bool.and_eq_true_iff.mp h
  obtain ⟨h3, h4⟩ := Bool.and_eq_true_iff.mp h2
  refine ⟨p, _, i, _, rfl, rfl, n.out.at_, by rw [List.length_map, n.len]; exact of_decide_eq_true h1, of_decide_eq_true h3, of_decide_eq_true h4, ?_⟩
  have nd : (p :: (qs.take i.toNat ++ [q] ++ qs.drop i.toNat)).Nodup := by
    have h5 := List.nodup_cons.mp n.nd
    have h6 : (qs.take i.toNat ++ qs.drop i.toNat).Nodup := by rw [List.take_append_drop]; exact h5.2
    obtain ⟨h7, h8, h9⟩ := List.nodup_append.mp h6
    have mt : ∀ a, a ∈ qs.take i.toNat → a ∈ p :: qs := fun a ha => List.mem_cons_of_mem _ (List.mem_of_mem_take ha)
    have md : ∀ a, a ∈ qs.drop i.toNat → a ∈ p :: qs := fun a ha => List.mem_cons_of_mem _ (List.mem_of_mem_drop ha)
    refine List.nodup_cons.mpr ⟨fun z => ?_, List.nodup_append.mpr ⟨List.nodup_append.mpr ⟨h7, by simp, fun a ha b hb e => ?_⟩, h8, fun a ha b hb e => ?_⟩⟩
    · rcases List.mem_append.mp z with z | z
      · rcases List.mem_append.mp z with z | z
        · exact h5.1 (List.mem_of_mem_take z)
        · exact hq p List.mem_cons_self (List.mem_singleton.mp z)
      · exact h5.1 (List.mem_of_mem_drop z)
    · rw [List.mem_singleton.mp hb] at e
      exact hq a (mt a ha) e
    · rcases List.mem_append.mp ha with ha | ha
      · exact h9 a ha b hb e
      · rw [List.mem_singleton.mp ha] at e
        exact hq b (md b hb) e.symm
  refine k _ (qs.take i.toNat ++ [q] ++ qs.drop i.toNat) (putN S n) (n.join nd (pApp (pApp (pTake _ n.inn) (.cons ⟨us, w, r⟩ .nil)) (pDrop _ n.inn)) (by rw [List.map_append, List.map_append, List.map_take, List.map_drop]; rfl) S.sub) fun a ha => ?_
  rcases List.mem_cons.mp ha with e | ha
  · exact .inl (by rw [e]; exact List.mem_cons_self)
  · rcases List.mem_append.mp ha with ha | ha
    · rcases List.mem_append.mp ha with ha | ha
      · exact .inl (List.mem_cons_of_mem _ (List.mem_of_mem_take ha))
      · exact .inr (List.mem_singleton.mp ha)
    · exact .inl (List.mem_cons_of_mem _ (List.mem_of_mem_drop ha))
theorem rd_popN (S : Sx P F0 H0 F H) (n : Nest A K P H0 F H p qs xss) {a : List α × List (List α)} (h : popAt xss i = some a)
    (k : ∀ q us zs H', Sx (fun a => a ∈ p :: qs) F H F H' → Ow P H0 F H' q (.lst us) → Row A K F us a.1 → Nest A K P H0 F H' p zs a.2 → (∀ b ∈ p :: zs, b ∈ p :: qs ∧ b ≠ q) → q ∈ p :: qs → Q (.ref q) H') : rPopAt (.ref p) [.int i] H Q := by
  unfold popAt at h
  obtain ⟨g, h⟩ := gd_some h
  obtain ⟨g1, g2⟩ := Bool.and_eq_true_iff.mp g
  obtain ⟨j, h0, h⟩ := bd_some h
  obtain ⟨b, h1, rfl⟩ := Option.map_eq_some_iff.mp h
  obtain ⟨q, h2, us, w, r⟩ := pGet n.inn h1
  have nd := List.nodup_cons.mp n.nd
  have hq := List.mem_of_getElem? h2
  have sub : ∀ b, b ∈ qs.eraseIdx j → b ∈ qs := fun b hb => List.mem_of_mem_eraseIdx hb
  have nq : q ∉ qs.eraseIdx j := fun z => by
    obtain ⟨k, hk, e⟩ := List.mem_eraseIdx_iff_getElem?.mp z
    exact hk (nodup_at nd.2 e h2)
  have pq : p ≠ q := fun e => nd.1 (e ▸ hq)
  refine ⟨p, _, i, j, .ref q, rfl, rfl, n.out.at_, of_decide_eq_true g1, of_decide_eq_true g2, by rw [List.length_map, n.len]; exact h0, by rw [List.getElem?_map, h2]; rfl, ?_⟩
  refine k q us (qs.eraseIdx j) _ (putN S n) (w.putO (Ne.symm pq)) r (n.join (List.nodup_cons.mpr ⟨fun z => nd.1 (sub p z), nd.2.eraseIdx j⟩) (pErase j n.inn) (by rw [List.eraseIdx_eq_take_drop_succ, List.eraseIdx_eq_take_drop_succ, List.map_append, List.map_take, List.map_drop]) S.sub) (fun b hb => ?_) (List.mem_cons_of_mem _ hq)
  rcases List.mem_cons.mp hb with e | hb
  · rw [e]; exact ⟨List.mem_cons_self, pq⟩
  · exact ⟨List.mem_cons_of_mem _ (sub b hb), fun e => nq (e ▸ hb)⟩
theorem rd_setN {R : Hp → Prop} {zss : List (List α)} (S : Sx P F0 H0 F H) (n : Nest A K P H0 F H p qs xss) (w : Ow P H0 F H q (.lst us)) (r : Row A K F us xs) (hq : ∀ a ∈ p :: qs, a ≠ q) (h : setI xss i xs = some zss)
    (k : ∀ H' zs, Sx (fun a => a ∈ p :: qs) F H F H' → Nest A K P H0 F H' p zs zss → (∀ a ∈ p :: zs, a ∈ p :: qs ∨ a = q) → R H') : rSetL (.ref p) (.int i) (.ref q) H R := by
  unfold setI at h
  obtain ⟨j, h1, h2⟩ := bd_some h
  cases h2
  have nd := List.nodup_cons.mp n.nd
  refine ⟨p, _, i, j, rfl, rfl, n.out.at_, by rw [List.length_map, n.len]; exact h1, ?_⟩
  have mem : ∀ a, a ∈ qs.set j q → a ∈ qs ∨ a = q := fun a ha => List.mem_or_eq_of_mem_set ha
  have hnd : (qs.set j q).Nodup := nd_set nd.2 fun z => hq q (List.mem_cons_of_mem _ z) rfl
  refine k _ (qs.set j q) (putN S n) (n.join (List.nodup_cons.mpr ⟨fun z => ?_, hnd⟩) (pSet ⟨us, w, r⟩ j n.inn) (by rw [List.map_set]) S.sub) fun a ha => ?_
  · rcases mem p z with z | z
    · exact nd.1 z
    · exact hq p List.mem_cons_self z
  · rcases List.mem_cons.mp ha with e | ha
    · exact .inl (by rw [e]; exact List.mem_cons_self)
    · rcases mem a ha with z | z
      · exact .inl (List.mem_cons_of_mem _ z)
      · exact .inr z
theorem ap_or {zs : List Addr} (h : ∀ a ∈ p :: zs, a ∈ p :: qs ∨ a = q) (ap : ∀ a ∈ p :: qs, a ≠ r) (hq : q ≠ r) : ∀ a ∈ p :: zs, a ≠ r := fun a ha => by
  rcases h a ha with z | z
  · exact ap a z
  · rw [z]; exact hq
theorem Ow.callN {o : HO} (w : Ow P H0 F H r o) (c : Sx (fun a => a ∈ p :: qs) F H F' H') (ap : ∀ a ∈ p :: qs, a ≠ r) : Ow P H0 F' H' r o := w.call c fun z => ap r z rfl
theorem Nest.fzO (n : Nest A K P H0 F H p qs xss) (ap : ∀ a ∈ p :: qs, a ≠ r) (le : Same F F') (e : ∀ b, b ≠ r → F' b = F b) : Nest A K P H0 F' H p qs xss :=
  ⟨⟨by rw [e p (ap p List.mem_cons_self)]; exact n.out.fr, n.out.at_, n.out.mine⟩, n.nd, pMono (fun a ha xs ⟨us, w, row⟩ => ⟨us, ⟨by rw [e a (ap a (List.mem_cons_of_mem _ ha))]; exact w.fr, w.at_, w.mine⟩, Row.mono le row⟩) n.inn⟩
theorem fzInn {qs : List Addr} : ∀ {F : Hp} {xss : List (List α)}, Sx P F0 H0 F H → Paired (InR A K P H0 F H) qs xss → qs.Nodup → (∀ a ∈ qs, H0 a = none) → ∃ F', Sx P F0 H0 F' H ∧ Same F F' ∧ Row (qL A) K F' (qs.map V.ref) xss ∧ ∀ b, b ∉ qs → F' b = F b := by
  induction qs with
  | nil => intro F xss S h _ _; cases h; exact ⟨F, S, Same.refl F, .nil, fun _ _ => rfl⟩
  | cons q qs ih =>
    intro F xss S h nd hn
    cases h with
    | cons r t =>
      obtain ⟨us, w, row⟩ := r
      have nd2 := List.nodup_cons.mp nd
      have S2 := S.freeze w (hn q List.mem_cons_self)
      have t2 : Paired (InR A K P H0 (upd F q (.lst us)) H) qs _ := pMono (fun a ha xs ⟨us, w2, r2⟩ => ⟨us, w2.freezeO fun e => nd2.1 (e ▸ ha), Row.mono w.leF r2⟩) t
      obtain ⟨F', S3, le, row2, eq⟩ := ih S2 t2 nd2.2 fun a ha => hn a (List.mem_cons_of_mem _ ha)
      refine ⟨F', S3, w.leF.trans le, .cons ⟨q, us, rfl, by rw [eq q nd2.1]; exact upd_same, Row.mono (w.leF.trans le) row⟩ row2, fun b hb => ?_⟩
      rw [eq b fun z => hb (List.mem_cons_of_mem _ z)]
      exact upd_ne fun e => hb (by rw [e]; exact List.mem_cons_self)
/-- an own list of own lists is let stand for good -/
theorem fzN (S : Sx P F0 H0 F H) (n : Nest A K P H0 F H p qs xss) (hn : ∀ a ∈ p :: qs, H0 a = none) : ∃ F', Sx P F0 H0 F' H ∧ Same F F' ∧ (qL (qL A)).r K F' (.ref p) xss ∧ ∀ b, b ∉ p :: qs → F' b = F b := by
  have nd := List.nodup_cons.mp n.nd
  obtain ⟨F1, S1, le, row, eq⟩ := fzInn S n.inn nd.2 fun a ha => hn a (List.mem_cons_of_mem _ ha)
  have w : Ow P H0 F1 H p (.lst (qs.map V.ref)) := ⟨by rw [eq p nd.1]; exact n.out.fr, n.out.at_, n.out.mine⟩
  refine ⟨upd F1 p (.lst (qs.map V.ref)), S1.freeze w (hn p List.mem_cons_self), le.trans w.leF, ⟨p, _, rfl, upd_same, Row.mono w.leF row⟩, fun b hb => ?_⟩
  rw [upd_ne fun e => hb (by rw [e]; exact List.mem_cons_self)]
  exact eq b fun z => hb (List.mem_cons_of_mem _ z)
theorem Ow.fzN {o : HO} (w : Ow P H0 F H r o) (ap : ∀ a ∈ p :: qs, a ≠ r) (e : ∀ b, b ∉ p :: qs → F' b = F b) : Ow P H0 F' H r o := ⟨by rw [e r fun z => ap r z rfl]; exact w.fr, w.at_, w.mine⟩
theorem Nest.isNew (n : Nest A K P H0 F H p qs xss) (h : ∀ a, P a → a = r) (ap : ∀ a ∈ p :: qs, a ≠ r) : ∀ a ∈ p :: qs, H0 a = none := fun a ha => (n.mine a ha).elim (fun z => absurd (h a z) (ap a ha)) id
theorem Nest.isNew0 (n : Nest A K P0 H0 F H p qs xss) : ∀ a ∈ p :: qs, H0 a = none := fun a ha => (n.mine a ha).elim (fun z => z.elim) id
end
section
variable {α : Type} {A : R α} {K : PySem.W.Frag} {P P' : Addr → Prop} {F0 H0 F1 H1 F H : Hp} {p r : Addr} {qs : List Addr} {xss : List (List α)}
theorem Nest.up (n : Nest A K P0 H1 F H p qs xss) (S : Sx P F0 H0 F1 H1) : Nest A K P H0 F H p qs xss := by
  have m : ∀ {a : Addr} {o : HO}, Ow P0 H1 F H a o → Ow P H0 F H a o := fun w => ⟨w.fr, w.at_, .inl (S.free0 (w.mine.elim id fun z => z.elim))⟩
  exact ⟨m n.out, n.nd, pMono (fun _ _ _ ⟨us, w, r⟩ => ⟨us, m w, r⟩) n.inn⟩
theorem apN {l : List Addr} {o : HO} (hn : ∀ a ∈ l, H a = none) (w : Ow P H0 F H r o) : ∀ a ∈ l, a ≠ r := fun a ha e => by
  have := hn a ha
  rw [e, w.at_] at this
  cases this
end
/-! ## a comprehension whose items are new own lists -/
section
variable {J : It} {n : Nat} {G : Hp → Prop} {it : Nat → V → Prop} {α β : Type} {A : R α} {B : R β} {K : PySem.W.Frag} {F1 H1 : Hp} {xs : List α} {g : TG} {tt : TT} {te : TE} {vs : List Nat} {σ : L2.St} {Q : VK}
theorem rd_compN (Fd : Feeds J n G it) (Ty : Typed A K F1 n it xs) {f : α → Unit → Option (Option (List β) × Unit)} {r : List (List β) × Unit} (hm : comp f xs () = some r) (hz : fitsE xs = true) (hsub : Same F1 H1)
    (hG : ∀ F H, Sx P0 F1 H1 F H → G H)
    (turn : ∀ (a : α) (x : V) (o : Option (List β) × Unit) (F H : Hp), A.r K F1 x a → Sx P0 F1 H1 F H → f a () = some o →
      ∀ (E : Hp → Prop) (N : V → Hp → Prop), (∀ q us b F' H', o.1 = some b → Sx P0 F H F' H' → H q = none → Ow P0 H F' H' q (.lst us) → Row B K F' us b → N (.ref q) H') → (∀ F' H', o.1 = none → Sx P0 F H F' H' → E H') →
      g x (wipe σ vs) H fun σ2 H2 => wipe σ2 vs = wipe σ vs ∧ tt σ2 H2 fun b H3 => if b = true then te σ2 H3 N else E H3)
    (done : ∀ D qs F H, (∀ a ∈ D :: qs, H1 a = none) → Sx P0 F1 H1 F H → Nest B K P0 H1 F H D qs r.1 → Q (.ref D) H) : ∀ D, H1 D = none → LcG J g tt te vs σ D Q H1 := by
  intro D hD
  have own : ∀ {F H : Hp} {q : Addr} {o : HO}, Ow P0 H1 F H q o → H1 q = none := fun w => w.mine.elim id fun z => z.elim
  refine ⟨fun i m H => m = n - i ∧ i ≤ n ∧ ∃ F qs ys r', Sx P0 F1 H1 F H ∧ Nest B K P0 H1 F H D qs ys ∧ qs.length ≤ i ∧ comp f (xs.drop i) () = some r' ∧ r = (ys ++ r'.1, r'.2), ⟨n, by simp, Nat.zero_le _, F1, [], [], r, ?_, ?_, Nat.le_refl _, hm, rfl⟩, ?_⟩
  · exact (Sx.refl0 hsub).temp hD
  · exact ⟨(Sx.refl0 hsub).own hD, by simp, .nil⟩
  rintro i m H ⟨rfl, hi, F, qs, ys, r', S, N, hal, hl, hr⟩
  by_cases hlt : i < n
  · obtain ⟨a, ha⟩ : ∃ a, xs[i]? = some a := ⟨xs[i]'(by rw [Ty.len]; exact hlt), by simp [Ty.len, hlt]⟩
    obtain ⟨o, r2, e1, e2, e3⟩ := comp_at hl ha
    refine .inr ⟨Fd.go i H hlt (hG F H S), fun H' => ∃ F qs ys r', Sx P0 F1 H1 F H' ∧ Nest B K P0 H1 F H' D qs ys ∧ qs.length ≤ i + 1 ∧ comp f (xs.drop (i + 1)) () = some r' ∧ r = (ys ++ r'.1, r'.2), fun H' p' => ⟨n - (i + 1), by omega, rfl, hlt, p'⟩, fun x H' y => ?_⟩
    obtain ⟨rfl, hx⟩ := Fd.yld i H x H' hlt (hG F H S) y
    obtain ⟨a', ha', ra⟩ := Ty.at_ i x hx
    rw [ha] at ha'
    cases ha'
    have hsz : qs.length < sizeLine := by
      have := of_decide_eq_true hz
      rw [Ty.len] at this
      omega
    refine turn a x o F H' ra S e1 _ _ (fun q us b F' H'' ho c hq w row => ?_) fun F' H'' ho c => ?_
    · have N' := N.call0 c
      have S' : Sx P0 F1 H1 F' H'' := S.call0 c
      have nq := N.ne hq
      have wq : Ow P0 H1 F' H'' q (.lst us) := ⟨w.fr, w.at_, .inl (S.free0 hq)⟩
      refine ⟨qs.map V.ref, N'.out.at_, by rw [List.length_map]; exact hsz, F', qs ++ [q], ys ++ [b], r2, S'.put N'.out, N'.join (nd_snoc N'.nd nq) (pApp N'.inn (.cons ⟨us, wq, row⟩ .nil)) (by rw [List.map_append]; rfl) S'.sub, by simp; omega, e2, ?_⟩
      rw [hr, e3, ho]
      simp
    · refine ⟨F', qs, ys, r2, S.call0 c, N.call0 c, by omega, e2, ?_⟩
      rw [hr, e3, ho]
  · have e : i = n := by omega
    subst e
    rw [← Ty.len, List.drop_length] at hl
    cases hl
    refine .inl ⟨Fd.stop H (hG F H S), ?_⟩
    rw [hr] at done
    exact done D qs F H (fun a ha => let ⟨_, w⟩ := N.ow ha; own w) S (by rw [List.append_nil]; exact N)
end
end Gl

namespace L2
open PySem PySem.Spec PyProof.Rows

/-! ## drawn signs: text.replace(x, "") where x is a captured name -/
structure Tk (X : Cx) (x : Str) (c : Addr) (y : Str) (t : Tok) (s : Shared) : Prop where
  kind : X.env.scope.names.lookup x = some .cell
  look : X.env.cells.lookup x = some c
  cell : s.heap.IsCell c (some (.str y t))
  nz : t ≠ 0
  lt : t < s.toks
section
variable {X : Cx} {pins : List (Addr × Obj)} {σ : St} {H : Hp} {s : Shared}
theorem Tk.up {x y : Str} {c : Addr} {t : Tok} {s' : Shared} (T : Tk X x c y t s) (h : s.heap.IsCell c (some (.str y t)) → s'.heap.IsCell c (some (.str y t))) (k : s.toks ≤ s'.toks) : Tk X x c y t s' :=
  ⟨T.kind, T.look, h T.cell, T.nz, Nat.lt_of_lt_of_le T.lt k⟩
/-- a captured name is stored: what stands in its cell -/
theorem store_tok {A : Around} {E : Value → Shared → Prop} {i : Nat} {x : Str} {v : V} {u : Value} {c : Addr} (I : Inv X pins σ H s) (hN : X.N.Nodup) (hi : X.N[i]? = some x) (hk : X.env.scope.names.lookup x = some .cell) (hf : X.fn x = true)
    (hc : X.env.cells.lookup x = some c) (r : RelV v u) :
    wpAny (model X.prog X.w) A (storeName X.env x u) (fun _ s' => Inv X pins (σ.set i (some v)) H s' ∧ s'.heap.IsCell c (some u) ∧ Heap.SameBut c s.heap s'.heap ∧ s.toks ≤ s'.toks) E s := by
  have h1 : wpAny (model X.prog X.w) A (storeName X.env x u) (fun _ s' => Inv X pins (σ.set i (some v)) H s') E s := store_ok I hN hi (.inr hk) r (fun s' I' => I') (.inl hf)
  have hkk : X.env.kindOf x = some .cell := hk
  obtain ⟨v0, o, ho, hd⟩ := I.cell x c hc
  have e : storeName X.env x u = cellSet c (some u) := by
    unfold storeName
    simp only [hkk, I.ok.kind]
    have e2 : PySem.cellOf X.env x = pure c := by
      unfold PySem.cellOf
      rw [hc]
    rw [e2]
    rfl
  rw [e] at h1 ⊢
  unfold cellSet at h1 ⊢
  intro Γ p hΓ
  have h2 := h1 Γ p hΓ
  obtain ⟨o', ho', h3⟩ := h2
  rw [ho] at ho'
  cases ho'
  obtain ⟨o1, o2, o3, o4⟩ := o
  have hd : o3 = .cell v0 := hd
  subst hd
  refine ⟨_, ho, ?_⟩
  obtain ⟨h4, h5⟩ := h3
  exact ⟨h4, h5, ⟨{ cls := o1, dict := o2, data := .cell (some u), slots := o4 }, Heap.get?_update_self _ ho rfl, rfl⟩, Heap.SameBut.update .., Nat.le_refl _⟩
/-- text[take(pool, k)]: the sign is a new object; what stands in cells stays -/
theorem raw_draw {CX : CXT} {kk : Nat} {f : Addr} {fd : FuncData} {ps : List Str} {sp : Sp} {E : XK} {is : Nat} {z nm tk pl : Str} {pa : Addr} {k : Int} {j : Nat} {p1 p2 p3 p4 p5 p6 : Pos} {Q1 : Nat → Hp → Prop}
    (I : Inv X pins σ H s) (F : FnOk X.prog X.w X.K X.mg X.base CX kk f fd ps sp) (hr : Room kk X.A) (hg : Gl X tk) (hm : X.mg tk = some (.ref f)) (hk : PySem.W.keepIn X.K (.ref f) = true) (hb : Binds X.K fd ps []) (hx : Passes CX X E)
    (hN : X.N[is]? = some nm) (hv : Vis X.env.scope nm) (hσ : σ[is]? = some (some (.str z))) (hN0 : X.N[0]? = some pl) (hv0 : Vis X.env.scope pl) (hσ0 : σ[0]? = some (some (.ref pa)))
    (h : sp [.ref pa, .int k] H (fun v H1 => ∃ i c, v = .int i ∧ 0 ≤ i ∧ i < 2 ^ 63 ∧ i < z.length ∧ z.cps[i.toNat]? = some c ∧ Q1 c H1) E)
    (hdb : (tk == ("__debug__" : Str)) = false := by decide) (hd : (nm == ("__debug__" : Str)) = false := by decide) (hcd : (nm == ("__classdict__" : Str)) = false := by decide)
    (hd0 : (pl == ("__debug__" : Str)) = false := by decide) (hcd0 : (pl == ("__classdict__" : Str)) = false := by decide)
    (hs : PlainIxT (.Call (.Name tk p2) [.Name pl p3, .Constant (.int k) j p4] [] p5) := by exact fun _ _ => rfl) :
    wpAny (model X.prog X.w) X.A (eval (.Subscript (.Name nm p1) (.Call (.Name tk p2) [.Name pl p3, .Constant (.int k) j p4] [] p5) p6) X.env)
      (fun u s' => ∃ c t H1, u = .str ⟨#[c]⟩ t ∧ t ≠ 0 ∧ t < s'.toks ∧ Inv X pins σ H1 s' ∧ Q1 c H1 ∧ (∀ a v, H a = none → s.heap.IsCell a v → s'.heap.IsCell a v) ∧ s.toks ≤ s'.toks) X.xe s := by
  refine Subscript_ (raw_name hN hv I hσ (fun v r => ?_) hd hcd)
  obtain ⟨tz, rfl⟩ := r
  refine wpAny_Call_Name_kw (ld_glob I hg hm ?_ hdb)
  refine PySem.W.callWith_K (h₀ := X.base) I.ok.mod.kin hk ?_ (by rfl) (by rfl)
  show wpAny _ _ (spliced ((false, eval (.Name pl p3) X.env) :: backTo p5 (starEach [.Constant (.int k) j p4] X.env))) _ _ s
  refine Calls.spliced_cons (raw_name hN0 hv0 I hσ0 (fun v0 r0 => ?_) hd0 hcd0)
  show wpAny _ _ (spliced ((false, eval (.Constant (.int k) j p4) X.env) :: backTo p5 (starEach [] X.env))) _ _ s
  refine Calls.spliced_cons (wpAny_Constant_int (Calls.spliced_nil ?_))
  have I1 : Inv X pins σ H { s with toks := s.toks + 1 } := I.tok _
  refine ⟨I1.kIn, ?_⟩
  generalize hs1 : ({ s with toks := s.toks + 1 } : Shared) = s1 at I1 ⊢
  have ht1 : 1 ≤ s1.toks := by rw [← hs1]; exact Nat.succ_le_succ (Nat.zero_le _)
  have hle : s.toks ≤ s1.toks := by rw [← hs1]; exact Nat.le_succ _
  have hh1 : s1.heap = s.heap := by rw [← hs1]
  have r2 : Vals [V.ref pa, V.int k] [v0, .int k s.toks] := .cons r0 (.cons ⟨_, rfl⟩ .nil)
  have hl : ([v0, .int k s.toks] ++ ([] : List Value)).length = ps.length := by rw [List.append_nil, ← r2.length]; exact F.len _ _ _ _ h
  have run := F.run X.A X.stack s1 H ⟨[v0, .int k s.toks], []⟩ ([v0, .int k s.toks] ++ []) [V.ref pa, V.int k] _ E hr I1.env0 (hb s1 _ I1.kIn hl) (by rw [List.append_nil]; exact r2) h
  refine wpAny_call (codeAny_mono (codeAny_toks_of (Nat.le_refl _) run) fun r s2 hq => ?_)
  obtain ⟨hk2, hq⟩ := hq
  cases r with
  | error e => exact hx pins σ H s1 e s2 I1 hq
  | ok fl =>
    cases fl with
    | next => exact False.elim hq
    | brk => exact False.elim hq
    | cont => exact False.elim hq
    | ret u =>
      have kc : ∀ a v, H a = none → s.heap.IsCell a v → s2.heap.IsCell a v := fun a v hn ⟨o, ho, hd⟩ => by
        obtain ⟨_, _, _, _, un, _⟩ := hq
        obtain ⟨sl, e⟩ := un.any (hh1 ▸ ho) hn (by simp)
        exact ⟨_, e, hd⟩
      obtain ⟨v, H2, I2, rv, i, c, rfl, h0, h63, hlt, hc, q⟩ := I1.after hq
      obtain ⟨ti, rfl⟩ := rv
      have e : seqIndex? i z.length = some i.toNat := PySem.StrLaws.seqIndex_nonneg h0 hlt
      refine tail_any (typeIs_str s2 z tz) slot_str_getitem.lookup (getItem_str (c := c) (by
        have e1 : decide (i < -(2 ^ 63 : Int)) = false := decide_eq_false (by omega)
        have e2 : decide (i ≥ 2 ^ 63) = false := decide_eq_false (by omega)
        rw [e1, e2] <;> rfl) (by rw [e]; exact hc) ?_) (hs _ _)
      refine ⟨c, s2.toks, H2, rfl, ?_, Nat.lt_succ_self _, I2.tok _, q, kc, ?_⟩
      · exact Nat.ne_of_gt (Nat.le_trans ht1 hk2)
      · show s.toks ≤ s2.toks + 1
        omega
theorem one_ne (c : Nat) : ((⟨#[c]⟩ : Str) == "") = false := by
  rw [beq_eq_false_iff_ne]
  intro e
  have e2 : (⟨#[c]⟩ : Str).length = ("" : Str).length := by rw [e]
  exact absurd e2 (by show (1 : Nat) ≠ 0; decide)
/-- behind text.replace(x, ""): the receiver's value is at hand -/
theorem raw_repl {o : Expr} {x : Str} {d j : Nat} {t : Tok} {env : Env} {A : Around} {Q E : Value → Shared → Prop} {s1 : Shared} {p2 p3 p4 p5 : Pos}
    (ho : wpAny (model X.prog X.w) A (eval o env) (fun v s2 => ∃ z tz ca, v = .str z tz ∧ z.length ≤ 1000000 ∧ env.cells.lookup x = some ca ∧ s2.heap.IsCell ca (some (.str ⟨#[d]⟩ t)) ∧ t ≠ 0 ∧ t < s2.toks ∧ ∀ t' k, s2.toks ≤ k → Q (.str (Txt.replace z ⟨#[d]⟩ "") t') { s2 with toks := k }) E s1)
    (hk : env.scope.kind = .function) (hx : env.kindOf x = some .cell)
    (hd : (x == ("__debug__" : Str)) = false := by decide)
    (hst : starEach [.Name x p3, .Constant (.str "") j p4] env = [(false, eval (.Name x p3) env), (false, eval (.Constant (.str "") j p4) env)] := by rfl)
    (hbase : attributeBase o "replace" env (eval o env) = eval o env := by rfl) (hline : (p2.endLine == p5.line) = true := by rfl) :
    wpAny (model X.prog X.w) A (eval (.Call (.Attribute o "replace" p2) [.Name x p3, .Constant (.str "") j p4] [] p5) env) Q E s1 := by
  refine PySem.Call_method2 hbase hst hline (wpAny_mono ho (fun v s2 q => ?_) fun _ _ z => z)
  obtain ⟨z, tz, ca, rfl, hz, hc, hcell, hnz, hlt, q⟩ := q
  refine ⟨"str", _, PySem.F.plainAttrs_str, PySem.F.slot_str_replace, PySem.F.type_str_replace, typeIs_str _ _ _, (fun _ e => nomatch e), Calls.callWith_builtin rfl (Calls.evalArgs_plain (Calls.spliced_cons ?_))⟩
  refine wpAny_Name (wpAny_loadName_cell hk hx hc hcell ?_) hd
  refine Calls.spliced_cons (Calls.Constant_str (Calls.spliced_nil ?_))
  refine wpAny_with_toks (n := s2.toks) (Nat.le_succ _) ?_
  refine PySem.SC.replace hnz (Nat.ne_of_gt (Nat.lt_of_le_of_lt (Nat.zero_le _) hlt)) (Nat.ne_of_lt hlt) (one_ne d) (by show z.length + (z.length + 1) * 0 ≤ _; omega) fun t' k hle => q t' k hle
end
abbrev sgScope : Scope := { kind := .function, names := [(PySem.Str.ofString ".0", .local), (PySem.Str.ofString "_law_part", .local), (PySem.Str.ofString "_law_x", .free), (PySem.Str.ofString "_law_y", .free)], isGenerator := false, isCoroutine := false, more := [] }
section
variable {X : Cx} {pins : List (Addr × Obj)} {σ : St} {H : Hp} {s : Shared}
def fstOf (dx dy : Nat) (z : Str) (e : Nat) : Prop := (Txt.replace (Txt.replace z ⟨#[dx]⟩ "") ⟨#[dy]⟩ "").cps[0]? = some e
def Fo (dx dy : Nat) (v u : Value) : Prop := ∃ z t, v = .str z t ∧ ∀ e, fstOf dx dy z e → ∃ t', u = .str ⟨#[e]⟩ t'
theorem Fo.inv {dx dy e : Nat} {z : Str} {t : Tok} {u : Value} (h : Fo dx dy (.str z t) u) (f : fstOf dx dy z e) : ∃ t', u = .str ⟨#[e]⟩ t' := by
  obtain ⟨z', t', q, r⟩ := h
  cases q
  exact r e f
theorem paired3 {α β : Type} {F : α → β → Prop} {a b c : α} {l : List β} (h : Paired F [a, b, c] l) : ∃ x y z, l = [x, y, z] ∧ F a x ∧ F b y ∧ F c z := by
  cases h with
  | cons m1 h =>
    cases h with
    | cons m2 h =>
      cases h with
      | cons m3 h =>
        cases h
        exact ⟨_, _, _, rfl, m1, m2, m3⟩
/-- a local name is set to a new list, the rest kept -/
theorem set_new {i : Nat} {x : Str} {D : Addr} {xs : List V} {m : Str → Option Value} {h' : Heap} {tk : Nat} (I : Inv X pins σ H s) (hN : X.N.Nodup) (hi : X.N[i]? = some x) (hx : X.env.scope.names.lookup x = some .local)
    (hl : ∀ (i : Nat) (x : Str) (v : V), X.N[i]? = some x → σ[i]? = some (some v) → Vis X.env.scope x → ∃ u, RelV v u ∧ Look X.env s.heap m x u) (hD : s.heap.get? D = none)
    (ns : h'.Ns X.env.locals (fun z => if z = x then some (.ref D) else m z)) (k : ∀ b o, b ≠ X.env.locals → s.heap.get? b = some o → h'.get? b = some o) (new : ObjOk X.prog X.w (upd H D (.lst xs)) h' D (.lst xs)) :
    Inv X pins (σ.set i (some (.ref D))) (upd H D (.lst xs)) { s with heap := h', toks := tk } := by
  have hn : H D = none := I.hok.gone hD
  have low : ∀ {b : Addr} {o : Obj}, X.s_0.heap.get? b = some o → b ≠ X.env.locals := fun e => Nat.ne_of_lt (Nat.lt_of_lt_of_le (Heap.lt_size e) I.ok.above)
  have aD : ∀ {b : Addr} {o : Obj}, s.heap.get? b = some o → b ≠ D := fun e z => by
    rw [z, hD] at e
    cases e
  have up : ∀ {b : Addr} {u : HO}, H b = some u → upd H D (.lst xs) b = some u := fun {b u} e => by
    rw [upd_ne (fun z => by rw [z, hn] at e; cases e)]
    exact e
  have hiσ : i < σ.length := by
    rw [I.len]
    exact (List.getElem?_eq_some_iff.mp hi).1
  have hok : HOk X.prog X.w H h' := fun b ob e => by
    refine (I.hok b ob e).stay (fun c w' hc q => k c w' (fun z => ?_) q) (fun _ q => q) fun _ _ q => q
    rcases hc with rfl | hc
    · rw [z, I.free] at e; cases e
    · rw [z, I.free] at hc; cases hc
  have hok2 : HOk X.prog X.w (upd H D (.lst xs)) h' := fun a ob q => by
    by_cases z : a = D
    · rw [z, upd_same] at q
      rw [z, ← Option.some.inj q]
      exact new
    · rw [upd_ne z] at q
      exact (hok a ob q).stay (fun _ _ _ w => w) (fun _ w => up w) fun _ _ w => up w
  have hnl : X.env.locals ≠ D := by
    obtain ⟨m', ⟨o, _, _, ho, _⟩, _⟩ := I.loc
    exact aD ho
  refine { ok := I.ok, os := I.os, bare := I.bare, base := ?_, loc := ⟨_, ns, fun j y v e1 e2 e3 => ?_⟩, cell := fun y c e => ?_, free := by rw [upd_ne hnl]; exact I.free, freeC := fun y c e => ?_, pin := fun p hp => ?_, hok := hok2, len := by rw [List.length_set]; exact I.len }
  · exact
      { keep := fun b o e n hb hx => k b o (low e) (I.base.keep b o e n hb hx)
        slot := fun b o e n hb hx => by
          obtain ⟨sl, q⟩ := I.base.slot b o e n hb hx
          exact ⟨sl, k b _ (low e) q⟩
        free := fun b o e n hx => by
          obtain ⟨o', q⟩ := I.base.there b o e hx
          rw [upd_ne (aD q)]
          exact I.base.free b o e n hx
        there := fun b o e hx => by
          obtain ⟨o', q⟩ := I.base.there b o e hx
          exact ⟨o', k b o' (low e) q⟩
        tups := fun b ys e => up (I.base.tups b ys e)
        frzs := fun b o u e => up (I.base.frzs b o u e)
        tbls := fun b qs e => by
          obtain ⟨more, q⟩ := I.base.tbls b qs e
          exact ⟨more, up q⟩ }
  · by_cases hj : j = i
    · subst hj
      rw [hi] at e1
      cases e1
      rw [List.getElem?_set_self hiσ] at e2
      cases e2
      exact ⟨.ref D, rfl, .inl ⟨hx, by simp⟩⟩
    · rw [List.getElem?_set_ne (Ne.symm hj)] at e2
      obtain ⟨u, r, q⟩ := hl j y v e1 e2 e3
      refine ⟨u, r, ?_⟩
      rcases q with ⟨kd, e⟩ | ⟨kd, c, e, o, ho, hd⟩
      · have ny : y ≠ x := fun z => hj (nodup_ix hN e1 (z ▸ hi))
        exact .inl ⟨kd, by simp [ny, e]⟩
      · exact .inr ⟨kd, c, e, o, k c o (I.cne y c e) ho, hd⟩
  · obtain ⟨w', o, ho, hd⟩ := I.cell y c e
    exact ⟨w', o, k c o (I.cne y c e) ho, hd⟩
  · obtain ⟨w', o, ho, hd⟩ := I.cell y c e
    rw [upd_ne (aD ho)]
    exact I.freeC y c e
  · obtain ⟨e, n, ne, nf, d⟩ := I.pin p hp
    exact ⟨k _ _ ne e, by rw [upd_ne (aD e)]; exact n, ne, nf, d⟩
/-- [part.replace(x, "").replace(y, "")[0] for part in [..]], one turn -/
theorem elt_tok {x y pt : Str} {cx cy C : Addr} {dx dy e j1 j2 j3 : Nat} {tx ty tz : Tok} {z : Str} {env : Env} {A : Around} {E : Value → Shared → Prop} {s3 : Shared} {m3 : Str → Option Value} {q1 q2 q3 q4 q5 q6 q7 q8 q9 q10 q11 : Pos}
    (hk : env.scope.kind = .function) (hx : env.kindOf x = some .cell) (hy : env.kindOf y = some .cell) (hp : env.kindOf pt = some .local) (hcx : env.cells.lookup x = some cx) (hcy : env.cells.lookup y = some cy)
    (hn : s3.heap.Ns env.locals m3) (hm : m3 pt = some (.str z tz)) (hz : z.length ≤ 1000000) (kx : s3.heap.IsCell cx (some (.str ⟨#[dx]⟩ tx))) (ky : s3.heap.IsCell cy (some (.str ⟨#[dy]⟩ ty)))
    (nx : tx ≠ 0) (ny : ty ≠ 0) (lx : tx < s3.toks) (ly : ty < s3.toks) (he : fstOf dx dy z e) (hl1 : (q2.endLine == q5.line) = true) (hl2 : (q6.endLine == q9.line) = true)
    (ddx : (x == ("__debug__" : Str)) = false := by decide) (ddy : (y == ("__debug__" : Str)) = false := by decide) (ddp : (pt == ("__debug__" : Str)) = false := by decide) :
    wpAny (model X.prog X.w) A (eval (.Subscript (.Call (.Attribute (.Call (.Attribute (.Name pt q1) "replace" q2) [.Name x q3, .Constant (.str "") j1 q4] [] q5) "replace" q6) [.Name y q7, .Constant (.str "") j2 q8] [] q9) (.Constant (.int 0) j3 q10) q11) env)
      (fun u s4 => (∃ t, u = .str ⟨#[e]⟩ t) ∧ Keeps s3 s4) E s3 := by
  have len0 : ∀ (z : Str) (d : Nat), (Txt.replace z ⟨#[d]⟩ "").length ≤ z.length := fun z d => by
    have q := TK.replace_len z ⟨#[d]⟩ ""
    have q2 : (z.length + 1) * ("" : Str).length = 0 := Nat.mul_zero _
    omega
  refine Subscript_ (raw_repl (X := X) (x := y) (d := dy) (t := ty) (raw_repl (X := X) (x := x) (d := dx) (t := tx) (wpAny_Name (wpAny_loadName_local hk hp hn hm ?_) ddp) hk hx ddx (hline := hl1)) hk hy ddy (hline := hl2))
  refine ⟨z, tz, cx, rfl, hz, hcx, kx, nx, lx, fun t1 k1 h1 => ?_⟩
  refine ⟨_, t1, cy, rfl, Nat.le_trans (len0 _ _) hz, hcy, ky, ny, Nat.lt_of_lt_of_le ly h1, fun t2 k2 h2 => ?_⟩
  refine wpAny_Constant_int ?_
  refine tail_any (typeIs_str _ _ _) slot_str_getitem.lookup (getItem_str (c := e) (by rfl) ?_ ?_) (by rfl)
  · have h0 : (Txt.replace (Txt.replace z ⟨#[dx]⟩ "") ⟨#[dy]⟩ "").cps[0]? = some e := he
    have hl : (0 : Int) < (Txt.replace (Txt.replace z ⟨#[dx]⟩ "") ⟨#[dy]⟩ "").length := by
      obtain ⟨q, _⟩ := Array.getElem?_eq_some_iff.mp h0
      exact Int.ofNat_lt.mpr q
    rw [PySem.StrLaws.seqIndex_nonneg (Int.le_refl 0) hl]
    exact h0
  · exact ⟨⟨_, rfl⟩, s3.heap, _, rfl, fun _ _ q => q⟩
/-- rest = [part.replace(x, "").replace(y, "")[0] for part in [a, b, c]] -/
theorem comp_tok {n1 n2 n3 rn : Str} {i1 i2 i3 ir : Nat} {cx cy : Addr} {dx dy e1 e2 e3 j1 j2 j3 : Nat} {tx ty : Tok} {z1 z2 z3 : Str} {D : Ends} {q1 q2 q3 q4 q5 q6 q7 q8 q9 q10 q11 r1 r2 r3 r4 r5 r6 rp spos : Pos}
    (hc : X.calm = true) (hN : X.N.Nodup) (I : Inv X pins σ H s) (Tx : Tk X "_law_x" cx ⟨#[dx]⟩ tx s) (Ty : Tk X "_law_y" cy ⟨#[dy]⟩ ty s)
    (N1 : X.N[i1]? = some n1) (N2 : X.N[i2]? = some n2) (N3 : X.N[i3]? = some n3) (v1 : Vis X.env.scope n1) (v2 : Vis X.env.scope n2) (v3 : Vis X.env.scope n3)
    (g1 : σ[i1]? = some (some (.str z1))) (g2 : σ[i2]? = some (some (.str z2))) (g3 : σ[i3]? = some (some (.str z3))) (l1 : z1.length ≤ 1000000) (l2 : z2.length ≤ 1000000) (l3 : z3.length ≤ 1000000)
    (f1 : fstOf dx dy z1 e1) (f2 : fstOf dx dy z2 e2) (f3 : fstOf dx dy z3 e3) (hr : X.N[ir]? = some rn) (hrl : X.env.scope.names.lookup rn = some .local)
    (hsw : swapsWith (.ListComp (.Subscript (.Call (.Attribute (.Call (.Attribute (.Name "_law_part" q1) "replace" q2) [.Name "_law_x" q3, .Constant (.str "") j1 q4] [] q5) "replace" q6) [.Name "_law_y" q7, .Constant (.str "") j2 q8] [] q9) (.Constant (.int 0) j3 q10) q11)
      [⟨.Name "_law_part" r1, .List [.Name n1 r2, .Name n2 r3, .Name n3 r4] r5, [], 0⟩] sgScope r6) (some (.Name rn rp)) spos.line X.env = pure true)
    (hl1 : (q2.endLine == q5.line) = true) (hl2 : (q6.endLine == q9.line) = true)
    (h : ∀ L, H L = none → D.nx (σ.set ir (some (.ref L))) (upd H L (.lst [.str ⟨#[e1]⟩, .str ⟨#[e2]⟩, .str ⟨#[e3]⟩])))
    (d1 : (n1 == ("__debug__" : Str)) = false := by decide) (d2 : (n2 == ("__debug__" : Str)) = false := by decide) (d3 : (n3 == ("__debug__" : Str)) = false := by decide)
    (b1 : (n1 == ("__classdict__" : Str)) = false := by decide) (b2 : (n2 == ("__classdict__" : Str)) = false := by decide) (b3 : (n3 == ("__classdict__" : Str)) = false := by decide) :
    wpAny (model X.prog X.w) X.A (exec (.Assign [.Name rn rp] (.ListComp (.Subscript (.Call (.Attribute (.Call (.Attribute (.Name "_law_part" q1) "replace" q2) [.Name "_law_x" q3, .Constant (.str "") j1 q4] [] q5) "replace" q6) [.Name "_law_y" q7, .Constant (.str "") j2 q8] [] q9) (.Constant (.int 0) j3 q10) q11)
      [⟨.Name "_law_part" r1, .List [.Name n1 r2, .Name n2 r3, .Name n3 r4] r5, [], 0⟩] sgScope r6) spos) X.env) (SP X pins D) X.xe s := by
  have hfree : ∀ y ∈ sgScope.names, y.2 = .free → ∃ c, X.env.cells.lookup y.1 = some c := fun y hy e => by
    have hy : y = (PySem.Str.ofString ".0", .local) ∨ y = (PySem.Str.ofString "_law_part", .local) ∨ y = (PySem.Str.ofString "_law_x", .free) ∨ y = (PySem.Str.ofString "_law_y", .free) := by simpa using hy
    rcases hy with rfl | rfl | rfl | rfl
    · cases e
    · cases e
    · exact ⟨cx, Tx.look⟩
    · exact ⟨cy, Ty.look⟩
  have hcl : cloFrom X.env.cells sgScope.names [] = [(("_law_y" : Str), cy), (("_law_x" : Str), cx)] := by
    show [(("_law_y" : Str), (X.env.cells.lookup ("_law_y" : Str)).getD 0), (("_law_x" : Str), (X.env.cells.lookup ("_law_x" : Str)).getD 0)] = _
    rw [Tx.look, Ty.look]
    rfl
  have hclo := closure_ok hfree
  rw [hcl] at hclo
  have kx : X.env.kindOf "_law_x" = some .cell := Tx.kind
  have ky : X.env.kindOf "_law_y" = some .cell := Ty.kind
  obtain ⟨m, hns, hloc⟩ := I.loc
  refine wpAny_Assign_ListComp_free (p := fun _ => true) (F := Fo dx dy) hsw hclo (by decide) rfl (by decide) (by decide) hrl (by rw [I.ok.kind]; rfl) ?_
  refine wpAny_List ?_
  show wpAny _ _ (spliced ((false, eval (.Name n1 r2) X.env) :: backTo r5 (starEach [.Name n2 r3, .Name n3 r4] X.env))) _ _ s
  refine Calls.spliced_cons (raw_name N1 v1 I g1 (fun u1 w1 => ?_) d1 b1)
  show wpAny _ _ (spliced ((false, eval (.Name n2 r3) X.env) :: backTo r5 (starEach [.Name n3 r4] X.env))) _ _ s
  refine Calls.spliced_cons (raw_name N2 v2 I g2 (fun u2 w2 => ?_) d2 b2)
  show wpAny _ _ (spliced ((false, eval (.Name n3 r4) X.env) :: backTo r5 (starEach [] X.env))) _ _ s
  refine Calls.spliced_cons (raw_name N3 v3 I g3 (fun u3 w3 => Calls.spliced_nil ?_) d3 b3)
  obtain ⟨t1, rfl⟩ := w1
  obtain ⟨t2, rfl⟩ := w2
  obtain ⟨t3, rfl⟩ := w3
  refine ⟨by show 3 ≤ sizeLine; decide, ?_⟩
  have hL : ({ s with heap := s.heap.push { cls := .type "list", data := .seq [Value.str z1 t1, .str z2 t2, .str z3 t3].toArray } } : Shared).heap.IsList s.heap.objs.size #[.str z1 t1, .str z2 t2, .str z3 t3] := ⟨_, Heap.get?_push_size _ rfl, rfl, 0, rfl⟩
  refine wpAny_pyIter_list hL ?_
  generalize hh1 : s.heap.push { cls := .type "list", data := .seq [Value.str z1 t1, .str z2 t2, .str z3 t3].toArray } = h1 at hL ⊢
  have sz1 : h1.objs.size = s.heap.objs.size + 1 := by rw [← hh1, Heap.size_push]
  have hne : s.heap.objs.size ≠ h1.objs.size := by rw [sz1]; exact Nat.ne_of_lt (Nat.lt_succ_self _)
  have k1 : ∀ b o, s.heap.get? b = some o → h1.get? b = some o := fun b o e => by rw [← hh1]; exact Heap.get?_push_of_some _ e
  generalize hh2 : h1.push { cls := .type "list_iterator", data := .fields #[.ref s.heap.objs.size, .int 0 0] } = h2
  have hIt : h2.IsListIter h1.objs.size s.heap.objs.size 0 := by rw [← hh2]; exact ⟨_, Heap.get?_push_size _ rfl, rfl, rfl⟩
  have k2' : ∀ b o, h1.get? b = some o → h2.get? b = some o := fun b o e => by rw [← hh2]; exact Heap.get?_push_of_some _ e
  have k2 : ∀ b o, s.heap.get? b = some o → h2.get? b = some o := fun b o e => k2' b o (k1 b o e)
  have sz2 : h2.objs.size = s.heap.objs.size + 2 := by rw [← hh2, Heap.size_push, sz1]
  have ltI : ∀ {b : Addr} {o : Obj}, s.heap.get? b = some o → b ∉ [h1.objs.size] := fun {b o} e z => by
    have z : b = h1.objs.size := by simpa using z
    have q := Heap.lt_size e
    rw [z, sz1] at q
    exact absurd q (Nat.not_lt.mpr (Nat.le_succ _))
  have item : ∀ {i : Nat} {v : Value}, (#[.str z1 t1, .str z2 t2, .str z3 t3] : Array Value)[i]? = some v → ∃ z t e, v = .str z t ∧ z.length ≤ 1000000 ∧ fstOf dx dy z e ∧ (i = 0 ∧ z = z1 ∨ i = 1 ∧ z = z2 ∨ i = 2 ∧ z = z3) := fun {i v} e => by
    match i, e with
    | 0, e => cases (show some (Value.str z1 t1) = some v from e); exact ⟨z1, t1, e1, rfl, l1, f1, .inl ⟨rfl, rfl⟩⟩
    | 1, e => cases (show some (Value.str z2 t2) = some v from e); exact ⟨z2, t2, e2, rfl, l2, f2, .inr (.inl ⟨rfl, rfl⟩)⟩
    | 2, e => cases (show some (Value.str z3 t3) = some v from e); exact ⟨z3, t3, e3, rfl, l3, f3, .inr (.inr ⟨rfl, rfl⟩)⟩
    | n + 3, e => simp at e
  have hlL : X.env.locals ∉ [h1.objs.size] := by
    obtain ⟨o, _, _, ho, _⟩ := hns
    exact ltI ho
  refine ⟨h1.objs.size, [h1.objs.size, s.heap.objs.size], [h1.objs.size], 3, _, _, m, rfl, Walks.list (I.ok.hd hc) h1.objs.size s.heap.objs.size hne #[.str z1 t1, .str z2 t2, .str z3 t3], by decide, ⟨hIt, ?_⟩, ?_, hlL, hns.at' fun o e => k2 _ o e, ⟨?_, ?_⟩, ?_⟩
  · obtain ⟨o, ho, q⟩ := hL
    exact ⟨o, k2' _ o ho, q⟩
  · intro b hb
    show b < h2.objs.size
    rw [sz2]
    have hb : b = h1.objs.size ∨ b = s.heap.objs.size := by simpa using hb
    rcases hb with z | z
    · rw [z, sz1]; exact Nat.lt_succ_self _
    · rw [z]; exact Nat.lt_succ_of_lt (Nat.lt_succ_self _)
  · exact fun C i v s3 m3 E' hC hP hn hm hk htk => wpAny_tests_nil ⟨rfl, s3.heap, s3.toks, rfl, fun _ _ e => e⟩
  · intro C i v s3 m3 E' hC hP _ hn hm hk htk
    obtain ⟨z, t, e, rfl, lz, fz, _⟩ := item hP
    have names : (compEnvC sgScope [(("_law_y" : Str), cy), (("_law_x" : Str), cx)] C X.env).scope.names = [(PySem.Str.ofString ".0", .local), (PySem.Str.ofString "_law_part", .local), (PySem.Str.ofString "_law_x", .cell), (PySem.Str.ofString "_law_y", .cell)] := by
      simp [compEnvC, relabel, I.ok.kind, kx, ky]
    have kc : ∀ {c : Addr} {w : Option Value}, s.heap.IsCell c w → s3.heap.IsCell c w := fun {c w} ⟨o, ho, hd⟩ => ⟨o, hk c o (ltI ho) (k2 c o ho), hd⟩
    refine wpAny_mono (elt_tok (X := X) (x := "_law_x") (y := "_law_y") (pt := "_law_part") (cx := cx) (cy := cy) (e := e) (C := C) rfl (by unfold Env.kindOf; rw [names]; rfl) (by unfold Env.kindOf; rw [names]; rfl) (by unfold Env.kindOf; rw [names]; rfl) rfl rfl hn hm lz (kc Tx.cell) (kc Ty.cell) Tx.nz Ty.nz (Nat.lt_of_lt_of_le Tx.lt htk) (Nat.lt_of_lt_of_le Ty.lt htk) fz hl1 hl2) (fun u s4 q => ?_) fun _ _ q => q
    obtain ⟨⟨t', rfl⟩, kp⟩ := q
    refine ⟨⟨z, t, rfl, fun e' fe => ⟨t', ?_⟩⟩, kp⟩
    have q : some e = some e' := fz.symm.trans fe
    cases q
    rfl
  · intro L h' tk ys vs hD hl hpl hlen hP hF hns' hk
    have hD0 : s.heap.get? L = none := by
      cases q : s.heap.get? L with
      | none => rfl
      | some o => rw [k2 _ _ q] at hD; cases hD
    obtain ⟨w1, w2, w3, hv⟩ : ∃ w1 w2 w3, vs = [w1, w2, w3] := by
      match vs, hlen with
      | [a, b, c], _ => exact ⟨a, b, c, rfl⟩
    subst hv
    have p1 := item (hP 0 w1 rfl)
    have p2 := item (hP 1 w2 rfl)
    have p3 := item (hP 2 w3 rfl)
    obtain ⟨a1, s1, _, rfl, _, _, c1⟩ := p1
    obtain ⟨a2, s2, _, rfl, _, _, c2⟩ := p2
    obtain ⟨a3, s3, _, rfl, _, _, c3⟩ := p3
    have c1 : a1 = z1 := by
      rcases c1 with ⟨_, q⟩ | ⟨q, _⟩ | ⟨q, _⟩
      · exact q
      · cases q
      · cases q
    have c2 : a2 = z2 := by
      rcases c2 with ⟨q, _⟩ | ⟨_, q⟩ | ⟨q, _⟩
      · cases q
      · exact q
      · cases q
    have c3 : a3 = z3 := by
      rcases c3 with ⟨q, _⟩ | ⟨q, _⟩ | ⟨_, q⟩
      · cases q
      · cases q
      · exact q
    cases c1
    cases c2
    cases c3
    obtain ⟨yl⟩ := ys
    have hF : Paired (Fo dx dy) [Value.str z1 s1, .str z2 s2, .str z3 s3] yl := hF
    obtain ⟨b1, b2, b3, hy, m1, m2, m3⟩ := paired3 hF
    obtain ⟨t1', q⟩ := m1.inv f1
    obtain ⟨t2', q'⟩ := m2.inv f2
    obtain ⟨t3', q''⟩ := m3.inv f3
    rw [q, q', q''] at hy
    subst hy
    obtain ⟨n, hg⟩ := hpl
    have new : ObjOk X.prog X.w (upd H L (.lst [.str ⟨#[e1]⟩, .str ⟨#[e2]⟩, .str ⟨#[e3]⟩])) h' L (.lst [.str ⟨#[e1]⟩, .str ⟨#[e2]⟩, .str ⟨#[e3]⟩]) :=
      ⟨by show 3 ≤ sizeLine; decide, _, n, .cons ⟨t1', rfl⟩ (.cons ⟨t2', rfl⟩ (.cons ⟨t3', rfl⟩ .nil)), hg⟩
    have J := set_new (tk := tk) I hN hr hrl hloc hD0 hns' (fun b o hb e => hk b o hb (ltI e) (k2 b o e)) new
    exact ⟨_, _, J, h L (I.hok.gone hD0)⟩
def lKn (H : Hp) (us : List V) (G : VK) : Prop := ∀ L, H L = none → G (.ref L) (upd H L (.lst us))
/-- the signs drawn: x, y, the first of each kind that is neither -/
def tSg (sp : Sp) (E : XK) (t5 : TS) : TS := fun D σ H => ∃ (pa : Addr) (z z1 z2 z3 : Str), σ[0]? = some (some (.ref pa)) ∧ σ[1]? = some (some (.str z1)) ∧ σ[2]? = some (some (.str z2)) ∧ σ[3]? = some (some (.str z3)) ∧ σ[4]? = some (some (.str z)) ∧
  z.length ≤ 1000000 ∧ z1.length ≤ 1000000 ∧ z2.length ≤ 1000000 ∧ z3.length ≤ 1000000 ∧
  sp [.ref pa, .int 68] H (fun v H1 => ∃ i dx, v = .int i ∧ 0 ≤ i ∧ i < 2 ^ 63 ∧ i < z.length ∧ z.cps[i.toNat]? = some dx ∧
    sp [.ref pa, .int 67] H1 (fun v H2 => ∃ i dy, v = .int i ∧ 0 ≤ i ∧ i < 2 ^ 63 ∧ i < (Txt.replace z ⟨#[dx]⟩ "").length ∧ (Txt.replace z ⟨#[dx]⟩ "").cps[i.toNat]? = some dy ∧
      ∃ e1 e2 e3, fstOf dx dy z1 e1 ∧ fstOf dx dy z2 e2 ∧ fstOf dx dy z3 e3 ∧
        lKn H2 [.str ⟨#[e1]⟩, .str ⟨#[e2]⟩, .str ⟨#[e3]⟩] fun u H3 => t5 D ((((σ.set 5 (some (.str ⟨#[dx]⟩))).set 4 (some (.str (Txt.replace z ⟨#[dx]⟩ "")))).set 6 (some (.str ⟨#[dy]⟩))).set 7 (some u)) H3) E) E
theorem pss_signs {CX : CXT} {kk : Nat} {f : Addr} {fd : FuncData} {ps : List Str} {sp : Sp} {E : XK} {t5 : TS} {rest : List Stmt} {k0 k1 k2 j1 j2 j3 : Nat} {a0 a1 a2 a3 a4 a5 a6 a7 b0 b1 b2 b3 b4 b5 b6 c0 c1 c2 c3 c4 c5 c6 c7 q1 q2 q3 q4 q5 q6 q7 q8 q9 q10 q11 r1 r2 r3 r4 r5 r6 rp spos : Pos}
    (hc : X.calm = true) (hXN : X.N = (["_law_pool_here", "_law_letters", "_law_odd", "_law_digits", "_law_some", "_law_x", "_law_y", "_law_rest_of", "_law_part"] : List Str)) (hN : X.N.Nodup)
    (F : FnOk X.prog X.w X.K X.mg X.base CX kk f fd ps sp) (hr : Room kk X.A) (hg : Gl X "_law_take") (hm : X.mg "_law_take" = some (.ref f)) (hk : PySem.W.keepIn X.K (.ref f) = true) (hb : Binds X.K fd ps []) (hx : Passes CX X E)
    (v0 : X.env.scope.names.lookup ("_law_pool_here" : Str) = some .local) (v1 : X.env.scope.names.lookup ("_law_letters" : Str) = some .local) (v2 : X.env.scope.names.lookup ("_law_odd" : Str) = some .local) (v3 : X.env.scope.names.lookup ("_law_digits" : Str) = some .local)
    (v4 : X.env.scope.names.lookup ("_law_some" : Str) = some .local) (v5 : X.env.scope.names.lookup ("_law_x" : Str) = some .cell) (v6 : X.env.scope.names.lookup ("_law_y" : Str) = some .cell) (v7 : X.env.scope.names.lookup ("_law_rest_of" : Str) = some .local)
    (f5 : X.fn "_law_x" = true) (f6 : X.fn "_law_y" = true) (hl0 : (b2.endLine == b5.line) = true) (hl1 : (q2.endLine == q5.line) = true) (hl2 : (q6.endLine == q9.line) = true) (hl3 : (rp.line == r6.line) = true) (hR : PSs X rest t5) :
    PSs X (.Assign [.Name "_law_x" a0] (.Subscript (.Name "_law_some" a1) (.Call (.Name "_law_take" a2) [.Name "_law_pool_here" a3, .Constant (.int 68) k0 a4] [] a5) a6) a7 ::
      .Assign [.Name "_law_some" b0] (.Call (.Attribute (.Name "_law_some" b1) "replace" b2) [.Name "_law_x" b3, .Constant (.str "") k1 b4] [] b5) b6 ::
      .Assign [.Name "_law_y" c0] (.Subscript (.Name "_law_some" c1) (.Call (.Name "_law_take" c2) [.Name "_law_pool_here" c3, .Constant (.int 67) k2 c4] [] c5) c6) c7 ::
      .Assign [.Name "_law_rest_of" rp] (.ListComp (.Subscript (.Call (.Attribute (.Call (.Attribute (.Name "_law_part" q1) "replace" q2) [.Name "_law_x" q3, .Constant (.str "") j1 q4] [] q5) "replace" q6) [.Name "_law_y" q7, .Constant (.str "") j2 q8] [] q9) (.Constant (.int 0) j3 q10) q11)
        [⟨.Name "_law_part" r1, .List [.Name "_law_letters" r2, .Name "_law_odd" r3, .Name "_law_digits" r4] r5, [], 0⟩] sgScope r6) spos :: rest) (tSg sp E t5) := by
  refine ⟨fun pins s σ H D I h => ?_⟩
  obtain ⟨pa, z, z1, z2, z3, g0, g1, g2, g3, g4, lz, l1, l2, l3, h⟩ := h
  have n0 : X.N[0]? = some ("_law_pool_here" : Str) := by rw [hXN]; rfl
  have n1 : X.N[1]? = some ("_law_letters" : Str) := by rw [hXN]; rfl
  have n2 : X.N[2]? = some ("_law_odd" : Str) := by rw [hXN]; rfl
  have n3 : X.N[3]? = some ("_law_digits" : Str) := by rw [hXN]; rfl
  have n4 : X.N[4]? = some ("_law_some" : Str) := by rw [hXN]; rfl
  have n5 : X.N[5]? = some ("_law_x" : Str) := by rw [hXN]; rfl
  have n6 : X.N[6]? = some ("_law_y" : Str) := by rw [hXN]; rfl
  have n7 : X.N[7]? = some ("_law_rest_of" : Str) := by rw [hXN]; rfl
  have kx : X.env.kindOf "_law_x" = some .cell := v5
  have ky : X.env.kindOf "_law_y" = some .cell := v6
  obtain ⟨cx, hcx⟩ := I.ok.has "_law_x" (.inl kx)
  obtain ⟨cy, hcy⟩ := I.ok.has "_law_y" (.inl ky)
  have nxy : cx ≠ cy := fun e => absurd (I.ok.inj _ _ _ hcx (e ▸ hcy)) (by decide)
  have lenσ : σ.length = 9 := by rw [I.len, hXN]; rfl
  -- x
  refine wpAny_execs_cons (wpAny_Assign_Name (wpAny_mono (raw_draw I F hr hg hm hk hb hx n4 (.inl v4) g4 n0 (.inl v0) g0 h) (fun u s1 q => ?_) fun _ _ e => e) (by rfl))
  obtain ⟨dx, tx, H1, rfl, nx, lx, I1, h, -, -⟩ := q
  refine wpAny_mono (store_tok I1 hN n5 v5 f5 hcx (v := .str ⟨#[dx]⟩) ⟨tx, rfl⟩) (fun _ s2 q => ?_) fun _ _ e => e
  obtain ⟨I2, cellx, -, le2⟩ := q
  have Tx : Tk X "_law_x" cx ⟨#[dx]⟩ tx s2 := ⟨v5, hcx, cellx, nx, Nat.lt_of_lt_of_le lx le2⟩
  generalize hσ2 : σ.set 5 (some (.str ⟨#[dx]⟩)) = σ2 at I2 h
  have g0' : σ2[0]? = some (some (.ref pa)) := by rw [← hσ2, List.getElem?_set_ne (by decide)]; exact g0
  have g1' : σ2[1]? = some (some (.str z1)) := by rw [← hσ2, List.getElem?_set_ne (by decide)]; exact g1
  have g2' : σ2[2]? = some (some (.str z2)) := by rw [← hσ2, List.getElem?_set_ne (by decide)]; exact g2
  have g3' : σ2[3]? = some (some (.str z3)) := by rw [← hσ2, List.getElem?_set_ne (by decide)]; exact g3
  have g4' : σ2[4]? = some (some (.str z)) := by rw [← hσ2, List.getElem?_set_ne (by decide)]; exact g4
  have len2 : σ2.length = 9 := by rw [← hσ2, List.length_set]; exact lenσ
  -- some
  refine wpAny_execs_cons (wpAny_Assign_Name (raw_repl (X := X) (x := "_law_x") (d := dx) (t := tx) (raw_name n4 (.inl v4) I2 g4' (fun u ru => ?_)) I2.ok.kind kx (hline := hl0)) (by rfl))
  obtain ⟨tz, rfl⟩ := ru
  refine ⟨z, tz, cx, rfl, lz, hcx, Tx.cell, Tx.nz, Tx.lt, fun t' k lek => ?_⟩
  generalize hz' : Txt.replace z ⟨#[dx]⟩ "" = z' at h ⊢
  have far : ∀ {a : Addr}, (a = X.env.locals ∨ X.env.cells.lookup ("_law_some" : Str) = some a) → cx ≠ a := fun {a} ha => by
    rcases ha with e | e
    · rw [e]; exact I2.cne _ _ hcx
    · exact fun z => absurd (I2.ok.inj _ _ _ hcx (z ▸ e)) (by decide)
  refine wpAny_mono (PySem.wpAny_toks (store_ok2 (s := { s2 with toks := k }) (Q := fun _ s3 => Inv X pins (σ2.set 4 (some (.str z'))) H1 s3 ∧ s3.heap.IsCell cx (some (.str ⟨#[dx]⟩ tx))) (v := .str z') (I2.tok k) hN n4 (.inl v4) ⟨t', rfl⟩ (fun s3 I3 q => ⟨I3, ?_⟩) (.inr v4))) (fun _ s3 q => ?_) fun _ _ e => e.2
  · obtain ⟨a, sb, ha⟩ := q
    exact Tx.cell.sameBut sb (far ha)
  obtain ⟨le3, I3, cell3⟩ := q
  have le3 : s2.toks ≤ s3.toks := Nat.le_trans lek le3
  have Tx3 : Tk X "_law_x" cx ⟨#[dx]⟩ tx s3 := ⟨v5, hcx, cell3, nx, Nat.lt_of_lt_of_le Tx.lt le3⟩
  generalize hσ3 : σ2.set 4 (some (.str z')) = σ3 at I3 h
  have g0'' : σ3[0]? = some (some (.ref pa)) := by rw [← hσ3, List.getElem?_set_ne (by decide)]; exact g0'
  have g1'' : σ3[1]? = some (some (.str z1)) := by rw [← hσ3, List.getElem?_set_ne (by decide)]; exact g1'
  have g2'' : σ3[2]? = some (some (.str z2)) := by rw [← hσ3, List.getElem?_set_ne (by decide)]; exact g2'
  have g3'' : σ3[3]? = some (some (.str z3)) := by rw [← hσ3, List.getElem?_set_ne (by decide)]; exact g3'
  have g4'' : σ3[4]? = some (some (.str z')) := by rw [← hσ3, List.getElem?_set_self (by rw [len2]; decide)]
  -- y
  refine wpAny_execs_cons (wpAny_Assign_Name (wpAny_mono (raw_draw I3 F hr hg hm hk hb hx n4 (.inl v4) g4'' n0 (.inl v0) g0'' h) (fun u s4 q => ?_) fun _ _ e => e) (by rfl))
  obtain ⟨dy, ty, H2, rfl, ny, ly, I4, h, kc, le4⟩ := q
  refine wpAny_mono (store_tok I4 hN n6 v6 f6 hcy (v := .str ⟨#[dy]⟩) ⟨ty, rfl⟩) (fun _ s5 q => ?_) fun _ _ e => e
  obtain ⟨I5, celly, sb, le5⟩ := q
  have Ty : Tk X "_law_y" cy ⟨#[dy]⟩ ty s5 := ⟨v6, hcy, celly, ny, Nat.lt_of_lt_of_le ly le5⟩
  have Tx5 : Tk X "_law_x" cx ⟨#[dx]⟩ tx s5 := ⟨v5, hcx, (kc _ _ (I3.freeC _ _ hcx) cell3).sameBut sb nxy, nx, Nat.lt_of_lt_of_le Tx3.lt (Nat.le_trans le4 le5)⟩
  obtain ⟨e1, e2, e3, w1, w2, w3, h⟩ := h
  generalize hσ5 : σ3.set 6 (some (.str ⟨#[dy]⟩)) = σ5 at I5 h
  have m1 : σ5[1]? = some (some (.str z1)) := by rw [← hσ5, List.getElem?_set_ne (by decide)]; exact g1''
  have m2 : σ5[2]? = some (some (.str z2)) := by rw [← hσ5, List.getElem?_set_ne (by decide)]; exact g2''
  have m3 : σ5[3]? = some (some (.str z3)) := by rw [← hσ5, List.getElem?_set_ne (by decide)]; exact g3''
  -- the first of each kind
  refine wpAny_execs_cons (wpAny_mono (comp_tok (D := { D with nx := t5 D }) hc hN I5 Tx5 Ty n1 n2 n3 (.inl v1) (.inl v2) (.inl v3) m1 m2 m3 l1 l2 l3 w1 w2 w3 n7 v7 (sw_true I5.ok.kind v7 hl3 (by rfl)) hl1 hl2 h) (fun f s' q => ?_) fun _ _ e => e)
  cases f with
  | next =>
    obtain ⟨σ', H', I', q⟩ := q
    exact hR.run pins s' σ' H' D I' q
  | ret v => exact q
  | brk => exact q
  | cont => exact q
end
end L2
namespace Gl
open PySem PySem.Spec PyProof.Rows L2
theorem rd_lKn {α : Type} {A : R α} {K : PySem.W.Frag} {F H : Hp} {G : VK} {us : List V} {xs : List α} (row : Row A K F us xs) (k : nL A K F G H xs) : lKn H us G := fun L h => k L us h row
/-- the number of the sign at i -/
def sgIx (z : Str) (i : Int) : Option Nat := if 0 ≤ i ∧ i < 2 ^ 63 ∧ i < z.length then z.cps[i.toNat]? else none
theorem sgIx_some {z : Str} {i : Int} {c : Nat} (h : sgIx z i = some c) : 0 ≤ i ∧ i < 2 ^ 63 ∧ i < z.length ∧ z.cps[i.toNat]? = some c := by
  unfold sgIx at h
  split at h
  · rename_i q
    exact ⟨q.1, q.2.1, q.2.2, h⟩
  · cases h
def cut1 (z : Str) (d : Nat) : Str := Txt.replace z ⟨#[d]⟩ ""
def fstN (dx dy : Nat) (z : Str) : Option Nat := (cut1 (cut1 z dx) dy).cps[0]?
section
variable {N B C : L2.St → Hp → Prop} {R : VK} {σ : L2.St} {H : Hp} {i j : Nat} {ta : TA} {v w : V}
theorem rd_par (k : ta σ H fun vs H1 => ∃ v w, vs = [v, w] ∧ N ((σ.set i (some v)).set j (some w)) H1) : tPar i j ta { nx := N, rt := R, bk := B, ct := C } σ H := k
theorem rd_par2 (k : N ((σ.set i (some v)).set j (some w)) H) : ∃ v' w', [v, w] = [v', w'] ∧ N ((σ.set i (some v')).set j (some w')) H := ⟨v, w, rfl, k⟩
end
end Gl

namespace Gl
open PySem PySem.Spec PyProof.Rows L2

/-! ## sorted(d), the keys tuples -/
section
variable {prog : Program} {w : World} {A : Around} {E : Value → Shared → Prop} {s : Shared} {d : Addr} {es : Array DictEntry} {ep : Nat}
theorem sorted_raw {Q : Value → Shared → Prop} (lo : (d == sysModules) = false) (hh : A.handled = none) (hok : s.heap.DictRaw d es ep) (hn : es.size ≤ sizeLine)
    (h : ∀ (h' : Heap) (tk : Nat) (vs : List Value), (∀ b o, s.heap.get? b = some o → h'.get? b = some o) → vs.length = es.size → (∀ (j : Nat) (v : Value), vs[j]? = some v → ∃ hi : j < es.size, v = es[j].key) →
      wpAny (model prog w) A.in1 (call (.builtin "list.sort") [.ref h'.objs.size]) (fun _ s' => Q (.ref h'.objs.size) s') E { s with heap := h'.push { cls := .type "list", data := .seq vs.toArray }, toks := tk }) :
    wpAny (model prog w) A (call (.builtin "sorted") [.ref d]) Q E s := by
  refine PySem.Calls.call_function_entry PyProof.Rows.kind_sorted PyProof.Rows.plain_sorted PyProof.Rows.entry_sorted (PyProof.Rows.args_sorted1 _) ?_
  unfold Builtin.«sorted»
  refine wpAny_bind (m := checkCount "sorted" 1 1 _) (wpAny_pure ?_)
  refine wpAny_bind (PySem.W.kdu_collect (A := A.in1) (PySem.KdlSrc.rawDict lo) hh hok hn fun h' tk acc hk hacc => ?_)
  have hl : acc.toList.length = es.size := by rw [Array.length_toList]; exact hacc.1
  refine wpAny_bind (wpAny_newList ?_ (by rw [hl]; exact hn))
  have hg := h h' tk acc.toList hk hl (fun j v e => hacc.2 j v (by rw [← Array.getElem?_toList]; exact e))
  refine wpAny_bind (wpAny_holding (wpAny_mono hg (fun _ s' x => ?_) fun _ _ e => e))
  exact wpAny_pure ⟨_, rfl, x⟩
end
/-! ## data that are tuples, some of them empty, can be sorted -/
section
variable {prog : Program} {w : World} {A : Around} {E : Value → Shared → Prop} {s : Shared}
/-- a tuple with an item -/
def neT : PyData → Bool
  | .tuple (_ :: _) => true
  | _ => false
theorem neT_ex {d : PyData} (h : neT d = true) : ∃ x r, d = .tuple (x :: r) := by
  unfold neT at h
  split at h
  · exact ⟨_, _, rfl⟩
  · cases h
theorem firsts_of {M : Model} : ∀ {vs : List Value} {ds : List PyData} {Q : List (Option Value) → Shared → Prop}, PySem.W.EachIs (fun v d => ∃ as, Reads s.heap v d as) vs ds → (∀ d ∈ ds, ∃ xs, d = .tuple xs) →
    (∀ fs : List (Option Value), fs.map (·.isSome) = ds.map neT → Q fs s) → wpAny M A (vs.mapM firstOfTuple') Q E s
  | _, _, Q, .nil, _, k => by rw [List.mapM_nil]; exact wpAny_pure (k [] rfl)
  | _, _, Q, @PySem.W.EachIs.cons _ _ _ v d vs ds ⟨as, r⟩ t, hd, k => by
    obtain ⟨xs, rfl⟩ := hd d List.mem_cons_self
    cases r with
    | @tuple a o its n _ _ h1 h2 h3 h4 =>
      rw [List.mapM_cons]
      refine wpAny_bind ?_
      rw [PySem.W.kas_first_eq]
      refine wpAny_bind (PySem.W.Looks.here (show PySem.W.Looks M s.heap (typeOf (.ref a)) o.cls from (PySem.W.Looks.ld h1).andThen .now) ?_)
      rw [h2, if_neg (by decide)]
      refine wpAny_bind (listItems_at h1 h3 (wpAny_pure ?_))
      refine wpAny_bind (firsts_of t (fun e he => hd e (List.mem_cons_of_mem _ he)) fun fs hfs => wpAny_pure (k _ ?_))
      rw [List.map_cons, List.map_cons, hfs]
      congr 1
      cases xs with
      | nil =>
        have h0 : its.toList = [] := by cases e : its.toList with
          | nil => rfl
          | cons f fr => rw [e] at h4; cases h4
        have hz : its[0]? = none := by rw [← Array.getElem?_toList, h0]; rfl
        rw [hz]; rfl
      | cons x xr =>
        cases e : its.toList with
        | nil => rw [e] at h4; cases h4
        | cons f fr =>
          have hz : its[0]? = some f := by rw [← Array.getElem?_toList, e]; rfl
          rw [hz]; rfl
theorem call_tupLt {Q : Value → Shared → Prop} {l b : Addr} {its its2 : Array Value} {e r : Nat → Bool} (hl : s.heap.IsTuple l its) (hb : s.heap.IsTuple b its2)
    (he : ∀ j (h1 : j < its.size) (h2 : j < its2.size), SeqAt.EqAt A.in1 s its[j] its2[j] (e j)) (hr : ∀ j (h1 : j < its.size) (h2 : j < its2.size), e j = false → SeqAt.RcLt A.in1 s its[j] its2[j] (r j))
    (h : Q (.bool (SeqAt.firstLt e r (decide (its.size < its2.size)) (List.range (min its.size its2.size)))) s) : wpAny (model prog w) A (call (.builtin "tuple.__lt__") [.ref l, .ref b]) Q E s := by
  obtain ⟨⟨cls, dd, data, sl⟩, ho, hc, n, hd⟩ := id hl
  obtain ⟨⟨cls2, dd2, data2, sl2⟩, ho2, hc2, n2, hd2⟩ := id hb
  simp only at hc hd hc2 hd2
  subst hc hd hc2 hd2
  exact call_meets PySem.F.slot_tuple_lt ⟨_, ho, rfl⟩ PySem.F.entry_tuple_lt (PySem.F.args_tuple_lt_2 _ _) (SeqAt.tuple_ltAt l b its its2 n n2 dd dd2 sl sl2 e r) ⟨ho, ho2, he, hr, h⟩
theorem oneLt_tup {xs ys : List PyData} {a b : Value} {as bs : List Addr} {Q : Bool → Shared → Prop} (ra : Reads s.heap a (.tuple xs) as) (rb : Reads s.heap b (.tuple ys) bs) (h : PySem.W.alikeAll xs ys = true)
    (hu : A.units + min (PyData.tuple xs).depth (PyData.tuple ys).depth < cLine) (hq : Q (PySem.W.dataLt (.tuple xs) (.tuple ys)) s) : wpAny (model prog w) A (oneLt' true a b) Q E s := by
  cases ra with
  | @tuple l o vs n _ as₁ h1 h2 h3 h4 =>
    cases rb with
    | @tuple l' o' vs' n' _ bs₁ k1 k2 k3 k4 =>
      have n1 : vs.size = xs.length := by simpa using SeqAt.ReadsAll.length _ _ _ h4
      have n2 : vs'.size = ys.length := by simpa using SeqAt.ReadsAll.length _ _ _ k4
      rw [PySem.W.dataLt_tuple, ← PySem.W.firstLt_toks xs ys h, ← n1, ← n2] at hq
      rw [oneLt'_eq]
      simp only [if_true]
      refine wpAny_bind (wpAny_cRoomFor (SeqAt.room_here hu) ?_)
      refine wpAny_bind (wpAny_callSpecialIfBound?_slot (T := "tuple") ⟨_, h1, h2⟩ PySem.F.slot_tuple_lt (call_tupLt (e := SeqAt.pairEq xs ys) (r := fun j => PySem.W.dataLt (xs.getD j .none) (ys.getD j .none)) ⟨_, h1, h2, _, h3⟩ ⟨_, k1, k2, _, k3⟩ (fun j j1 j2 => ?_) (fun j j1 j2 hj => ?_) ?_))
      · have := PySem.W.eqAt_alikeAll xs ys A.in1 s vs.toList vs'.toList _ _ h4 k4 h (SeqAt.room_in hu) j (by simpa using j1) (by simpa using j2)
        simpa using this
      · have := PySem.W.rcLt_alikeAll xs ys A.in1 s vs.toList vs'.toList _ _ h4 k4 h (SeqAt.room_in hu) j (by simpa using j1) (by simpa using j2) hj
        simpa using this
      · exact wpAny_truthy_bool hq
open PySem.W in
theorem sortsAt_tups {vs : List Value} {ds : List PyData} (e : EachIs (fun v d => ∃ as, Reads s.heap v d as) vs ds) (hal : AllAlike ds) (ht : ∀ d ∈ ds, ∃ xs, d = .tuple xs) (hu : ∀ d, d ∈ ds → A.units + d.depth < cLine) : SortsAt prog w A s (dataKind s.heap ds) vs := by
  by_cases hall : ∀ d ∈ ds, neT d = true
  · exact SortsAt.data e hal (.inl fun d hd => neT_ex (hall d hd)) hu
  have room : ∀ {d d' : PyData}, d ∈ ds → A.units + min d.depth d'.depth < cLine := fun {d d'} hd => Nat.lt_of_le_of_lt (Nat.add_le_add_left (Nat.min_le_left _ _) _) (hu d hd)
  refine ⟨fun v hv => ?_, ?_⟩
  · obtain ⟨d, hd, as, r⟩ := e.left v hv
    exact ⟨_, dataKind_some hal hd r⟩
  cases ds with
  | nil => exact absurd (fun d hd => nomatch hd) hall
  | cons d0 ds' =>
    refine ⟨if neT d0 = true then general' else oneType', ?_, fun h2 E' Q hq => ?_⟩
    · intro E' x y a b Q ha hb hq
      obtain ⟨d, as, hd, ra, rfl⟩ := dataKind_inv ha
      obtain ⟨d', as', hd', rb, rfl⟩ := dataKind_inv hb
      obtain ⟨xs, rfl⟩ := ht d hd
      obtain ⟨ys, rfl⟩ := ht d' hd'
      have hdd := hal _ hd _ hd'
      by_cases h0 : neT d0 = true
      · rw [if_pos h0]
        show wpAny (model prog w) A (oneLt' false x y) Q E' s
        exact oneLt_alike (fun z => nomatch z) ra rb hdd (fun z => nomatch z) (room (d' := .tuple ys) hd) hq
      · rw [if_neg h0]
        rw [keyLt'_oneType]
        exact oneLt_tup ra rb (by simpa [alike] using hdd) (room (d' := .tuple ys) hd) hq
    · rw [keyKind'_eq, List.mapM_toArray, map_eq_pure_bind]
      refine wpAny_bind (wpAny_bind (firsts_of e ht fun fs hfs => wpAny_pure ?_))
      have n1 : (fs.toArray.all fun x => x.isSome) = false := by
        rw [List.all_toArray, Bool.eq_false_iff]
        intro z
        refine hall fun d hd => ?_
        have z2 : ∀ b ∈ fs.map (·.isSome), b = true := fun b hb => by
          obtain ⟨f, hf, rfl⟩ := List.mem_map.mp hb
          exact List.all_eq_true.mp z f hf
        rw [hfs] at z2
        exact z2 _ (List.mem_map_of_mem hd)
      rw [if_neg (by rw [n1]; decide)]
      cases fs with
      | nil => cases hfs
      | cons f fr =>
        rw [List.map_cons, List.map_cons] at hfs
        have hf : f.isSome = neT d0 := (List.cons.inj hfs).1
        have h0 : ((f :: fr).toArray[0]?.bind id).isSome = neT d0 := by rw [← hf]; simp
        by_cases hne : neT d0 = true
        · rw [if_pos hne] at hq
          rw [if_pos (by rw [h0]; exact hne)]
          exact wpAny_pure hq
        · rw [if_neg hne] at hq
          rw [if_neg (by rw [h0]; exact hne), oneTypeOnly'_eq, List.mapM_toArray, map_eq_pure_bind]
          have hT : ∀ v ∈ vs, ∀ (Q' : Value → Shared → Prop), Q' (Value.type "tuple") s → wpAny (model prog w) A (typeOf v) Q' E' s := fun v hv Q' hq' => by
            obtain ⟨d, hd, as, r⟩ := e.left v hv
            obtain ⟨xs, rfl⟩ := ht d hd
            exact (looks_reads r).here hq'
          refine wpAny_bind (wpAny_bind (wpAny_bind (kas_mapM (r := Value.type "tuple") vs hT (wpAny_pure ?_))))
          obtain ⟨v, vr, rfl⟩ : ∃ v vr, vs = v :: vr := by
            cases vs with
            | nil => exact absurd h2 (by decide)
            | cons v vr => exact ⟨v, vr, rfl⟩
          have hAll : ((List.map (fun _ => Value.type "tuple") (v :: vr)).toArray.all fun x => x == Value.type "tuple") = true := by
            simp only [List.all_toArray, List.all_map, List.all_eq_true]
            intro _ _
            exact beq_self_eq_true _
          have hG : (List.map (fun _ => Value.type "tuple") (v :: vr)).toArray[0]? = some (Value.type "tuple") := by simp
          rw [hG]
          dsimp only
          rw [if_pos hAll]
          exact wpAny_pure (wpAny_pure hq)
/-- data of one kind that can be sorted -/
def Srt2 (ds : List PyData) : Prop := PySem.W.Sortable ds ∨ ∀ d ∈ ds, ∃ xs, d = .tuple xs
open PySem.W in
theorem sortsAt_2 {vs : List Value} {ds : List PyData} (e : EachIs (fun v d => ∃ as, Reads s.heap v d as) vs ds) (hal : AllAlike ds) (hk : Srt2 ds) (hu : ∀ d, d ∈ ds → A.units + d.depth < cLine) : SortsAt prog w A s (dataKind s.heap ds) vs :=
  hk.elim (fun h => SortsAt.data e hal h hu) fun h => sortsAt_tups e hal h hu
open PySem.W in
theorem sort_data2 {β : Type} {vs : List Value} {bs : List β} {enc : β → PyData} {R : Value → β → Prop} {a : Addr} {n : Nat} {Q : Value → Shared → Prop} (ho : s.heap.get? a = some (seqObj "list" vs.toArray n)) (hR : EachIs R vs bs) (hD : EachIs (fun v b => ∃ as, Reads s.heap v (enc b) as ∧ a ∉ as) vs bs) (hal : AllAlike (bs.map enc)) (hk : Srt2 (bs.map enc)) (hL : bs.length ≤ sizeLine)
    (hu : ∀ b, b ∈ bs → A.units + 1 + (enc b).depth < cLine) (h : ∀ out, out.length = bs.length → EachIs R out (bs.mergeSort (dataLe false enc)) → Q .none { s with heap := sortedHeap s.heap a vs (List.toArray out) }) :
    wpAny (model prog w) A (call (.builtin "list.sort") [.ref a]) Q E s := by
  have hD2 := each_keepBut (h' := sortingHeap s.heap a vs) (fun _ _ hb q => sortingHeap_old hb q) (fun o q => by rw [ho] at q; rw [← Option.some.inj q]) hal hD
  have hS : SortsAt prog w A.in1 { s with heap := sortingHeap s.heap a vs } (dataKind (sortingHeap s.heap a vs) (bs.map enc)) vs :=
    sortsAt_2 (s := { s with heap := sortingHeap s.heap a vs }) (each_map (R := fun v d => ∃ as, Reads (sortingHeap s.heap a vs) v d as) enc hD2) hal hk (bound_map hu)
  refine wpAny_call_entry slot_list_sort ⟨_, ho, rfl⟩ entry_list_sort (list_sort_vals ho hS (by rw [hR.length]; exact hL) ⟨.none, rfl, h _ ?_ (sortVals_data false hR hD2 hal)⟩) (args_list_sort _)
  rw [sortVals_length false rfl]; exact hR.length
end
/-- what can be sorted, empty tuples too -/
class Ordt {α : Type} {A : R α} (D : Dat A) extends Ord1 D where
  srt : ∀ bs : List α, Srt2 (bs.map D.d)
instance otO {α : Type} {A : R α} {D : Dat A} [o : Ordd D] : Ordt D where
  toOrd1 := o.toOrd1
  srt := fun bs => .inl (o.srt bs)
instance otT {α : Type} {A : R α} {D : Dat A} [o : Ord1 D] : Ordt (dT D) where
  toOrd1 := inferInstance
  srt := fun bs => .inr fun d hd => by
    obtain ⟨b, hb, rfl⟩ := List.mem_map.mp hd
    exact ⟨_, rfl⟩
def rSortNDV (P : Program) (w : World) (K : PySem.W.Frag) : List V → Hp → VK → Prop := fun vs H Q => ∃ (a : Addr) (kvs : List (NestedKey × Addr × V)) (β : Type) (enc : β → PyData) (bs : List β) (rel : NestedKey × Addr × V → β → Prop), vs = [.ref a] ∧ H a = some (ndvO P w a kvs) ∧ Paired rel kvs bs ∧
  (∀ x b, rel x b → Dp K H (.ref x.2.1) (enc b)) ∧ (∀ b b', PySem.W.alike (enc b) (enc b') = true) ∧ Srt2 (bs.map enc) ∧ (∀ b ∈ bs, (enc b).depth ≤ 16) ∧
  ∀ us q, Paired (fun u b => ∃ x, u = V.ref x.2.1 ∧ rel x b) us (bs.mergeSort (PySem.W.dataLe false enc)) → H q = none → Q (.ref q) (upd H q (.lst us))
theorem each_vs {β : Type} {rel : NestedKey × Addr × V → β → Prop} : ∀ {out : List Value} {bs : List β},
    PySem.W.EachIs (fun v b => ∃ x : NestedKey × Addr × V, v = Value.ref x.2.1 ∧ rel x b) out bs → ∃ us, Vals us out ∧ Paired (fun u b => ∃ x, u = V.ref x.2.1 ∧ rel x b) us bs
  | _, _, .nil => ⟨[], .nil, .nil⟩
  | _, _, .cons ⟨x, e, h⟩ t => by
    obtain ⟨us, h3, h4⟩ := each_vs t
    exact ⟨.ref x.2.1 :: us, .cons e h3, .cons ⟨x, rfl, h⟩ h4⟩
theorem cr_sortNDV {X : Cx} (hc : X.calm = true) (hu : X.A.units + 64 < cLine) : CallR X (.builtin "sorted") (rSortNDV X.prog X.w X.K) := by
  intro pins s σ H xs us Q I r h
  obtain ⟨a, kvs, β, enc, bs, rel, rfl, ha, hrel, hdp, hal, hso, hdep, q⟩ := h
  obtain rfl := Vals.ref1 r
  obtain ⟨o, es, ep, xs', ho, hx, hdat, hes, hkr, hd, hn, hz⟩ := ndvO_at I.hok ha
  have l1 : kvs.length = xs'.length := Paired.length hkr
  have l2 : es.size = xs'.length := size_of_entries hes
  have hh : X.A.handled = none := I.ok.hd hc
  have lb : bs.length = kvs.length := (pLen hrel).symm
  refine sorted_raw (es := es) (ep := ep) hd hh ⟨o, ho, hx, hdat⟩ (by omega) fun h' tk vs hk hl hv => ?_
  have hob : (h'.push { cls := .type "list", data := .seq vs.toArray }).get? h'.objs.size = some (seqObj "list" vs.toArray 0) := Heap.get?_push_size _ rfl
  have kb : ∀ b o, s.heap.get? b = some o → (h'.push { cls := .type "list", data := .seq vs.toArray }).get? b = some o := fun b o e => Heap.get?_push_of_some _ (hk b o e)
  have ne0 : ∀ b o, s.heap.get? b = some o → b ≠ h'.objs.size := fun b o e => Nat.ne_of_lt (Heap.lt_size (hk b o e))
  have hno : s.heap.get? h'.objs.size = none := by
    cases e : s.heap.get? h'.objs.size with
    | none => rfl
    | some ob => exact absurd (Heap.lt_size (hk _ _ e)) (Nat.lt_irrefl _)
  have hNo : H h'.objs.size = none := (HOk.kept I.hok hk).fresh (Nat.le_refl _)
  generalize hh2 : h'.push { cls := .type "list", data := .seq vs.toArray } = h2 at hob kb ⊢
  have E : PySem.W.EachIs (fun v b => ∃ x : NestedKey × Addr × V, v = Value.ref x.2.1 ∧ rel x b) vs bs := by
    refine each_idx (by omega) fun j v b hv' hb => ?_
    obtain ⟨hi, e⟩ := hv j v hv'
    obtain ⟨x2, hx2, hr⟩ := DX.pget hrel hb
    have hen := entry_at hes j
    have h3 : es[j]? = some es[j] := Array.getElem?_eq_getElem hi
    rw [h3] at hen
    cases hxj : xs'[j]? with
    | none => rw [hxj] at hen; cases hen
    | some y =>
      rw [hxj] at hen
      have een : es[j] = entryOfKey (nestedKind X.prog X.w) y := Option.some.inj hen
      obtain ⟨x, hx1, r1, r2, r3⟩ := DX.pget hkr hxj
      obtain rfl : x2 = x := Option.some.inj (hx2.symm.trans hx1)
      refine ⟨x2, ?_, hr⟩
      rw [e, een, r2]
      rfl
  refine sort_data2 (s := { s with heap := h2, toks := tk }) (vs := vs) (enc := enc) hob E (E.mono fun v b ⟨x, ev, hr⟩ => ?_) (PySem.W.AllAlike.of hal) hso (by omega) (fun b hb => by have := hdep b hb; show X.A.units + 1 + 1 + _ < cLine; omega) fun out ho eo => ?_
  · show EP X pins σ Q (.ref h'.objs.size) { s with heap := sortedHeap h2 h'.objs.size vs (List.toArray out), toks := tk }
    obtain ⟨us, rv, pu⟩ := each_vs eo
    have kF : ∀ b o, b ≠ h'.objs.size → h2.get? b = some o → (sortedHeap h2 h'.objs.size vs (List.toArray out)).get? b = some o := fun b o hb e => (PyProof.Rows.sortedHeap_old hb (Heap.lt_size e)).trans e
    have kS : ∀ b o, s.heap.get? b = some o → (sortedHeap h2 h'.objs.size vs (List.toArray out)).get? b = some o := fun b o e => kF b o (ne0 _ _ e) (kb b o e)
    obtain ⟨eF, heF⟩ := PyProof.Rows.sortedHeap_at (vs := vs) (out := List.toArray out) hob
    have hlen : us.length ≤ sizeLine := by
      have e := pLen pu
      rw [List.length_mergeSort] at e
      omega
    exact ⟨.ref h'.objs.size, upd H h'.objs.size (.lst us), I.laidN (t' := tk) kS hno hNo ⟨hlen, out, eF, rv, heF⟩, rfl, q us _ pu hNo⟩
  · subst ev
    obtain ⟨as1, q1⟩ := Dp.reads I _ _ (Value.ref x.2.1) (hdp x b hr) rfl
    exact ⟨as1, PyProof.Rows.Reads.keeps kb q1, fun hm => Nat.lt_irrefl _ (reads_lt (PyProof.Rows.Reads.keeps hk q1) _ hm)⟩
section
variable {K : PySem.W.Frag} {P : Addr → Prop} {F0 H0 F H F' : Hp} {v y : V} {Q : VK} {α β : Type} {A : R α} {B : R β} {D : Kd A} {xs : List (α × β)} {p : Addr} {kvs : List (NestedKey × Addr × V)} {Pg : Program} {w : World}
theorem rd_sortNDV {DA : Dat A} (o : Ordt DA) (S : Sx P F0 H0 F H) (ow : Ow P H0 F H p (ndvO Pg w p kvs)) (row : KVRow D B K F kvs xs) (hn : Nat.ble o.n 16 = true) (k : nL A K F Q H (srtD DA (xs.map (·.1)))) : rSortNDV Pg w K [.ref p] H Q := by
  refine ⟨p, kvs, α, DA.d, xs.map (·.1), fun x a => A.r K F (.ref x.2.1) a, rfl, ow.at_, ?_, fun x b r => Dp.mono S.sub (DA.dp r), o.al, o.srt _, fun b _ => Nat.le_trans (o.dep b) (Nat.le_of_ble_eq_true hn), fun us q hp hq => k q us hq ?_⟩
  · have z : ∀ {kvs : List (NestedKey × Addr × V)} {xs : List (α × β)}, KVRow D B K F kvs xs → Paired (fun (x : NestedKey × Addr × V) a => A.r K F (.ref x.2.1) a) kvs (xs.map (·.1)) := by
      intro kvs xs h
      unfold KVRow at h
      induction h with
      | nil => exact .nil
      | cons r t ih => exact .cons r.2.1 ih
    exact z row
  · exact Paired.mapP hp fun _ _ ⟨x, e, r⟩ => e ▸ r
end
theorem pe_getNDVK {X : Cx} {P : Program} {w : World} {K : PySem.W.Frag} {o i : Expr} {td ty : TE} {pos : Pos} (hr : X.A.units + 64 < cLine) (ho : PE X o td) (hi : PE X i ty) (hs : NoSl i) (hP : X.prog = P := by rfl) (hw : X.w = w := by rfl) (hK : X.K = K := by rfl) : PE X (.Subscript o i pos) (tOp (rGetNDV P w K) td ty) := by
  subst hP hw hK; exact pe_getNDV hr ho hi hs
theorem rd_getNDVa {K : PySem.W.Frag} {P P2 : Addr → Prop} {F0 H0 G0 F H : Hp} {v : V} {Q : VK} {α β : Type} {A : R α} {B : R β} {D : Kd A} {xs : List (α × β)} {a : α} {b : β} {p : Addr} {kvs : List (NestedKey × Addr × V)} {Pg : Program} {w : World} [DecidableEq α] (S : Sx P F0 H0 F H) (o : Ow P2 G0 F H p (ndvO Pg w p kvs)) (row : KVRow D B K F kvs xs) (r : A.r K F v a) (hq : ∃ q, v = .ref q) (h : getKV a xs = some b) (k : ∀ u, B.r K F u b → Q u H) : rGetNDV Pg w K (.ref p) v H Q := by
  obtain ⟨q, rfl⟩ := hq
  obtain ⟨q2, u, h1, h2⟩ := row.get h
  exact ⟨p, kvs, D.k a, q, q2, u, rfl, rfl, o.at_, row.ok S.sub, NKv.mono S.sub (D.is r), D.dep a, h1, k u h2⟩
/-! ## str(o), len(o), o of a class of the program's own -/
section
variable {X : Cx} {CX : CXT} {k : Nat} {C f : Addr} {fd : FuncData} {ps : List Str} {sp : Sp} {E : XK}
/-- run_fn two places deeper -/
theorem run_fn2 {pins : List (Addr × Obj)} {σ : L2.St} {H : Hp} {s : Shared} {Q : VK} {us : List Value} {vs : List V} (F : FnOk X.prog X.w X.K X.mg X.base CX k f fd ps sp) (hr : Room (k + 2) X.A) (hb : Binds X.K fd ps []) (hx : Passes CX X E)
    (I : Inv X pins σ H s) (r : Vals vs us) (h : sp vs H Q E) : wpAny (model X.prog X.w) X.A.in1.in1 (call (.ref f) us) (EP X pins σ Q) X.xe s := by
  have hl : (us ++ []).length = ps.length := by rw [List.append_nil, ← r.length]; exact F.len _ _ _ _ h
  have hb' := hb s us I.kIn hl
  rw [List.append_nil] at hb'
  refine wpAny_call (codeAny_mono (F.run X.A.in1.in1 X.stack s H ⟨us, []⟩ us vs Q E hr.in1.in1 I.env0.in1.in1 hb' r h) fun r s' hq => ?_)
  cases r with
  | error e => exact hx pins σ H s e s' I hq
  | ok fl =>
    cases fl with
    | ret u => exact I.after hq
    | next => exact False.elim hq
    | brk => exact False.elim hq
    | cont => exact False.elim hq
end
def stK (Q : VK) : VK := fun v H2 => ∃ t, v = .str t ∧ Q (.str t) H2
def rStrW (P : Program) (w : World) (K : PySem.W.Frag) (mg : Str → Option Value) (base : Heap) (k : Nat) : List V → Hp → VK → Prop := fun xs H Q => ∃ (a dx : Addr) (fs : List (Str × V)) (C f : Addr) (sp : Sp) (j : Nat) (fd : FuncData) (ps : List Str), xs = [.ref a] ∧ H a = some (.ins C dx fs) ∧
  Meth K C "__str__" f ∧ FnOk P w K mg base CX0 j f fd ps sp ∧ j ≤ k ∧ Binds K fd ps [] ∧ sp [.ref a] H (stK Q) E0
theorem cr_strW {X : Cx} {k : Nat} (hr : Room (k + 2) X.A) : CallR X (.type "str") (rStrW X.prog X.w X.K X.mg X.base k) := by
  intro pins s σ H xs us Q I r h
  obtain ⟨a, dx, fs, C, f, sp, j, fd, ps, rfl, e, hm, F, hj, hb, h⟩ := h
  obtain rfl := Vals.ref1 r
  obtain ⟨ox, od, J, _⟩ := StX.insC_at I (.inr ⟨dx, fs, e⟩)
  refine PySem.W.kso_call (by have := hr.un; show X.A.units + 1 + 1 < cLine; omega) I.kIn J hm.at_ hm.fn ?_
  have z := run_fn2 (X := X) (us := [.ref a]) (vs := [.ref a]) F (hr.mono (by omega)) hb pass0 I (.cons rfl .nil) (Q := stK Q) h
  refine wpAny_mono z (fun v s' hv => ?_) fun _ _ z => z
  obtain ⟨x, H', I', rx, t, ex, q⟩ := hv
  subst ex
  obtain ⟨tk, rfl⟩ := rx
  exact ⟨.str t, H', I', ⟨tk, rfl⟩, q⟩
theorem rd_stK {Q : VK} {t : Str} {H : Hp} (k : Q (.str t) H) : stK Q (.str t) H := ⟨t, rfl, k⟩
theorem VM.strW {P : Program} {w : World} {K : PySem.W.Frag} {mg : Str → Option Value} {base : Heap} {k : Nat} {ps : List Str} {sp : Str → Sp} {F H F0 H0 : Hp} {P' : Addr → Prop} {v : V} {a : Pat} {Q : VK} (V : VM P w K mg base k "__str__" ps sp) (S : Sx P' F0 H0 F H) (r : qPat.r K F v a)
    (kt : sp a.cls [v] H (stK Q) E0) : rStrW P w K mg base k [v] H Q := by
  obtain ⟨p, dx, fs, rfl, h2, h3⟩ := qPat_ins r S.sub
  obtain ⟨c, me, F, b⟩ := V.go a.cls a.isC
  exact ⟨p, dx, fs, _, _, sp a.cls, k, _, ps, rfl, h2, me, F, Nat.le_refl _, b, kt⟩
/-! ## f-strings of texts -/
section
variable {t te : TE} {ts : List TE} {acc y : Str} {σ : L2.St} {H : Hp} {R : Str → Hp → Prop} {Q : VK}
def jsK (ts : List TE) (acc : Str) (σ : L2.St) (R : Str → Hp → Prop) : VK := fun x H1 => ∃ y : Str, x = .str y ∧ (acc ++ y).length ≤ sizeLine ∧ tJs ts (acc ++ y) σ H1 R
theorem rd_js (k : t σ H (jsK ts acc σ R)) : tJs (t :: ts) acc σ H R := k
theorem js_at (h : (acc ++ y).length ≤ sizeLine) (k : tJs ts (acc ++ y) σ H R) : jsK ts acc σ R (.str y) H := ⟨y, rfl, h, k⟩
theorem rd_js0 (k : R acc H) : tJs [] acc σ H R := k
def fmK (Q : VK) : VK := fun x H1 => (∃ y : Str, x = .str y ∧ y.length ≤ sizeLine ∧ Q (.str y) H1) ∨ ∃ i : Int, x = .int i ∧ i.natAbs.log2 < 1920 ∧ Q (.str (toString i)) H1
theorem rd_fm (k : te σ H (fmK Q)) : tFmt te σ H Q := k
theorem fm_at (h : y.length ≤ sizeLine) (k : Q (.str y) H) : fmK Q (.str y) H := .inl ⟨y, rfl, h, k⟩
end
/-! ## the text of a pattern -/
def joinP (m x y : Str) : Str := Str.empty ++ ("(" : Str) ++ x ++ m ++ y ++ (")" : Str)
def joinPok (m x y : Str) : Bool := decide (x.length ≤ sizeLine) && decide (y.length ≤ sizeLine) && decide ((joinP m x y).length ≤ sizeLine)
theorem joinPok_len {m x y : Str} (h : joinPok m x y = true) : x.length ≤ sizeLine ∧ y.length ≤ sizeLine ∧ (Str.empty ++ ("(" : Str)).length ≤ sizeLine ∧ (Str.empty ++ ("(" : Str) ++ x).length ≤ sizeLine ∧ (Str.empty ++ ("(" : Str) ++ x ++ m).length ≤ sizeLine ∧ (Str.empty ++ ("(" : Str) ++ x ++ m ++ y).length ≤ sizeLine ∧ (Str.empty ++ ("(" : Str) ++ x ++ m ++ y ++ (")" : Str)).length ≤ sizeLine := by
  unfold joinPok joinP at h
  simp only [Bool.and_eq_true, decide_eq_true_eq] at h
  obtain ⟨⟨h1, h2⟩, h3⟩ := h
  simp only [Str.length_append] at h3 ⊢
  omega
def Pat.str : Pat → Option Str
  | .form a => gd (joinOk ("" : Str) a) (some (Txt.join ("" : Str) a))
  | .both l r => l.str.bind fun x => r.str.bind fun y => gd (joinPok (" & " : Str) x y) (some (joinP (" & " : Str) x y))
  | .either l r => l.str.bind fun x => r.str.bind fun y => gd (joinPok (" | " : Str) x y) (some (joinP (" | " : Str) x y))
def m_pat___str__ (a : Pat) : Option Str := patN 3 a a.str
def sp_pat_str (n : Nat) (x : Str) (K : PySem.W.Frag) : Sp := fun vs H Q _ => ∃ (F : Hp) (v_self : V) (a_self : Pat) (r : Str), vs = [v_self] ∧ Same F H ∧ qPat.r K F v_self a_self ∧ a_self.cls = x ∧ patN n a_self a_self.str = some r ∧ ∀ v F' H', Sx P0 F H F' H' → qS.r K F' v r → Q v H'
end Gl

namespace Gl
open PySem PySem.Spec PyProof.Rows L2

/-! ## comprehensions of two clauses, the first one's target of several names -/
section
variable {J : It} {n : Nat} {G : Hp → Prop} {it : Nat → V → Prop} {α β γ : Type} {A : R α} {B : R β} {C : R γ} {K : PySem.W.Frag} {F1 H1 : Hp} {xs : List α} {g g1 : TG} {tt tt1 : TT} {wi1 : TI} {te : TE} {vs vs1 : List Nat} {σ : L2.St} {Q : VK}
/-- rd_compT over what the first target's names hold, told by the heap -/
theorem rd_compG (Fd : Feeds J n G it) (Ty : Typed A K F1 n it xs) {f1 : α → Option (Option (List β))} {f2 : α → β → Option (Option γ)} {r : List γ} (hm : comp2 f1 f2 xs = some r) (hz : fitsE r = true) (hsub : Same F1 H1)
    (hG : ∀ F H, Sx P0 F1 H1 F H → G H) (Sg : L2.St → L2.St → α → Hp → Prop) (hSg : ∀ {s0 s1 : L2.St} {a : α} {F F' : Hp}, Same F F' → Sg s0 s1 a F → Sg s0 s1 a F')
    (turn : ∀ (a : α) (x : V) (o : Option (List β)) (F H : Hp), A.r K F1 x a → Sx P0 F1 H1 F H → f1 a = some o →
      ∀ (E : Hp → Prop) (I : L2.St → It → Hp → Prop), (∀ F' H', o = none → Sx P0 F H F' H' → E H') →
        (∀ σ2 J1 n1 G1 it1 ys F' H', o = some ys → Sx P0 F H F' H' → Sg (wipe σ vs) σ2 a F' → Feeds J1 n1 G1 it1 → Typed B K F' n1 it1 ys → (∀ F'' H'', Same F' F'' → Same F'' H'' → G1 H'') → I σ2 J1 H') →
        g x (wipe σ vs) H fun σ2 H2 => wipe σ2 vs = wipe σ vs ∧ tt σ2 H2 fun b H3 => if b = true then wi1 σ2 H3 fun J1 H4 => I σ2 J1 H4 else E H3)
    (turn2 : ∀ (a : α) (b : β) (y : V) (o : Option γ) (σ2 : L2.St) (F H : Hp), B.r K F y b → Sg (wipe σ vs) σ2 a F → Sx P0 F1 H1 F H → f2 a b = some o →
      ∀ (E : Hp → Prop) (N : V → Hp → Prop), (∀ z c F' H', o = some c → Sx P0 F H F' H' → C.r K F' z c → N z H') → (∀ F' H', o = none → Sx P0 F H F' H' → E H') →
        g1 y (wipe σ2 vs1) H fun σ3 H5 => wipe σ3 vs1 = wipe σ2 vs1 ∧ tt1 σ3 H5 fun b H6 => if b = true then te σ3 H6 N else E H6)
    (done : ∀ D us F H, H1 D = none → Sx P0 F1 H1 F H → Ow P0 H1 F H D (.lst us) → Row C K F us r → Q (.ref D) H) : ∀ D, H1 D = none → LcG2 J g tt wi1 g1 tt1 te vs vs1 σ D Q H1 := by
  intro D hD
  refine ⟨fun i m H => m = n - i ∧ i ≤ n ∧ ∃ F acc ys r', Sx P0 F1 H1 F H ∧ Ow P0 H1 F H D (.lst acc) ∧ Row C K F acc ys ∧ comp2 f1 f2 (xs.drop i) = some r' ∧ r = ys ++ r', ⟨n, by simp, Nat.zero_le _, F1, [], [], r, (Sx.refl0 hsub).temp hD, (Sx.refl0 hsub).own hD, .nil, hm, rfl⟩, ?_⟩
  rintro i m H ⟨rfl, hi, F, acc, ys, r', S, w, row, hl, hr⟩
  by_cases hlt : i < n
  · obtain ⟨a, ha⟩ : ∃ a, xs[i]? = some a := ⟨xs[i]'(by rw [Ty.len]; exact hlt), by simp [Ty.len, hlt]⟩
    rw [drop_at ha] at hl
    obtain ⟨o, e1, hl⟩ := bd_some hl
    obtain ⟨ri, e2, hl⟩ := bd_some hl
    obtain ⟨q, e3, hl⟩ := bd_some hl
    cases hl
    refine .inr ⟨Fd.go i H hlt (hG F H S), fun H' => ∃ F acc, Sx P0 F1 H1 F H' ∧ Ow P0 H1 F H' D (.lst acc) ∧ Row C K F acc (ys ++ ri), fun H' ⟨F', acc', S', w', row'⟩ => ⟨n - (i + 1), by omega, rfl, hlt, F', acc', ys ++ ri, q, S', w', row', e3, by rw [hr, List.append_assoc]⟩, fun x H' y => ?_⟩
    obtain ⟨rfl, hx⟩ := Fd.yld i H x H' hlt (hG F H S) y
    obtain ⟨a', ha', ra⟩ := Ty.at_ i x hx
    rw [ha] at ha'
    cases ha'
    refine turn a x o F H' ra S e1 _ (fun σ2 J1 H4 => _) (fun F' H'' ho c => ?_) fun σ2 J1 n1 G1 it1 zs F' H'' ho c sg Fd1 Ty1 hG1 => ?_
    · subst ho
      cases e2
      exact ⟨F', acc, S.call0 c, w.call0 c, by rw [List.append_nil]; exact Row.mono c.le row⟩
    · subst ho
      refine ⟨fun j k H => k = n1 - j ∧ j ≤ n1 ∧ ∃ F2 acc2 ys2 r2, Sx P0 F1 H1 F2 H ∧ Same F' F2 ∧ Ow P0 H1 F2 H D (.lst acc2) ∧ Row C K F2 acc2 (ys ++ ys2) ∧ compI (f2 a) (zs.drop j) = some r2 ∧ ri = ys2 ++ r2, ⟨n1, by simp, Nat.zero_le _, F', acc, [], ri, S.call0 c, Same.refl _, w.call0 c, by rw [List.append_nil]; exact Row.mono c.le row, e2, rfl⟩, ?_⟩
      rintro j k H5 ⟨rfl, hj, F2, acc2, ys2, r2, S2, sm, w2, row2, hl2, hr2⟩
      by_cases hlt2 : j < n1
      · obtain ⟨b, hb⟩ : ∃ b, zs[j]? = some b := ⟨zs[j]'(by rw [Ty1.len]; exact hlt2), by simp [Ty1.len, hlt2]⟩
        rw [drop_at hb] at hl2
        obtain ⟨oz, e4, hl2⟩ := bd_some hl2
        obtain ⟨q2, e5, hl2⟩ := bd_some hl2
        cases hl2
        refine .inr ⟨Fd1.go j H5 hlt2 (hG1 F2 H5 sm S2.sub), fun H => ∃ F2 acc2 ys2, Sx P0 F1 H1 F2 H ∧ Same F' F2 ∧ Ow P0 H1 F2 H D (.lst acc2) ∧ Row C K F2 acc2 (ys ++ ys2) ∧ ri = ys2 ++ q2, fun H6 ⟨F3, acc3, ys3, S3, sm3, w3, row3, hr3⟩ => ⟨n1 - (j + 1), by omega, rfl, hlt2, F3, acc3, ys3, q2, S3, sm3, w3, row3, e5, hr3⟩, fun v H6 y => ?_⟩
        obtain ⟨rfl, hx2⟩ := Fd1.yld j H5 v H6 hlt2 (hG1 F2 H5 sm S2.sub) y
        obtain ⟨b', hb', rb⟩ := Ty1.at_ j v hx2
        rw [hb] at hb'
        cases hb'
        refine turn2 a b v oz σ2 F2 H6 (B.mono sm rb) (hSg sm sg) S2 e4 _ _ (fun z cz F3 H7 ho c3 rz => ?_) fun F3 H7 ho c3 => ?_
        · subst ho
          have w3 := w2.call0 c3
          have S3 := S2.call0 c3
          have row3 := Row.mono c3.le row2
          have hsz : acc2.length < sizeLine := by
            have h1 := of_decide_eq_true hz
            have h2 := pLen row3
            rw [hr, hr2] at h1
            simp at h1 h2
            omega
          refine ⟨acc2, w3.at_, hsz, F3, acc2 ++ [z], ys2 ++ [cz], S3.put w3, sm.trans c3.le, w3.put, ?_, by rw [hr2]; simp⟩
          rw [← List.append_assoc]
          exact row3.snoc rz
        · subst ho
          exact ⟨F3, acc2, ys2, S2.call0 c3, sm.trans c3.le, w2.call0 c3, Row.mono c3.le row2, hr2⟩
      · have e : j = n1 := by omega
        subst e
        rw [← Ty1.len, List.drop_length] at hl2
        cases hl2
        refine .inl ⟨Fd1.stop H5 (hG1 F2 H5 sm S2.sub), F2, acc2, S2, w2, ?_⟩
        rw [hr2, List.append_nil]; exact row2
  · have e : i = n := by omega
    subst e
    rw [← Ty.len, List.drop_length] at hl
    cases hl
    refine .inl ⟨Fd.stop H (hG F H S), done D acc F H hD S w ?_⟩
    rw [hr, List.append_nil]; exact row
end
/-! ## targets of three names -/
section
variable {K : PySem.W.Frag} {P : Addr → Prop} {F0 H0 F H : Hp} {σ : L2.St} {v : V} {QS : L2.St → Hp → Prop} {ts : TGs} {Q : VK}
theorem rd_gun3 {α β γ : Type} {A : R α} {B : R β} {C : R γ} {x : α × β × γ} (S : Sx P F0 H0 F H) (r : (q3 A B C).r K F v x) (k : ∀ u w z, A.r K F u x.1 → B.r K F w x.2.1 → C.r K F z x.2.2 → ts [u, w, z] σ H QS) : gTup K 3 ts v σ H QS := by
  obtain ⟨p, u, w, z, rfl, h2, h3, h4, h5⟩ := r
  exact ⟨p, _, rfl, same_t S.sub h2, rfl, k u w z h3 h4 h5⟩
end
/-! ## over an own list that stays own -/
theorem rd_wLO {K : PySem.W.Frag} {P : Addr → Prop} {H0 F H : Hp} {RI : It → Hp → Prop} {p : Addr} {vs : List V} (o : Ow P H0 F H p (.lst vs)) (k : SqL K H p vs → RI (Itl K p) H) : wL K RI (.ref p) H :=
  ⟨p, rfl, ⟨vs, SqL.of o.at_⟩, k (SqL.of o.at_)⟩
theorem sx_lst {K : PySem.W.Frag} {F H F' H' : Hp} {P : Addr → Prop} {H0 : Hp} {p : Addr} {vs : List V} (S : Sx P0 F H F' H') (o : Ow P H0 F H p (.lst vs)) : SqL K H' p vs := SqL.of (S.same _ _ o.at_ fun z => z.elim)
/-! ## t + u of tuples -/
theorem op_catAK {X : Cx} {K : PySem.W.Frag} (hK : X.K = K := by rfl) : OpR X (binaryOp .Add) (rCatA K) := by
  subst hK; exact op_catA
theorem rd_catA {K : PySem.W.Frag} {P : Addr → Prop} {F0 H0 F H : Hp} {u v : V} {Q : VK} {α : Type} {A : R α} {xs ys : List α} (S : Sx P F0 H0 F H) (r : (qT A).r K F u xs) (s : (qT A).r K F v ys) (h : fits2 xs ys = true)
    (k : ∀ z F' H', Sx P0 F H F' H' → (qT A).r K F' z (xs ++ ys) → Q z H') : rCatA K u v H Q := by
  obtain ⟨p, vs, rfl, h1, h2⟩ := id r
  obtain ⟨q, ws, rfl, g1, g2⟩ := id s
  have hz : vs.length + ws.length ≤ sizeLine := by rw [pLen h2, pLen g2]; exact of_decide_eq_true h
  have hS : Sx P0 F H F H := Sx.refl0 S.sub
  refine ⟨p, q, vs, ws, rfl, rfl, same_t S.sub h1, same_t S.sub g1, hz, fun e => ?_, fun _ e => ?_, fun _ _ l hl => ?_⟩
  · subst e
    have : xs = [] := by cases h2; rfl
    subst this
    exact k _ F H hS ⟨q, ws, rfl, g1, g2⟩
  · subst e
    have : ys = [] := by cases g2; rfl
    subst this
    exact k _ F H hS ⟨p, vs, rfl, h1, by rw [List.append_nil]; exact h2⟩
  · exact alT' S (fun z F' H' c f => k z F' H' c f) l (vs ++ ws) hl (pApp h2 g2)
/-! ## a place that is reckoned -/
def ixD (a b i : Int) : Bool := decide (i = a) || decide (i = b)
theorem rd_ixD {K : PySem.W.Frag} {F H : Hp} {γ : Type} {C : R γ} {r : R2} {v : V} {Q : VK} {i a b : Int} {c d : γ} (h : ixD a b i = true) (ha : ∀ Q' : VK, (∀ u, C.r K F u c → Q' u H) → r v (.int a) H Q') (hb : ∀ Q' : VK, (∀ u, C.r K F u d → Q' u H) → r v (.int b) H Q')
    (k : ∀ u, C.r K F u (if i = a then c else d) → Q u H) : r v (.int i) H Q := by
  by_cases e : i = a
  · subst e
    exact ha Q fun u f => k u (by rw [if_pos rfl]; exact f)
  · unfold ixD at h
    rw [decide_eq_false e, Bool.false_or, decide_eq_true_eq] at h
    subst h
    exact hb Q fun u f => k u (by rw [if_neg e]; exact f)
/-! ## len(o), o of a class of the program's own -/
section
variable {prog : Program} {w : World} {A : Around} {E : Value → Shared → Prop} {s : Shared} {K : PySem.W.Frag} {x C f : Addr} {ox : Obj} {od : Option Obj}
theorem len_own {Q : Value → Shared → Prop} (X : K.In s.heap) (I : PySem.W.InstAt s.heap x ox C od) (hs : PySem.W.findIn K (.ref C) "__len__" = some (some (.ref f))) (hf : PySem.W.isFn K (.ref f) = true)
    (h : wpAny (model prog w) A.in1 (call (.ref f) [.ref x]) (fun v s' => ∃ n t, v = .int n t ∧ 0 ≤ n ∧ n < 2 ^ 63 ∧ ∀ t' k, Q (.int n t') { s' with toks := k }) E s) : wpAny (model prog w) A (call (.builtin "len") [.ref x]) Q E s := by
  refine PySem.Calls.call_function_entry kind_len plain_len entry_len (args_len1 _) ?_
  unfold Builtin.«len»
  refine wpAny_bind (m := oneArg "len" _) (wpAny_pure ?_)
  refine wpAny_bind (m := callSpecial? (.ref x) (Str.ofString "__len__")) (PySem.W.special_fn X I hs (beq_iff_eq.mp hf) (wpAny_mono h (fun r s' hr => ?_) fun _ _ y => y))
  obtain ⟨n, t, rfl, h0, h1, q⟩ := hr
  refine wpAny_bind (wpAny_holding (wpAny_pure ?_))
  refine wpAny_bind (wpAny_letGo ?_)
  show wpAny _ _ (if n < 0 then _ else _) _ _ _
  rw [if_neg (by omega)]
  show wpAny _ _ (if n ≥ 2 ^ 63 then _ else _) _ _ _
  rw [if_neg (by omega)]
  exact wpAny_bind (wpAny_mkInt (wpAny_pure ⟨_, rfl, q _ _⟩))
end
def lnK (Q : VK) : VK := fun v H2 => ∃ n : Int, v = .int n ∧ 0 ≤ n ∧ n < 2 ^ 63 ∧ Q (.int n) H2
def rLenO (C : Addr) (sp : Sp) (E : XK) : List V → Hp → VK → Prop := fun xs H Q => ∃ a dx fs, xs = [.ref a] ∧ H a = some (.ins C dx fs) ∧ sp [.ref a] H (lnK Q) E
theorem cr_lenO {X : Cx} {CX : CXT} {k : Nat} {C f : Addr} {fd : FuncData} {ps : List Str} {sp : Sp} {E : XK} (hm : Meth X.K C "__len__" f) (F : FnOk X.prog X.w X.K X.mg X.base CX k f fd ps sp) (hr : Room (k + 1) X.A) (hb : Binds X.K fd ps []) (hx : Passes CX X E) : CallR X (.builtin "len") (rLenO C sp E) := by
  intro pins s σ H xs us Q I r h
  obtain ⟨a, dx, fs, rfl, e, h⟩ := h
  obtain rfl := Vals.ref1 r
  obtain ⟨ox, od, J, _⟩ := StX.insC_at I (.inr ⟨dx, fs, e⟩)
  refine len_own I.kIn J hm.at_ hm.fn ?_
  have z := run_fn1 (X := X) (us := [.ref a]) (vs := [.ref a]) F hr hb hx I (.cons rfl .nil) (Q := lnK Q) h
  refine wpAny_mono z (fun v s' hv => ?_) fun _ _ z => z
  obtain ⟨y, H', I', rx, n, ey, h0, h1, q⟩ := hv
  subst ey
  obtain ⟨tk, rfl⟩ := rx
  exact ⟨n, tk, rfl, h0, h1, fun t' k' => ⟨.int n, H', I'.tok _, ⟨t', rfl⟩, q⟩⟩
theorem lenO_at {C p dx : Addr} {fs : List (Str × V)} {sp : Sp} {E : XK} {H : Hp} {Q : VK} (h : H p = some (.ins C dx fs)) (k : sp [.ref p] H (lnK Q) E) : rLenO C sp E [.ref p] H Q := ⟨p, dx, fs, rfl, h, k⟩
def lenGd (n : Int) : Bool := decide (0 ≤ n) && decide (n < 2 ^ 63)
theorem rd_lnK {Q : VK} {n : Int} {H : Hp} (h : lenGd n = true) (k : Q (.int n) H) : lnK Q (.int n) H := by
  unfold lenGd at h
  rw [Bool.and_eq_true, decide_eq_true_eq, decide_eq_true_eq] at h
  exact ⟨n, rfl, h.1, h.2, k⟩
/-! ## sum(t), t a tuple of ints -/
section
variable {prog : Program} {w : World} {A : Around} {E : Value → Shared → Prop} {s : Shared}
theorem pre_sum (ns : List Int) : ∀ n : Nat, preSum (fun i => ns.getD i 0) n = (ns.take n).sum
  | 0 => rfl
  | n + 1 => by
    show preSum (fun i => ns.getD i 0) n + ns.getD n 0 = _
    rw [pre_sum ns n]
    by_cases h : n < ns.length
    · rw [List.take_succ_eq_append_getElem h, List.sum_append, List.getD_eq_getElem?_getD, List.getElem?_eq_getElem h]
      simp
    · rw [List.take_of_length_le (by omega : ns.length ≤ n), List.take_of_length_le (by omega : ns.length ≤ n + 1), List.getD_eq_getElem?_getD, List.getElem?_eq_none (by omega)]
      simp
theorem sum_tup {l : Addr} {its : List Value} {ns : List Int} {Q : Value → Shared → Prop} (hh : A.handled = none) (hl : s.heap.IsTuple l its.toArray) (hi : IntsAre its ns)
    (h : ∀ h' tk t', (∀ b o, s.heap.get? b = some o → h'.get? b = some o) → Q (.int ns.sum t') { s with heap := h', toks := tk }) : wpAny (model prog w) A (call (.builtin "sum") [.ref l]) Q E s := by
  have hlt : l < s.heap.objs.size := let ⟨_, e, _⟩ := hl; Heap.lt_size e
  refine call_sum_walkAnyS (wpAny_pyIter_tuple hl ?_)
  refine ⟨s.heap.objs.size, _, _, _, its.toArray.size, _, _, fun i => ns.getD i 0, rfl, (Walks.tuple (A := A.in1) hh s.heap.objs.size l (Nat.ne_of_lt hlt) its.toArray).toS, ⟨⟨_, Heap.get?_push_size _ rfl, rfl, rfl⟩, hl.push _⟩, fun b hb => ?_, fun i v hv => ?_, fun s' t' hm => ?_⟩
  · show b < (s.heap.push _).objs.size
    rw [Heap.size_push]
    rcases List.mem_cons.mp hb with e | hb
    · rw [e]; exact Nat.lt_succ_self _
    · rw [List.mem_singleton.mp hb]; exact Nat.lt_succ_of_lt hlt
  · have hv : its.toArray[i]? = some v := hv
    obtain ⟨t, e⟩ := PyProof.Rows.IntsAre.int_at hi i v (by simpa using hv)
    exact ⟨t, e⟩
  · have hk : ∀ b o, s.heap.get? b = some o → s'.heap.get? b = some o := fun b o e =>
      hm.heap b o (fun hI => absurd (Heap.lt_size e) (by rw [List.mem_singleton.mp hI]; exact Nat.lt_irrefl _)) (Heap.get?_push_of_some _ e)
    rw [Moved.eq_with hm, pre_sum, List.take_of_length_le (by rw [List.size_toArray, hi.length]; exact Nat.le_refl _)]
    exact h s'.heap s'.toks t' hk
end
def rSumT (K : PySem.W.Frag) : List V → Hp → VK → Prop := fun vs H Q => ∃ (a : Addr) (ns : List Int), vs = [V.ref a] ∧ SqT K H a (ns.map V.int) ∧ Q (.int ns.sum) H
theorem cr_sumT {X : Cx} {K : PySem.W.Frag} (hc : X.calm = true) (hK : X.K = K := by rfl) : CallR X (.builtin "sum") (rSumT K) := by
  subst hK
  intro pins s σ H vs us Q I r h
  obtain ⟨a, ns, rfl, hs, q⟩ := h
  obtain ⟨its, rv, hl, _⟩ := I.tuple hs
  rw [Vals.ref1 r]
  exact sum_tup (I.ok.hd hc) hl rv.ints fun h' tk t' hk => ⟨.int _, H, I.kept hk, ⟨_, rfl⟩, q⟩
section
variable {K : PySem.W.Frag} {P : Addr → Prop} {F0 H0 F H : Hp} {v u : V} {Q : VK}
theorem rd_sumT {xs : List Int} (S : Sx P F0 H0 F H) (r : (qT qI).r K F v xs) (k : Q (.int xs.sum) H) : rSumT K [v] H Q := by
  obtain ⟨p, vs, rfl, h1, h2⟩ := r
  obtain rfl := row_int h2
  exact ⟨p, xs, rfl, same_t S.sub h1, k⟩
/-! ## sorted(xs), tuples of which some may be empty -/
end
section
variable {X : Cx}
def rSortedT (K : PySem.W.Frag) : List V → Hp → VK → Prop := fun xs H Q => ∃ (p : Addr) (vs : List V) (β : Type) (enc : β → PyData) (bs : List β) (rel : V → β → Prop), xs = [.ref p] ∧ SqL K H p vs ∧ Paired rel vs bs ∧ (∀ v b, rel v b → Dp K H v (enc b)) ∧ (∀ b b', PySem.W.alike (enc b) (enc b') = true) ∧ Srt2 (bs.map enc) ∧ (∀ b ∈ bs, (enc b).depth ≤ 16) ∧
  ∀ us q, Paired rel us (bs.mergeSort (PySem.W.dataLe false enc)) → H q = none → Q (.ref q) (upd H q (.lst us))
open PySem.W in
theorem cr_sortedT {K : PySem.W.Frag} (hu : X.A.units + 64 < cLine) (hK : X.K = K := by rfl) : CallR X (.builtin "sorted") (rSortedT K) := by
  subst hK
  intro pins s σ H xs us Q I r h
  obtain ⟨p, vs, β, enc, bs, rel, rfl, hs, hp, hd, hal, hk, hdep, q⟩ := h
  obtain ⟨its, rv, hl, hz⟩ := I.list hs
  rw [Vals.ref1 r]
  have e := each_of (pins := pins) (σ := σ) (H := H) (s := s) rv hp
  have lb : bs.length = vs.length := (pLen hp).symm
  have er : EachIs (fun v b => ∃ as, Reads s.heap v (enc b) as) its bs := e.mono fun u b ⟨x, h1, h2⟩ => Dp.reads I _ _ _ (hd x b h2) h1
  have er' : EachIs (fun v b => ∃ as, Reads (sortingHeap (copyHeap s.heap its) (s.heap.objs.size + 1) its) v (enc b) as) its bs := er.mono fun _ _ ⟨as, r⟩ => ⟨as, PyProof.Rows.Reads.keeps (fun _ _ => sorting_copy_old) r⟩
  have hS : SortsAt X.prog X.w X.A.in1.in1 { s with heap := sortingHeap (copyHeap s.heap its) (s.heap.objs.size + 1) its } (dataKind (sortingHeap (copyHeap s.heap its) (s.heap.objs.size + 1) its) (bs.map enc)) its :=
    sortsAt_2 (s := { s with heap := sortingHeap (copyHeap s.heap its) (s.heap.objs.size + 1) its }) (each_map (R := fun v d => ∃ as, Reads (sortingHeap (copyHeap s.heap its) (s.heap.objs.size + 1) its) v d as) enc er') (AllAlike.of hal) hk
      (bound_map fun b hb => by have := hdep b hb; show X.A.units + 1 + 1 + _ < cLine; omega)
  have le : its.length = bs.length := e.length
  refine sorted_vals (κ := dataKind (sortingHeap (copyHeap s.heap its) (s.heap.objs.size + 1) its) (bs.map enc)) hl.isList hS (by rw [le, lb]; exact hz) ?_
  obtain ⟨zs, h1, h2⟩ := each_back (sortVals_data false e er' (AllAlike.of hal))
  obtain ⟨ep, he'⟩ := PyProof.Rows.sortedAll_at s.heap its (sortVals (dataKind (sortingHeap (copyHeap s.heap its) (s.heap.objs.size + 1) its) (bs.map enc)) false its its).toArray
  have hlen : zs.length ≤ sizeLine := by
    have := pLen h2
    rw [List.length_mergeSort] at this
    omega
  exact ⟨.ref _, upd H (s.heap.objs.size + 1) (.lst zs), I.laid (t' := s.toks) (fun _ _ => PyProof.Rows.sortedAll_old) (Nat.le_succ _) ⟨hlen, _, ep, h1, he'⟩, rfl, q _ _ h2 (I.hok.fresh (Nat.le_succ _))⟩
end
section
variable {K : PySem.W.Frag} {P : Addr → Prop} {F0 H0 F H : Hp} {v u : V} {Q : VK}
theorem rd_sortT {α : Type} {A : R α} {xs : List α} {D : Dat A} (o : Ordt D) (S : Same F H) (s : SeenR A K F H v xs) (h : Nat.ble o.n 16 = true) (k : nL A K F Q H (srtD D xs)) : rSortedT K [v] H Q := by
  obtain ⟨p, vs, rfl, h1, r⟩ := s
  exact ⟨p, vs, α, D.d, xs, fun u b => A.r K F u b, rfl, h1, r, fun u b hb => Dp.mono S (D.dp hb), o.al, o.srt xs, fun b _ => Nat.le_trans (o.dep b) (Nat.le_of_ble_eq_true h), fun us q hp hq => k q us hq hp⟩
/-! ## x in xs, both data -/
theorem any_dec {α : Type} [DecidableEq α] {A : R α} (D : Dat A) (a : α) (xs : List α) : ((xs.map D.d).any fun z => PyData.eqv z (D.d a)) = decide (a ∈ xs) := by
  rw [List.any_map]
  induction xs with
  | nil => rfl
  | cons x xs ih =>
    rw [List.any_cons, ih]
    show (PyData.eqv (D.d x) (D.d a) || _) = _
    rw [eqv_dec D]
    by_cases h : x = a
    · subst h; simp
    · have h' : ¬ a = x := fun e => h e.symm
      simp [h, h']
/-- x in xs -/
def memL {α : Type} [DecidableEq α] (a : α) (xs : List α) : Bool := decide (a ∈ xs)
theorem memL_iff {α : Type} [DecidableEq α] {a : α} {xs : List α} : memL a xs = true ↔ a ∈ xs := by unfold memL; rw [decide_eq_true_eq]
theorem u65 {k : Nat} {A : Around} (r : Room k A) : A.units + 65 < cLine := by have := r.un; omega
theorem op_inDK {X : Cx} {K : PySem.W.Frag} (hu2 : X.A.units + 65 < cLine) (hK : X.K = K := by rfl) : OpR X (compareOp .In) (rInD K) := by
  subst hK; exact op_inD hu2
theorem op_niDK {X : Cx} {K : PySem.W.Frag} (hu2 : X.A.units + 65 < cLine) (hK : X.K = K := by rfl) : OpR X (compareOp .NotIn) (rNotInD K) := by
  subst hK; exact op_notInD hu2
theorem rd_inD {α : Type} [DecidableEq α] {A : R α} {D : Dat A} {a : α} {xs : List α} (h1 : Dp K H u (D.d a)) (h2 : Dp K H v (.list (xs.map D.d))) (s1 : shp D a = true) (s2 : shp (dL D) xs = true) (k : Q (.bl (memL a xs)) H) : rInD K u v H Q :=
  ⟨_, _, h1, h2, s1, s2, by rw [any_dec]; exact k⟩
theorem rd_niD {α : Type} [DecidableEq α] {A : R α} {D : Dat A} {a : α} {xs : List α} (h1 : Dp K H u (D.d a)) (h2 : Dp K H v (.list (xs.map D.d))) (s1 : shp D a = true) (s2 : shp (dL D) xs = true) (k : Q (.bl (!memL a xs)) H) : rNotInD K u v H Q :=
  ⟨_, _, h1, h2, s1, s2, by rw [any_dec]; exact k⟩
end
end Gl

namespace Gl
open PySem PySem.Spec PyProof.Rows L2 C8
open PySem.OwnE (ErC IS putM)
/-! ## own errors that are let out of defs and caught -/
/-- go on, or hand the error on -/
def exB {ε α β : Type} : Except ε α → (α → Option (Except ε β)) → Option (Except ε β)
  | .ok a, k => k a
  | .error e, _ => some (.error e)
theorem exB_ok {ε α β : Type} {a : α} {k : α → Option (Except ε β)} {r : Except ε β} (h : exB (.ok a) k = some r) : k a = some r := h
theorem exB_err {ε α β : Type} {t : Except ε α} {e : ε} {k : α → Option (Except ε β)} {r : Except ε β} (ee : t = .error e) (h : exB t k = some r) : r = .error e := by
  subst ee
  exact (Option.some.inj h).symm
/-- try: the clause's suite, or what follows -/
def exT {ε α β : Type} : Except ε α → (ε → Option β) → (α → Option β) → Option β
  | .ok a, _, k => k a
  | .error e, h, _ => h e
theorem exT_ok {ε α β : Type} {a : α} {k : α → Option β} {h : ε → Option β} {r : β} (hm : exT (.ok a) h k = some r) : k a = some r := hm
theorem exT_err {ε α β : Type} {e : ε} {k : α → Option β} {h : ε → Option β} {r : β} (hm : exT (.error e : Except ε α) h k = some r) : h e = some r := hm
/-- an error of the class c with these fields, in the heap -/
def ErrAt (K : PySem.W.Frag) (H : Hp) (c : Str) (fs : List Str) (xs : List V) (cls : Value) (d : Option Addr) : Prop := ∃ dd, cls = .ref (He.ga K c) ∧ d = some dd ∧ H dd = some (.xd (putL fs xs []))
def ovI : Option Int → V
  | none => .non
  | some i => .int i
theorem ovI_r {K : PySem.W.Frag} {F : Hp} (x : Option Int) : (qO qI).r K F (ovI x) x := by
  cases x <;> rfl
/-! ### raise -/
def tRz (t : L2.St → Hp → XK → Prop) (E : XK) : TS := fun _ σ H => t σ H E
section
variable {P : Program} {w : World} {K : PySem.W.Frag} {mg : Str → Option Value} {base : Heap} {N : List Str} {qual : Str} {scope : Scope} {f : Addr} {cd : Value} {A : Around} {outer : List Env} {s : Shared} {H0 : Hp} {E : XK}
theorem takes_cx : Takes (cxOf (L2.CX P w) P w K mg base N qual scope f cd A outer s H0 E) (fun cls d _ H' => E cls d H') := takes_of rfl rfl rfl rfl
theorem owns_cx : PassesOwn (model P w) (cxOf (L2.CX P w) P w K mg base N qual scope f cd A outer s H0 E).A (cxOf (L2.CX P w) P w K mg base N qual scope f cd A outer s H0 E).env (cxOf (L2.CX P w) P w K mg base N qual scope f cd A outer s H0 E).xe := passes_of rfl
theorem passes_cx : Passes (L2.CX P w) (cxOf (L2.CX P w) P w K mg base N qual scope f cd A outer s H0 E) E := passes_call takes_cx (fun _ _ _ _ h => h)
theorem ps_rz {e : Expr} {t : L2.St → Hp → XK → Prop} {pos : Pos} (he : PMk (cxOf (L2.CX P w) P w K mg base N qual scope f cd A outer s H0 E) e t) : PS (cxOf (L2.CX P w) P w K mg base N qual scope f cd A outer s H0 E) (.Raise (some e) none pos) (tRz t E) := ps_raise rfl takes_cx he
end
section
variable {K : PySem.W.Frag} {P : Addr → Prop} {F0 H0 F H : Hp} {σ : L2.St} {c : Str} {fs : List Str} {xs : List V} {E : XK} {ta : TA} {N B C : L2.St → Hp → Prop} {R : VK}
def eK (K : PySem.W.Frag) (c : Str) (fs : List Str) (E : XK) : List V → Hp → Prop := fun vs H1 => vs.length = fs.length ∧ ∀ d, H1 d = none → E (.ref (He.ga K c)) (some d) (upd H1 d (.xd (putL fs vs [])))
theorem rd_rz (k : ta σ H (eK K c fs E)) : tRz (tErr (He.ga K c) fs ta) E ⟨N, R, B, C⟩ σ H := k
theorem rd_eK {vs : List V} (S : Sx P F0 H0 F H) (e : vs = xs) (hl : xs.length = fs.length) (k : ∀ cls d H', Sx P F0 H0 F H' → ErrAt K H' c fs xs cls d → E cls d H') : eK K c fs E vs H := by
  subst e
  exact ⟨hl, fun d hd => k _ _ _ (S.temp hd) ⟨d, rfl, rfl, upd_same⟩⟩
end
/-! ### calls in a try -/
section
variable {X : Cx} {CXt : CXT} {k : Nat} {f C : Addr} {fd : FuncData} {ps : List Str} {sp : Sp} {E : L2.St → XK} {x : Str} {p pos : Pos} {e : Expr} {es : List Expr} {t : TA}
def tMakeS (C : Addr) (sp : Sp) (E : L2.St → XK) (t : TA) : TE := fun σ H Q => t σ H fun vs H1 => ∀ y dy, H1 y = none → H1 dy = none → dy ≠ y →
  sp (.ref y :: vs) (upd (upd H1 dy (.own y)) y (.ins C dy [])) (fun v H2 => v = .non ∧ Q (.ref y) H2) (E σ)
theorem pe_makeS (M : Mk X.K C f) (F : FnOk X.prog X.w X.K X.mg X.base CXt k f fd ps sp) (hr : Room (k + 1) X.A) (hg : Gl X x) (hm : X.mg x = some (.ref C)) (hb : Binds X.K fd ps []) (hx : ∀ σ, PassesAt CXt X σ (E σ))
    (ha : PA X (e :: es) t) (hdb : (x == ("__debug__" : Str)) = false := by decide) (he : starEach (e :: es) X.env = (false, eval e X.env) :: starEach es X.env := by rfl) (hpl : (backTo pos (starEach es X.env)).any (·.1) = false := by rfl) :
    PE X (.Call (.Name x p) (e :: es) [] pos) (tMakeS C sp E t) := by
  constructor
  intro pins s σ H Q I h
  refine wpAny_Call_Name_kw (ld_glob I hg hm ?_ hdb)
  refine PySem.W.callWith_K (h₀ := X.base) I.ok.mod.kin M.kp (thn (ha.run pos pins s σ H _ I h) fun us s1 hh => ?_) he hpl
  obtain ⟨vs, H1, I1, r, q⟩ := hh
  refine ⟨I1.kIn, ?_⟩
  have q1 := q (s1.heap.objs.size + 1) s1.heap.objs.size (I1.hok.fresh (Nat.le_succ _)) (I1.hok.fresh (Nat.le_refl _)) (Nat.ne_of_lt (Nat.lt_succ_self _))
  have I2 := Inv.made (C := C) I1
  have r2 : Vals (V.ref (s1.heap.objs.size + 1) :: vs) (Value.ref (s1.heap.objs.size + 1) :: us) := .cons rfl r
  have hl : (Value.ref (s1.heap.objs.size + 1) :: us).length = ps.length := by rw [← r2.length]; exact F.len _ _ _ _ q1
  have b := hb _ (Value.ref (s1.heap.objs.size + 1) :: us) I2.kIn (by rw [List.append_nil]; exact hl)
  rw [List.append_nil] at b
  have run := F.run (X.A.under (.builtin "type.__call__" ⟨.ref C :: us, []⟩)) X.stack _ _ ⟨Value.ref (s1.heap.objs.size + 1) :: us, []⟩ (Value.ref (s1.heap.objs.size + 1) :: us) (V.ref (s1.heap.objs.size + 1) :: vs) _ (E σ) (hr.make C us []) (I2.env0.make C us []) b r2 q1
  refine wpAny_call (make_map (f := f) I1.kIn M.makes M.init (beq_iff_eq.mp M.fn) (codeAny_mono run ?_))
  intro rs s' h'
  rcases rs with e' | (u | _ | _ | _)
  · exact hx σ pins _ _ e' s' I2 h'
  all_goals first | exact False.elim h' | skip
  all_goals (
    obtain ⟨v, H', I3, rv, ev, q3⟩ := I2.after h'
    subst ev
    exact ⟨rv, ⟨V.ref (s1.heap.objs.size + 1), H', I3, rfl, q3⟩⟩)
end
section
variable {K : PySem.W.Frag} {P : Addr → Prop} {F0 H0 F H : Hp} {σ : L2.St} {C : Addr} {sp : Sp} {E : L2.St → XK} {Q : VK} {t : TA}
theorem rd_makeS (k : t σ H (mkK C sp (E σ) Q)) : tMakeS C sp E t σ H Q := k
theorem rd_callS (k : t σ H fun vs H1 => sp vs H1 Q (E σ)) : tCallS sp E t σ H Q := k
end
/-! ### try: body, except C as e: suite -/
def tTry (tb : WX → TS) (K : PySem.W.Frag) (c : Value) (i : Nat) (ts : Addr → Value → Option Addr → TS) (Wout : WX) : TS := fun D σ H => tb (wAs K c i ts Wout D) D σ H
section
variable {X : Cx} {x n : Str} {c : Value} {i : Nat} {body suite : List Stmt} {b₀ : Stmt} {np pos pos' : Pos} {tb : WX → TS} {ts : Addr → Value → Option Addr → TS} {Wout : WX}
theorem ps_tryK (hs : X.stack = X.env :: X.outer) (hf : X.env.frame = some X.env.locals) (hN : X.N.Nodup) (hi : X.N[i]? = some n) (hln : X.env.kindOf n = some .local) (hc : Names X x c) (tk : Takes X Wout)
    (hb : ∀ (W : WX) (pn : List (Addr × Obj)) (xe : Value → Shared → Prop), Takes (X.tr pn xe) W → PassesOwn (model X.prog X.w) X.A X.env xe → PSs (X.tr pn xe) body (tb W))
    (hsu : ∀ (a : Addr) (oe : Obj) (cls : Value) (d : Option Addr) (pn : List (Addr × Obj)), Zc cls d oe → (∃ vs, oe.data = .fields vs) → PSs (X.suite a ((a, oe) :: pn)) (b₀ :: suite) (ts a cls d)) :
    PS X (.Try body [.ExceptHandler (some (.Name x np)) (some n) (b₀ :: suite) pos'] [] [] pos) (tTry tb X.K c i ts Wout) := ps_try_as hs hf hN hi hln hc tk hb hsu
theorem takesF : Takes X (fun _ _ _ _ => False) := L2.takes0
end
section
variable {K : PySem.W.Frag} {P : Addr → Prop} {F0 H0 F H : Hp} {σ : L2.St} {c : Value} {i : Nat} {tb : WX → TS} {ts : Addr → Value → Option Addr → TS} {Wout : WX} {D : Ends} {N B C : L2.St → Hp → Prop} {R : VK} {cls : Value} {d : Option Addr}
theorem rd_try (k : tb (wAs K c i ts Wout ⟨N, R, B, C⟩) ⟨N, R, B, C⟩ σ H) : tTry tb K c i ts Wout ⟨N, R, B, C⟩ σ H := k
theorem rd_was (hb : PySem.W.exmOne K cls c = some true) (k : ∀ a, H a = none → ts a cls d ⟨fun σ' H' => D.nx (σ'.set i none) H', D.rt, fun σ' H' => D.bk (σ'.set i none) H', fun σ' H' => D.ct (σ'.set i none) H'⟩ (σ.set i (some (.ref a))) H) : WE (wAs K c i ts Wout D) σ cls d H := ⟨true, hb, fun _ => k, fun z => by cases z⟩
end
/-! ### fields of the caught error, isinstance of it -/
section
variable {K : PySem.W.Frag} {H : Hp} {σ : L2.St} {a C dd : Addr} {cls : Value} {d : Option Addr} {f : Str} {Q : VK} {te : TE} {l : List (Str × V)} {v : V}
def xfK (a : Addr) (cls : Value) (d : Option Addr) (C : Addr) (f : Str) (Q : VK) : VK := fun x H1 => x = .ref a ∧ cls = .ref C ∧ ∃ (dd : Addr) (fs : List (Str × V)) (v : V), d = some dd ∧ H1 dd = some (.xd fs) ∧ fs.lookup f = some v ∧ Q v H1
theorem rd_xf (k : te σ H (xfK a cls d C f Q)) : tXf a cls d C f te σ H Q := k
theorem xf_at (h : H dd = some (.xd l)) (e : l.lookup f = some v) (k : Q v H) : xfK a (.ref C) (some dd) C f Q (.ref a) H := ⟨rfl, rfl, dd, l, v, rfl, h, e, k⟩
/-- what is asked of a class, so that isinstance of its errors is known -/
def isEB (K : PySem.W.Frag) (D : Addr) : Bool := (PySem.W.clsIn K D).isSome && (decide (PySem.W.findIn K (.ref D) "__getattribute__" = some (some (.builtin "BaseException.__getattribute__"))) && (decide (PySem.W.findIn K (.ref D) "__getattr__" = some none) && (decide (PySem.W.subIn K (.ref D) (.type "BaseException") = some true) &&
  (decide (PySem.W.findIn K (.ref D) "__class__" = some (some (.builtin "object.__class__"))) && (decide (PySem.W.specialIn K (.builtin "object.__class__") "__get__" = some (some (.builtin "getset_descriptor.__get__"))) && (decide (PySem.W.takesIn K (.builtin "object.__class__") = some true) && decide (PySem.W.mroIn K D (.type "object") = some true)))))))
def rIsX (K : PySem.W.Frag) (D a : Addr) (cls : Value) (d : Option Addr) : List V → Hp → VK → Prop := fun xs H Q => ∃ (c : V) (cv : Value) (b : Bool) (dd : Addr) (l : List (Str × V)), xs = [.ref a, c] ∧ cls = .ref D ∧ d = some dd ∧ H dd = some (.xd l) ∧ (∀ u, RelV c u → u = cv) ∧ PySem.W.kitOne K (.ref D) cv = some b ∧ Q (.bl b) H
theorem cr_isX {X : Cx} {D : Addr} {oe : Obj} {pn : List (Addr × Obj)} (c : isEB X.K D = true) (hz : Zc cls d oe) (hf : ∃ vs, oe.data = .fields vs) : CallR (X.suite a ((a, oe) :: pn)) (.builtin "isinstance") (rIsX X.K D a cls d) := by
  intro pins s σ H xs us Q I r h
  obtain ⟨cv', cv, b, dd, l, rfl, rfl, rfl, hdd, hcv, e, q⟩ := h
  unfold isEB at c
  obtain ⟨c1, c⟩ := He.ba c
  obtain ⟨c2, c⟩ := He.ba c
  obtain ⟨c3, c⟩ := He.ba c
  obtain ⟨c4, c⟩ := He.ba c
  obtain ⟨c5, c⟩ := He.ba c
  obtain ⟨c6, c⟩ := He.ba c
  obtain ⟨c7, c8⟩ := He.ba c
  cases r with
  | cons rx rr =>
    cases rr with
    | cons rt rr =>
      cases rr
      cases rx
      have ec := hcv _ rt
      subst ec
      have hget := (I.pin (a, oe) (List.mem_append.mpr (.inl List.mem_cons_self))).1
      obtain ⟨vs, hv⟩ := hf
      obtain ⟨mA, hns, _⟩ := (I.hok dd _ hdd : ObjOk X.prog X.w H s.heap dd (.xd l))
      obtain ⟨od, ho, _⟩ := lookIn_ns hns
      have J : PySem.W.InstAt s.heap a oe D (some od) := ⟨hget, hz.1, by unfold PySem.W.notCls; rw [hv] <;> rfl, by rw [hz.2]; exact ho⟩
      exact PySem.W.kia_one (PySem.W.kitx_exc c1 (of_decide_eq_true c2) (of_decide_eq_true c3) (of_decide_eq_true c4) (of_decide_eq_true c5) (of_decide_eq_true c6) (of_decide_eq_true c7) (of_decide_eq_true c8)) I.kIn J e (fun z => nomatch z) fun tk => ⟨.bl b, H, I.kept (t' := tk) fun _ _ z => z, rfl, q⟩
def kitB (K : PySem.W.Frag) (D : Addr) (cv : Value) (b : Bool) : Bool := decide (PySem.W.kitOne K (.ref D) cv = some b)
theorem rd_isX {D : Addr} {cx : V} {cv : Value} {b : Bool} (h : H dd = some (.xd l)) (hc : ∀ u, RelV cx u → u = cv) (k : kitB K D cv b = true) (q : Q (.bl b) H) : rIsX K D a (.ref D) (some dd) [.ref a, cx] H Q := ⟨cx, cv, b, dd, l, rfl, rfl, rfl, h, hc, of_decide_eq_true k, q⟩
def exmB (K : PySem.W.Frag) (x y : Str) : Bool := decide (PySem.W.exmOne K (.ref (He.ga K x)) (.ref (He.ga K y)) = some true)
theorem exmB_ok {x y : Str} (h : exmB K x y = true) : PySem.W.exmOne K (.ref (He.ga K x)) (.ref (He.ga K y)) = some true := of_decide_eq_true h
end
/-! ## a in d, d an own dict of any base -/
theorem rd_inNDVa {K : PySem.W.Frag} {P P2 : Addr → Prop} {F0 H0 G0 F H : Hp} {v : V} {Q : VK} {α β : Type} {A : R α} {B : R β} {D : Kd A} {xs : List (α × β)} {a : α} {p : Addr} {kvs : List (NestedKey × Addr × V)} {Pg : Program} {w : World} [DecidableEq α] (S : Sx P F0 H0 F H) (o : Ow P2 G0 F H p (ndvO Pg w p kvs)) (row : KVRow D B K F kvs xs) (r : A.r K F v a) (hq : ∃ q, v = .ref q) (k : Q (.bl (memKV a xs)) H) : rInV2 Pg w K false v (.ref p) H Q := by
  obtain ⟨q, rfl⟩ := hq
  exact ⟨p, kvs, D.k a, q, rfl, rfl, o.at_, row.ok S.sub, NKv.mono S.sub (D.is r), D.dep a, by rw [if_neg (by decide), row.mem]; exact k⟩
theorem rd_niNDVa {K : PySem.W.Frag} {P P2 : Addr → Prop} {F0 H0 G0 F H : Hp} {v : V} {Q : VK} {α β : Type} {A : R α} {B : R β} {D : Kd A} {xs : List (α × β)} {a : α} {p : Addr} {kvs : List (NestedKey × Addr × V)} {Pg : Program} {w : World} [DecidableEq α] (S : Sx P F0 H0 F H) (o : Ow P2 G0 F H p (ndvO Pg w p kvs)) (row : KVRow D B K F kvs xs) (r : A.r K F v a) (hq : ∃ q, v = .ref q) (k : Q (.bl (!memKV a xs)) H) : rInV2 Pg w K true v (.ref p) H Q := by
  obtain ⟨q, rfl⟩ := hq
  exact ⟨p, kvs, D.k a, q, rfl, rfl, o.at_, row.ok S.sub, NKv.mono S.sub (D.is r), D.dep a, by rw [if_pos rfl, row.mem]; exact k⟩
theorem mt_joinKK {X : Cx} {K : PySem.W.Frag} (hK : X.K = K := by rfl) : MtR X "str.join" (rJoin K) := by subst hK; exact mt_joinK
/-! ## data in order: > -/
def rGtD (K : PySem.W.Frag) : R2 := fun x y H Q => ∃ d e, Dp K H x d ∧ Dp K H y e ∧ PySem.W.alike d e = true ∧ d ≠ .none ∧ d.depth ≤ 16 ∧ Q (.bl (PySem.W.dataLt e d)) H
theorem op_gtD {X : Cx} (hu : X.A.units + 64 < cLine) : OpR X (compareOp .Gt) (rGtD X.K) := by
  intro pins s σ H x y v u Q I rx ry h
  obtain ⟨d, e, hd, he, ha, hn, hdep, q⟩ := h
  obtain ⟨as, r1⟩ := Dp.reads I d x v hd rx
  obtain ⟨bs, r2⟩ := Dp.reads I e y u he ry
  have : min d.depth e.depth ≤ 16 := Nat.le_trans (Nat.min_le_left _ _) hdep
  exact PySem.W.gt_data r1 r2 ha hn (by omega) ⟨.bl _, H, I, rfl, q⟩
theorem rd_gtD {α : Type} {A : R α} {K : PySem.W.Frag} {H : Hp} {v w : V} {a b : α} {Q : VK} {D : Dat A} (o : Ord1 D) (s : SeenD D K H v a) (t : SeenD D K H w b) (hn : D.d a ≠ .none) (h : Nat.ble o.n 16 = true) (k : Q (.bl (ltD D b a)) H) : rGtD K v w H Q :=
  ⟨_, _, s, t, o.al a b, hn, Nat.le_trans (o.dep a) (Nat.le_of_ble_eq_true h), k⟩
/-! ## shapes: [k], or [sign, shape, shape] -/
inductive Shp where
  | lf (k : Int)
  | nd (op : Str) (l r : Shp)
def Shp.rel (F : Hp) : Shp → V → Prop
  | .lf k, v => ∃ p, v = .ref p ∧ F p = some (.lst [.int k])
  | .nd op l r, v => ∃ p u w, v = .ref p ∧ F p = some (.lst [.str op, u, w]) ∧ l.rel F u ∧ r.rel F w
theorem Shp.mono {F F' : Hp} (e : Same F F') : ∀ {a : Shp} {v : V}, a.rel F v → a.rel F' v
  | .lf _, _, ⟨p, h1, h2⟩ => ⟨p, h1, e _ _ h2⟩
  | .nd _ _ _, _, ⟨p, u, w, h1, h2, h3, h4⟩ => ⟨p, u, w, h1, e _ _ h2, Shp.mono e h3, Shp.mono e h4⟩
def qSh : R Shp := ⟨fun _ F v a => a.rel F v, fun e h => Shp.mono e h⟩
def Shp.len : Shp → Int
  | .lf _ => 1
  | .nd _ _ _ => 3
def Shp.num : Shp → Option Int
  | .lf k => some k
  | .nd _ _ _ => none
def Shp.op : Shp → Option Str
  | .lf _ => none
  | .nd z _ _ => some z
def Shp.lft : Shp → Option Shp
  | .lf _ => none
  | .nd _ l _ => some l
def Shp.rgt : Shp → Option Shp
  | .lf _ => none
  | .nd _ _ r => some r
def Shp.isOp (a : Shp) (z : Str) : Bool := decide (a.op = some z)
section
variable {K : PySem.W.Frag} {P : Addr → Prop} {F0 H0 F H : Hp} {v : V} {Q : VK} {a l r : Shp} {k : Int} {z : Str}
theorem sh_of1 (h : (qL qI).r K F v [k]) : qSh.r K F v (.lf k) := by
  obtain ⟨p, vs, h1, h2, h3⟩ := h
  cases h3 with
  | cons h t =>
    cases t
    have e : _ = V.int k := h
    subst e
    exact ⟨p, h1, h2⟩
theorem sh_of3 {x : Str × Shp × Shp} (h : (qLr (fc qS (fc qSh (f1 qSh)))).r K F v x) : qSh.r K F v (.nd x.1 x.2.1 x.2.2) := by
  obtain ⟨p, vs, h1, h2, h3⟩ := h
  obtain ⟨u0, s0, rfl, e0, u1, s1, rfl, e1, u2, rfl, e2⟩ := h3
  have e : u0 = V.str x.1 := e0
  subst e
  exact ⟨p, u1, u2, h1, h2, e1, e2⟩
theorem rd_lenSh (S : Sx P F0 H0 F H) (h : qSh.r K F v a) (q : Q (.int a.len) H) : rLenQ K [v] H Q := by
  cases a with
  | lf k =>
    obtain ⟨p, rfl, h2⟩ := h
    exact ⟨p, _, rfl, .inl (SqL.of (S.sub _ _ h2)), q⟩
  | nd op l r =>
    obtain ⟨p, u, w, rfl, h2, _, _⟩ := h
    exact ⟨p, _, rfl, .inl (SqL.of (S.sub _ _ h2)), q⟩
theorem rd_shN (S : Sx P F0 H0 F H) (h : qSh.r K F v a) (e : a.num = some k) (q : Q (.int k) H) : rIxL K v (.int 0) H Q := by
  cases a with
  | lf k' =>
    cases e
    obtain ⟨p, rfl, h2⟩ := h
    exact ⟨p, _, 0, _, rfl, rfl, SqL.of (S.sub _ _ h2), rfl, q⟩
  | nd op l r => cases e
theorem rd_shO (S : Sx P F0 H0 F H) (h : qSh.r K F v a) (e : a.op = some z) (q : Q (.str z) H) : rIxL K v (.int 0) H Q := by
  cases a with
  | lf k' => cases e
  | nd op l r =>
    cases e
    obtain ⟨p, u, w, rfl, h2, _, _⟩ := h
    exact ⟨p, _, 0, _, rfl, rfl, SqL.of (S.sub _ _ h2), rfl, q⟩
theorem rd_shL (S : Sx P F0 H0 F H) (h : qSh.r K F v a) (e : a.lft = some l) (q : ∀ u, qSh.r K F u l → Q u H) : rIxL K v (.int 1) H Q := by
  cases a with
  | lf k' => cases e
  | nd op l' r =>
    cases e
    obtain ⟨p, u, w, rfl, h2, h3, _⟩ := h
    exact ⟨p, _, 1, u, rfl, rfl, SqL.of (S.sub _ _ h2), rfl, q u h3⟩
theorem rd_shR (S : Sx P F0 H0 F H) (h : qSh.r K F v a) (e : a.rgt = some r) (q : ∀ u, qSh.r K F u r → Q u H) : rIxL K v (.int 2) H Q := by
  cases a with
  | lf k' => cases e
  | nd op l r' =>
    cases e
    obtain ⟨p, u, w, rfl, h2, _, h4⟩ := h
    exact ⟨p, _, 2, w, rfl, rfl, SqL.of (S.sub _ _ h2), rfl, q w h4⟩
end
/-! ## patterns: == of their own, which class they are of -/
structure PatE (K : PySem.W.Frag) : Prop where
  eq : ∀ x, isPatC x → OwnEq K (He.ga K x) (He.fAd K ("Pattern", some "__eq__"))
  nf : ∀ x y, isPatC x → isPatC y → PySem.W.notFirst K (He.ga K x) (.ref (He.ga K y)) = true
  ns : ∀ x, isPatC x → PySem.W.notFirst K (He.ga K x) (.type "str") = true
  isc : ∀ x y, isPatC x → isPatC y → PySem.W.kitOne K (.ref (He.ga K x)) (.ref (He.ga K y)) = some (decide (x = y))
  strP : PySem.W.kitOne K (.type "str") (.ref (He.ga K "Pattern")) = some false
def patEB (K : PySem.W.Frag) : Bool := (patCs.all fun x => decide (PySem.W.findIn K (.ref (He.ga K x)) "__eq__" = some (some (.ref (He.fAd K ("Pattern", some "__eq__"))))) && (PySem.W.isFn K (.ref (He.fAd K ("Pattern", some "__eq__"))) && (PySem.W.notFirst K (He.ga K x) (.type "str") &&
  patCs.all fun y => PySem.W.notFirst K (He.ga K x) (.ref (He.ga K y)) && isaB K x y (decide (x = y))))) && decide (PySem.W.kitOne K (.type "str") (.ref (He.ga K "Pattern")) = some false)
theorem patEB_ok {K : PySem.W.Frag} (h : patEB K = true) : PatE K := by
  obtain ⟨h1, h2⟩ := He.ba h
  have z := fun x (hx : isPatC x) => List.all_eq_true.mp h1 x (patCs_mem hx)
  have z4 := fun x (hx : isPatC x) y (hy : isPatC y) => List.all_eq_true.mp (He.ba (He.ba (He.ba (z x hx)).2).2).2 y (patCs_mem hy)
  exact ⟨fun x hx => ⟨of_decide_eq_true (He.ba (z x hx)).1, (He.ba (He.ba (z x hx)).2).1⟩, fun x y hx hy => (He.ba (z4 x hx y hy)).1, fun x hx => (He.ba (He.ba (He.ba (z x hx)).2).2).1, fun x y hx hy => isaB_ok (He.ba (z4 x hx y hy)).2, of_decide_eq_true h2⟩
section
variable {K : PySem.W.Frag} {P : Addr → Prop} {F0 H0 F H : Hp} {v w : V} {Q : VK} {a b : Pat} {sp : Sp} {E : XK}
theorem rd_isPatC (T : PatF K) (U : PatE K) {y : Str} (hy : isPatC y) (S : Sx P F0 H0 F H) (r : qPat.r K F v a) (k : Q (.bl (decide (a.cls = y))) H) : rIsi K [v, .ref (He.ga K y)] H Q :=
  ⟨v, _, _, _, _, rfl, .own _, tx_pat T S r, U.isc a.cls y a.isC hy, k⟩
theorem rd_isPatS (U : PatE K) {z : Str} (k : Q (.bl false) H) : rIsi K [.str z, .ref (He.ga K "Pattern")] H Q :=
  ⟨.str z, _, _, _, false, rfl, .own _, tx_str, U.strP, k⟩
theorem pat_eq (U : PatE K) (S : Sx P F0 H0 F H) (r : qPat.r K F v a) (r2 : qPat.r K F w b) (k : sp [v, w] H Q E) : rEqO K (He.fAd K ("Pattern", some "__eq__")) sp E v w H Q := by
  obtain ⟨p, dx, fs, rfl, h2, h3⟩ := qPat_ins r S.sub
  obtain ⟨q, dy, gs, rfl, h5, h6⟩ := qPat_ins r2 S.sub
  exact ⟨p, _, dx, fs, rfl, h2, U.eq a.cls a.isC, .ins h5 (U.nf a.cls b.cls a.isC b.isC), k⟩
theorem pat_eqS (U : PatE K) {z : Str} (S : Sx P F0 H0 F H) (r : qPat.r K F v a) (k : sp [v, .str z] H Q E) : rEqO K (He.fAd K ("Pattern", some "__eq__")) sp E v (.str z) H Q := by
  obtain ⟨p, dx, fs, rfl, h2, h3⟩ := qPat_ins r S.sub
  exact ⟨p, _, dx, fs, rfl, h2, U.eq a.cls a.isC, .str z (U.ns a.cls a.isC), k⟩
end
/-- shape[0] == sign, also where a number stands there -/
def shOkS : Shp → Bool
  | .lf _ => true
  | .nd z _ _ => SeqAt.shaped (PyData.str z)
theorem rd_shEq0 {K : PySem.W.Frag} {P : Addr → Prop} {F0 H0 F H : Hp} {v : V} {Q : VK} {a : Shp} {z : Str} (S : Sx P F0 H0 F H) (h : qSh.r K F v a) (g : shOkS a = true) (gz : SeqAt.shaped (PyData.str z) = true) (k : Q (.bl (a.isOp z)) H) : rIxL K v (.int 0) H (fun x H1 => rEqD K x (.str z) H1 Q) := by
  cases a with
  | lf j =>
    refine rd_shN S h rfl ⟨.int j, .str z, .int j, .str z, rfl, gz, ?_⟩
    have e : (PyData.int j).eqv (.str z) = false := by simp [PyData.eqv]
    rw [e]
    simpa [Shp.isOp, Shp.op] using k
  | nd op l r =>
    refine rd_shO S h rfl ⟨.str op, .str z, .str op, .str z, g, gz, ?_⟩
    have e : (PyData.str op).eqv (.str z) = decide (op = z) := by
      simp only [PyData.eqv]
      rw [Bool.eq_iff_iff, beq_iff_eq, decide_eq_true_eq]
    rw [e]
    simpa [Shp.isOp, Shp.op] using k
theorem rd_shEq {K : PySem.W.Frag} {P : Addr → Prop} {F0 H0 F H : Hp} {v : V} {Q : VK} {a : Shp} {z : Str} {σ : L2.St} (S : Sx P F0 H0 F H) (h : qSh.r K F v a) (g : shOkS a = true) (gz : SeqAt.shaped (PyData.str z) = true) (k : Q (.bl (a.isOp z)) H) : rIxL K v (.int 0) H (fun x H1 => tC (V.str z) σ H1 fun y H2 => rEqD K x y H2 Q) :=
  rd_shEq0 S h g gz k
end Gl

namespace Gl
open PySem PySem.Spec PyProof.Rows L2 C8

/-! ## dicts from texts to things, that stand for good -/
def SdRow (K : PySem.W.Frag) (F : Hp) (kvs : List (Key × V)) (xs : List (Str × Th)) : Prop := Paired (fun (kv : Key × V) (x : Str × Th) => kv.1 = .inr x.1 ∧ qTh.r K F kv.2 x.2) kvs xs
theorem SdRow.mono {K : PySem.W.Frag} {F F' : Hp} {kvs : List (Key × V)} {xs : List (Str × Th)} (e : Same F F') (h : SdRow K F kvs xs) : SdRow K F' kvs xs := Paired.mapP h fun _ _ r => ⟨r.1, qTh.mono e r.2⟩
def qSd : R (List (Str × Th)) := ⟨fun K F v xs => ∃ p kvs, v = .ref p ∧ F p = some (.dK kvs) ∧ SdRow K F kvs xs, fun e ⟨p, kvs, h1, h2, h3⟩ => ⟨p, kvs, h1, e _ _ h2, SdRow.mono e h3⟩⟩
def getSd (k : Str) : List (Str × Th) → Option Th
  | [] => none
  | x :: xs => if x.1 = k then some x.2 else getSd k xs
theorem SdRow.get {K : PySem.W.Frag} {F : Hp} {k : Str} : ∀ {kvs : List (Key × V)} {xs : List (Str × Th)}, SdRow K F kvs xs → (valV kvs (.inr k) = none ∧ getSd k xs = none) ∨ ∃ u t, valV kvs (.inr k) = some u ∧ getSd k xs = some t ∧ qTh.r K F u t
  | _, _, .nil => .inl ⟨rfl, rfl⟩
  | kv :: kvs, x :: xs, .cons r t => by
    by_cases e : x.1 = k
    · refine .inr ⟨kv.2, x.2, valV_pos (by rw [r.1, e]), ?_, r.2⟩
      show (if x.1 = k then _ else _) = _
      rw [if_pos e]
    · have n : ¬ kv.1 = (.inr k : Key) := fun z => by rw [r.1] at z; exact e (Sum.inr.inj z)
      rw [valV_neg n]
      show _ ∨ ∃ u t, _ ∧ (if x.1 = k then some x.2 else getSd k xs) = some t ∧ _
      rw [show getSd k (x :: xs) = getSd k xs from if_neg e, if_neg e]
      exact SdRow.get t
section
variable {K : PySem.W.Frag} {P : Addr → Prop} {F0 H0 F H : Hp} {v : V} {xs : List (Str × Th)} {Q : VK} {σ : L2.St} {td ty : TE} {k : Str} {t : Th}
def rDg : R2 := fun x y H Q => ∃ a u, x = .ref a ∧ DGet H a y (some u) ∧ Q u H
theorem pe_dgetO {X : Cx} {o i : Expr} {pos : Pos} (hu : X.A.units + 64 < cLine) (ho : PE X o td) (hi : PE X i ty) (hs : NoSl i) : PE X (.Subscript o i pos) (tOp rDg td ty) := pe_dget (by omega) ho hi hs
theorem rd_dgSd (S : Sx P F0 H0 F H) (r : qSd.r K F v xs) (h : getSd k xs = some t) (q : ∀ u, qTh.r K F u t → Q u H) : rDg v (.str k) H Q := by
  obtain ⟨p, kvs, rfl, h1, h2⟩ := r
  rcases h2.get (k := k) with ⟨e1, e2⟩ | ⟨u, t', e1, e2, e3⟩
  · rw [h] at e2; cases e2
  · rw [h] at e2
    cases e2
    exact ⟨p, u, rfl, by have := DGet.k (k := .inr k) (S.sub _ _ h1); rw [e1] at this; exact this, q u e3⟩
def rDi (neg : Bool) : R2 := fun x y H Q => ∃ a o, y = .ref a ∧ DGet H a x o ∧ Q (.bl (if neg = true then !o.isSome else o.isSome)) H
theorem op_dIn {X : Cx} (hu : X.A.units + 64 < cLine) : OpR X (compareOp .In) (rDi false) := by
  intro pins s σ H x y v u Q I rx ry h
  obtain ⟨a, o, rfl, g, q⟩ := h
  cases ry
  rw [if_neg (by decide)] at q
  exact d_in (by omega) I g rx fun s' I' => ⟨.bl _, H, I', rfl, q⟩
theorem op_dNi {X : Cx} (hu : X.A.units + 64 < cLine) : OpR X (compareOp .NotIn) (rDi true) := by
  intro pins s σ H x y v u Q I rx ry h
  obtain ⟨a, o, rfl, g, q⟩ := h
  cases ry
  rw [if_pos rfl] at q
  exact d_notIn (by omega) I g rx fun s' I' => ⟨.bl _, H, I', rfl, q⟩
theorem SdRow.some_eq {kvs : List (Key × V)} (h : SdRow K F kvs xs) : (valV kvs (.inr k)).isSome = (getSd k xs).isSome := by
  rcases h.get (k := k) with ⟨e1, e2⟩ | ⟨u, t', e1, e2, e3⟩
  · rw [e1, e2]; rfl
  · rw [e1, e2]; rfl
theorem rd_dInSd (S : Sx P F0 H0 F H) (r : qSd.r K F v xs) (q : Q (.bl (getSd k xs).isSome) H) : rDi false (.str k) v H Q := by
  obtain ⟨p, kvs, rfl, h1, h2⟩ := r
  exact ⟨p, _, rfl, DGet.k (k := .inr k) (S.sub _ _ h1), by rw [if_neg (by decide), h2.some_eq]; exact q⟩
theorem rd_dNiSd (S : Sx P F0 H0 F H) (r : qSd.r K F v xs) (q : Q (.bl (!(getSd k xs).isSome)) H) : rDi true (.str k) v H Q := by
  obtain ⟨p, kvs, rfl, h1, h2⟩ := r
  exact ⟨p, _, rfl, DGet.k (k := .inr k) (S.sub _ _ h1), by rw [if_pos rfl, h2.some_eq]; exact q⟩
end
/-! ### displays {'a': x, ..}: the keys written, the values at hand -/
theorem mergeK_snoc : ∀ (more acc : List (Key × V)), ((acc ++ more).map (·.1)).Nodup → mergeK acc more = acc ++ more
  | [], acc, _ => by rw [List.append_nil]; rfl
  | kv :: more, acc, h => by
    have hn : valV acc kv.1 = none := by
      cases e : valV acc kv.1 with
      | none => rfl
      | some u =>
        have h2 := valV_any kv.1 acc
        rw [e] at h2
        obtain ⟨z, hz, hz2⟩ := List.any_eq_true.mp h2
        rw [List.map_append, List.map_cons, List.nodup_append] at h
        exact absurd (of_decide_eq_true hz2) (h.2.2 _ (List.mem_map_of_mem hz) _ List.mem_cons_self)
    show mergeK (putK acc kv.1 kv.2) more = _
    rw [putK_new _ hn, mergeK_snoc more (acc ++ [(kv.1, kv.2)]) (by rw [List.append_assoc]; exact h), List.append_assoc]
    rfl
theorem mergeK_self {kvs : List (Key × V)} {ks : List Key} (e : kvs.map (·.1) = ks) (h : ks.Nodup) : mergeK [] kvs = kvs := mergeK_snoc kvs [] (by rw [List.nil_append, e]; exact h)
section
variable {K : PySem.W.Frag} {P : Addr → Prop} {F0 H0 F H : Hp} {Q : VK} {σ : L2.St} {trs : List (TE × TE)} {tk tv : TE} {p : Addr} {xs : List (Str × Th)} {kvs : List (Key × V)} {R : List (V × V) → Hp → Prop}
def spK (p : Addr) (Q : VK) : List (V × V) → Hp → Prop := fun ps H2 => H2 p = some (.dK []) ∧ ∃ kvs : List (Key × V), ps = kvs.map (fun kv => (kV kv.1, kv.2)) ∧ kvs.length ≤ 15 ∧ Q (.ref p) (upd H2 p (.dK (mergeK [] kvs)))
theorem rd_disp (S : Sx P F0 H0 F H) (k : ∀ p H', H p = none → Sx P0 F H F H' → Ow P H0 F H' p (.dK []) → tPairs trs σ H' (spK p Q)) : tDisp trs σ H Q :=
  fun p hp => k p _ hp ((Sx.refl0 S.sub).temp hp) (S.own hp)
theorem rd_pp (k : tk σ H fun x H1 => tv σ H1 fun y H2 => tPairs trs σ H2 fun ps H3 => R ((x, y) :: ps) H3) : tPairs ((tk, tv) :: trs) σ H R := k
theorem rd_p0 (k : R [] H) : tPairs [] σ H R := k
theorem rd_dispE {ps : List (V × V)} {ks : List Key} (S : Sx P F0 H0 F H) (w : Ow P H0 F H p (.dK [])) (row : SdRow K F kvs xs) (e : ps = kvs.map (fun kv => (kV kv.1, kv.2))) (h15 : Nat.ble kvs.length 15 = true) (ek : kvs.map (·.1) = ks) (nd : ks.Nodup)
    (k : ∀ H', Sx (fun a => a = p) F H F H' → Ow P H0 F H' p (.dK kvs) → Q (.ref p) H') : spK p Q ps H :=
  ⟨w.at_, kvs, e, Nat.le_of_ble_eq_true h15, by rw [mergeK_self ek nd]; exact k _ (putS S w) w.put⟩
theorem fzSd (S : Sx P F0 H0 F H) (w : Ow P H0 F H p (.dK kvs)) (h0 : H0 p = none) (row : SdRow K F kvs xs) : ∃ F', Sx P F0 H0 F' H ∧ Same F F' ∧ qSd.r K F' (.ref p) xs ∧ ∀ q, q ≠ p → F' q = F q :=
  ⟨_, S.freeze w h0, w.leF, ⟨p, kvs, rfl, upd_same, SdRow.mono w.leF row⟩, fun _ n => upd_ne n⟩
end
/-! ## things that are none or a number, truths -/
def thOI : Th → Option (Option Int)
  | .d .none => some none
  | .d (.int i) => some (some i)
  | _ => none
def thB : Th → Option Bool
  | .d (.bool b) => some b
  | _ => none
def thO : Option Int → Th
  | none => .d .none
  | some i => .d (.int i)
def thNon (t : Th) : Bool := match t with
  | .d .none => true
  | _ => false
def thIsB (t : Th) (c : Bool) : Bool := match t with
  | .d (.bool b) => decide (b = c)
  | _ => false
theorem thOI_O (o : Option Int) : thOI (thO o) = some o := by cases o <;> rfl
section
variable {K : PySem.W.Frag} {P : Addr → Prop} {F0 H0 F H : Hp} {v : V} {a : Th} {Q : VK}
theorem thOI_fact {o : Option Int} (r : qTh.r K F v a) (h : thOI a = some o) : (qO qI).r K F v o := by
  cases a with
  | dct => cases h
  | d x =>
    cases x with
    | int z =>
      cases (show some (some z) = some o from h)
      cases (show Dp K F v (.int _) from r)
      rfl
    | none =>
      cases (show some none = some o from h)
      cases (show Dp K F v .none from r)
      rfl
    | _ => cases h
theorem thB_fact {b : Bool} (r : qTh.r K F v a) (h : thB a = some b) : v = .bl b := by
  cases a with
  | dct => cases h
  | d x =>
    cases x with
    | bool z =>
      cases (show some z = some b from h)
      cases (show Dp K F v (.bool _) from r)
      rfl
    | _ => cases h
theorem thO_r {o : Option Int} (r : (qO qI).r K F v o) : qTh.r K F v (thO o) := by
  cases o with
  | none => cases (show v = .non from r); exact Dp.non
  | some i => cases (show v = .int i from r); exact Dp.int _
/-- a thing's value is of these kinds -/
def plV : V → Bool
  | .non | .bl _ | .int _ | .str _ | .ref _ => true
  | _ => false
theorem th_pl (r : qTh.r K F v a) : plV v = true ∧ decide (v = .non) = thNon a ∧ ∀ c, decide (v = .bl c) = thIsB a c := by
  cases a with
  | dct =>
    obtain ⟨p, rfl, _⟩ := r
    exact ⟨rfl, by simp [thNon], fun c => by simp [thIsB]⟩
  | d x =>
    cases x with
    | none => cases (show Dp K F v .none from r); exact ⟨rfl, by simp [thNon], fun c => by simp [thIsB]⟩
    | bool b => cases (show Dp K F v (.bool b) from r); exact ⟨rfl, by simp [thNon], fun c => by simp [thIsB]⟩
    | int b => cases (show Dp K F v (.int b) from r); exact ⟨rfl, by simp [thNon], fun c => by simp [thIsB]⟩
    | str b => cases (show Dp K F v (.str b) from r); exact ⟨rfl, by simp [thNon], fun c => by simp [thIsB]⟩
    | list b =>
      cases (show Dp K F v (.list b) from r) with
      | lst h _ => exact ⟨rfl, by simp [thNon], fun c => by simp [thIsB]⟩
    | tuple b =>
      cases (show Dp K F v (.tuple b) from r) with
      | tup h _ => exact ⟨rfl, by simp [thNon], fun c => by simp [thIsB]⟩
    | dict b => cases (show Dp K F v (.dict b) from r)
def rIsBv : R2 := fun x y H Q => ∃ c, y = .bl c ∧ plV x = true ∧ Q (.bl (decide (x = .bl c))) H
theorem op_isBv {X : Cx} : OpR X (compareOp .Is) rIsBv := by
  intro pins s σ H x y v u Q I rx ry h
  obtain ⟨c, rfl, hp, q⟩ := h
  cases ry
  cases x with
  | non => cases rx; exact wpAny_is_plain (by rfl) (fin_bl I q (by simp))
  | bl b =>
    cases rx
    refine wpAny_is_plain (by rfl) (fin_bl I q ?_)
    cases b <;> cases c <;> rfl
  | int i => obtain ⟨t, rfl⟩ := rx; exact wpAny_is_plain (by rfl) (fin_bl I q (by simp))
  | str i => obtain ⟨t, rfl⟩ := rx; exact wpAny_is_plain (by rfl) (fin_bl I q (by simp))
  | ref i => cases rx; exact wpAny_is_plain (by rfl) (fin_bl I q (by simp))
  | _ => cases hp
theorem rd_isBTh {c : Bool} (r : qTh.r K F v a) (k : Q (.bl (thIsB a c)) H) : rIsBv v (.bl c) H Q := ⟨c, rfl, (th_pl r).1, by rw [(th_pl r).2.2 c]; exact k⟩
theorem rd_isNTh (r : qTh.r K F v a) (k : Q (.bl (thNon a)) H) : rIsN0 v .non H Q := ⟨rfl, by rw [(th_pl r).2.1]; exact k⟩
theorem rd_notNTh (r : qTh.r K F v a) (k : Q (.bl (!thNon a)) H) : rNotN0 v .non H Q := ⟨rfl, by rw [(th_pl r).2.1]; exact k⟩
end
/-! ## properties of own classes -/
def prA (K : PySem.W.Frag) (C f : Str) : Addr := match PySem.W.findIn K (.ref (He.ga K C)) f with
  | some (some (.ref p)) => p
  | _ => 0
def geA (K : PySem.W.Frag) (C f : Str) : Addr := match PySem.W.recIn K (prA K C f) "property" with
  | some (.ref g :: _) => g
  | _ => 0
def fnG (K : PySem.W.Frag) (C f : Str) : He.FnW := match K.lookup (geA K C f) with
  | some ⟨_, _, .func z, _⟩ => some (z.name, z.qualname, z.params, z.body, z.scope, z.globals, z.closure, z.builtins)
  | _ => none
def fdG (K : PySem.W.Frag) (C f : Str) : FuncData := match K.lookup (geA K C f) with
  | some ⟨_, _, .func z, _⟩ => z
  | _ => fdDefault
def prB (K : PySem.W.Frag) (C f q : Str) : Bool :=
  He.eqO (PySem.W.findIn K (.ref (He.ga K C)) f) (some (some (.ref (prA K C f)))) && (He.eqO (PySem.W.specialIn K (.ref (prA K C f)) "__get__") (some (some (.builtin "property.__get__"))) && (decide (PySem.W.takesIn K (.ref (prA K C f)) = some true) &&
  ((match PySem.W.recIn K (prA K C f) "property" with
    | some (.ref g :: _) => decide (g = geA K C f)
    | _ => false) && (PySem.W.keepIn K (.ref (geA K C f)) && (match K.lookup (geA K C f) with
    | some ⟨_, _, .func z, _⟩ => PySem.W.codeIn K z.code q && (He.dflB K z.defaults [] && He.kwdB K z.kwdefaults [])
    | _ => false)))))
structure Pr (K : PySem.W.Frag) (C f q : Str) (st : Stmt) : Prop where
  p : PropOf K (He.ga K C) f (prA K C f) (geA K C f)
  F : FunD K f q (defArgs st) (defBody st) (defScope st) [] [] (geA K C f) (fdG K C f)
theorem pr_ok {K : PySem.W.Frag} {C f q : Str} {st : Stmt} (c : prB K C f q = true) (e : fnG K C f = some (f, q, defArgs st, FuncBody.stmts (defBody st), defScope st, mainGlobals, [], builtinsNs)) : Pr K C f q st := by
  unfold prB at c
  obtain ⟨c1, c⟩ := He.ba c
  obtain ⟨c2, c⟩ := He.ba c
  obtain ⟨c3, c⟩ := He.ba c
  obtain ⟨c4, c⟩ := He.ba c
  obtain ⟨c5, c6⟩ := He.ba c
  refine ⟨⟨He.eqO_ok c1, He.eqO_ok c2, of_decide_eq_true c3, ?_⟩, ?_⟩
  · revert c4
    split
    · rename_i g r hr
      intro c4
      exact ⟨r, by rw [hr, of_decide_eq_true c4]⟩
    · intro c4; cases c4
  · unfold fnG at e
    cases hl : K.lookup (geA K C f) with
    | none => rw [hl] at e; cases e
    | some o =>
      obtain ⟨oc, od, dt, osl⟩ := o
      rw [hl] at e c6
      cases dt with
      | func z =>
        have hz : fdG K C f = z := by unfold fdG; rw [hl]
        rw [hz]
        obtain ⟨n1, n2, n3, n4, n5, n6, n7, n8, n9, n10, n11, n12, n13, n14, n15⟩ := z
        have e2 : (some (n1, n2, n3, n4, n5, n6, n7, n15) : He.FnW) = some (f, q, defArgs st, FuncBody.stmts (defBody st), defScope st, mainGlobals, [], builtinsNs) := e
        simp only [Option.some.injEq, Prod.mk.injEq] at e2
        obtain ⟨g1, g2, g3, g4, g5, g6, g7, g8⟩ := e2
        subst g1 g2 g3 g4 g5 g6 g7 g8
        obtain ⟨d1, d2⟩ := He.ba (show (PySem.W.codeIn K n13 _ && (He.dflB K n8 [] && He.kwdB K n9 [])) = true from c6)
        obtain ⟨d3, d4⟩ := He.ba d2
        exact ⟨⟨oc, od, n8, n9, n10, n11, n12, n13, n14, osl, rfl, hl, d1, He.dflB_ok d3, He.kwdB_ok d4⟩, c5⟩
      | _ => cases e
section
variable {K : PySem.W.Frag} {P : Addr → Prop} {F0 H0 F H : Hp} {Q : VK} {σ : L2.St} {C p dx : Addr} {sp : Sp} {dvs : List V} {E : XK} {ta : TE} {fs : List (Str × V)}
def prK (C : Addr) (sp : Sp) (dvs : List V) (E : XK) (Q : VK) : VK := fun x H1 => ∃ a dx fs, x = .ref a ∧ H1 a = some (.ins C dx fs) ∧ sp (.ref a :: dvs) H1 Q E
theorem rd_prop (k : ta σ H (prK C sp dvs E Q)) : tProp C sp dvs E ta σ H Q := k
theorem pr_at (h : H p = some (.ins C dx fs)) (k : sp (.ref p :: dvs) H Q E) : prK C sp dvs E Q (.ref p) H := ⟨p, dx, fs, rfl, h, k⟩
/-! ## C(e, .., k = v, ..) -/
variable {n m : Nat} {gV : List V → List V → List V} {t tk : TA} {vs zs rest : List V}
def mkKk (C : Addr) (n m : Nat) (sp : Sp) (gV : List V → List V → List V) (E : XK) (Q : VK) (vs zs : List V) (H2 : Hp) : Prop := vs.length = n ∧ zs.length = m ∧ ∀ x dx, H2 x = none → H2 dx = none → dx ≠ x → sp (gV (.ref x :: vs) zs) (upd (upd H2 dx (.own x)) x (.ins C dx [])) (fun v H3 => v = .non ∧ Q (.ref x) H3) E
theorem rd_makeK (k : t σ H fun vs H1 => tk σ H1 fun zs H2 => mkKk C n m sp gV E Q vs zs H2) : tMakeK C n m sp gV E t tk σ H Q := k
theorem mkk_at (h1 : vs.length = n) (h2 : zs.length = m) (e : ∀ x, gV (.ref x :: vs) zs = .ref x :: rest) (k : mkK C sp E Q rest H) : mkKk C n m sp gV E Q vs zs H := ⟨h1, h2, fun x dx a b c => by rw [e]; exact k x dx a b c⟩
theorem rd_makeD (k : t σ H (mkK C (fun vs => sp (vs ++ dvs)) E Q)) : tMake C sp dvs E t σ H Q := k
theorem mkd_at (e : vs ++ dvs = rest) (k : mkK C sp E Q rest H) : mkK C (fun us => sp (us ++ dvs)) E Q vs H := fun x dx a b c => by
  show sp (.ref x :: (vs ++ dvs)) _ _ _
  rw [e]; exact k x dx a b c
end
/-! ## dicts whose keys are pairs, of truths, numbers .. -/
def nB (b : Bool) : NestedKey := .num (if b = true then 1 else 0)
theorem nB_inj : ∀ a b : Bool, nB a = nB b → a = b := by decide
def kB : Kd qB := ⟨nB, fun {K F v a} h => by cases (show v = .bl a from h); exact .bl a, nB_inj, fun a => by show 0 ≤ 8; omega⟩
def k2 {α β : Type} {A : R α} {B : R β} (D : Kd A) (G : Kd B) (hd : ∀ a, (D.k a).depth ≤ 3) (hg : ∀ a, (G.k a).depth ≤ 3) : Kd (q2 A B) := ⟨fun x => .tup [D.k x.1, G.k x.2], fun {K F v a} h => by
    obtain ⟨p, u, w, rfl, h1, h2, h3⟩ := h
    exact .tup h1 (.cons (D.is h2) (.cons (G.is h3) .nil)), fun a b h => by
    have e := NestedKey.tup.inj h
    obtain ⟨e1, e2⟩ := List.cons.inj e
    obtain ⟨e2, _⟩ := List.cons.inj e2
    exact Prod.ext (D.inj _ _ e1) (G.inj _ _ e2), fun a => by
    rw [NestedKey.depth]
    have h1 := hd a.1
    have h2 := hg a.2
    simp only [NestedKey.depthAll]
    omega⟩
def kBB : Kd (q2 qB qB) := k2 kB kB (fun _ => by show 0 ≤ 3; omega) (fun _ => by show 0 ≤ 3; omega)
/-! ## own lists of unlike things -/
section
variable {K : PySem.W.Frag} {P : Addr → Prop} {F0 H0 F H : Hp} {p : Addr} {us : List V} {u : V} {Q : VK} {i : Int} {α : Type} {B : RR α} {a : α}
theorem rd_ixO (w : Ow P H0 F H p (.lst us)) (e : atI us i = some u) (k : Q u H) : rIxL K (.ref p) (.int i) H Q := ⟨p, us, i, u, rfl, rfl, SqL.of w.at_, e, k⟩
theorem rd_setO {R : Hp → Prop} {us' : List V} {j : Nat} (S : Sx P F0 H0 F H) (w : Ow P H0 F H p (.lst us)) (e : ixN us.length i = some j) (e2 : us.set j u = us') (k : ∀ H', Sx (fun a => a = p) F H F H' → Ow P H0 F H' p (.lst us') → R H') : rSetL (.ref p) (.int i) u H R :=
  ⟨p, us, i, j, rfl, rfl, w.at_, e, by rw [e2]; exact k _ (putS S w) w.put⟩
theorem fzRec (S : Sx P F0 H0 F H) (w : Ow P H0 F H p (.lst us)) (h0 : H0 p = none) (row : B.r K F us a) : ∃ F', Sx P F0 H0 F' H ∧ Same F F' ∧ (qLr B).r K F' (.ref p) a ∧ ∀ q, q ≠ p → F' q = F q :=
  ⟨_, S.freeze w h0, w.leF, ⟨p, us, rfl, upd_same, B.mono w.leF row⟩, fun _ n => upd_ne n⟩
end
/-! ## the order of tuples of unlike things -/
class OrdR {α : Type} {B : RR α} (E : DatR B) where
  n : Nat
  al : ∀ a b, PySem.W.alikeAll (E.d a) (E.d b) = true
  dep : ∀ a, PyData.depthAll (E.d a) ≤ n
instance orE1 {α : Type} {A : R α} {D : Dat A} [o : Ord1 D] : OrdR (e1 D) where
  n := o.n
  al := fun a b => by
    show PySem.W.alikeAll [D.d a] [D.d b] = true
    simp [PySem.W.alikeAll, o.al]
  dep := fun a => by
    show PyData.depthAll [D.d a] ≤ _
    have := o.dep a
    simp only [PyData.depthAll]
    omega
instance orEc {α β : Type} {A : R α} {B : RR β} {D : Dat A} {E : DatR B} [o : Ord1 D] [p : OrdR E] : OrdR (ec D E) where
  n := max o.n p.n
  al := fun a b => by
    show PySem.W.alikeAll (D.d a.1 :: E.d a.2) (D.d b.1 :: E.d b.2) = true
    rw [PySem.W.alikeAll, o.al, p.al]; rfl
  dep := fun a => by
    show PyData.depthAll (D.d a.1 :: E.d a.2) ≤ _
    have h1 := o.dep a.1
    have h2 := p.dep a.2
    simp only [PyData.depthAll]
    omega
instance orTr {α β : Type} {A : R α} {B : RR β} {D : Dat A} {E : DatR B} [o : Ord1 D] [p : OrdR E] : Ordd (dTr (ec D E)) where
  n := max o.n p.n + 1
  al := fun a b => by
    show PySem.W.alike (.tuple ((ec D E).d a)) (.tuple ((ec D E).d b)) = true
    rw [PySem.W.alike]; exact (orEc (D := D) (E := E)).al a b
  dep := fun a => by
    show (PyData.tuple ((ec D E).d a)).depth ≤ _
    rw [PyData.depth]
    have := (orEc (D := D) (E := E)).dep a
    exact Nat.succ_le_succ this
  srt := fun bs => PySem.W.Sortable.tuples fun b => ⟨_, _, rfl⟩
end Gl

namespace Gl
open PySem PySem.Spec PyProof.Rows L2

/-! ## plain mathematics: results that are there -/
def Ok {α : Type} (x : Option α) (Q : α → Prop) : Prop := ∃ a, x = some a ∧ Q a
section
variable {α β S ρ : Type} {x y : Option α} {P Q : α → Prop} {f : α → Option β} {R : β → Prop} {a : α} {b : Bool}
theorem Ok.sm (h : Q a) : Ok (some a) Q := ⟨a, rfl, h⟩
theorem Ok.bd (h : Ok x P) (k : ∀ a, P a → Ok (f a) R) : Ok (x.bind f) R := by
  obtain ⟨a, rfl, p⟩ := h
  exact k a p
theorem Ok.bde (h : x = some a) (k : Ok (f a) R) : Ok (x.bind f) R := by
  rw [h]; exact k
theorem Ok.gd (h : b = true) (k : Ok x Q) : Ok (gd b x) Q := by rw [gd_true h]; exact k
theorem Ok.ite (h1 : b = true → Ok x Q) (h2 : b = false → Ok y Q) : Ok (if b = true then x else y) Q := by
  cases b with
  | true => exact h1 rfl
  | false => exact h2 rfl
theorem Ok.mono (h : Ok x P) (k : ∀ a, P a → Q a) : Ok x Q := let ⟨a, e, p⟩ := h; ⟨a, e, k a p⟩
theorem Ok.eq {a : α} (h : Ok x fun r => r = a) : x = some a := let ⟨b, e, p⟩ := h; p ▸ e
theorem Ok.of (h : x = some a) (k : Q a) : Ok x Q := ⟨a, h, k⟩
/-- a loop: what holds ahead of each item -/
theorem Ok.loop {f : α → S → Option S} {xs : List α} {s0 : S} (I : List α → S → Prop) (h0 : I [] s0) (hs : ∀ pre x post s, xs = pre ++ x :: post → I pre s → Ok (f x s) (I (pre ++ [x]))) : Ok (loopS f xs s0) (I xs) := by
  have key : ∀ (post pre : List α) (s : S), xs = pre ++ post → I pre s → Ok (loopS f post s) (I xs) := by
    intro post
    induction post with
    | nil => intro pre s e h; rw [List.append_nil] at e; subst e; exact ⟨s, rfl, h⟩
    | cons x post ih =>
      intro pre s e h
      obtain ⟨s', e1, h1⟩ := hs pre x post s e h
      obtain ⟨r, e2, h2⟩ := ih (pre ++ [x]) s' (by rw [e]; simp) h1
      exact ⟨r, by show (f x s).bind _ = _; rw [e1]; exact e2, h2⟩
  exact key xs [] s0 rfl h0
/-- a loop that never leaves -/
theorem Ok.loopN {f : α → S → Option (Ctl S ρ)} {xs : List α} {s0 : S} (I : List α → S → Prop) (h0 : I [] s0) (hs : ∀ pre x post s, xs = pre ++ x :: post → I pre s → Ok (f x s) fun c => ∃ s', c = .nx s' ∧ I (pre ++ [x]) s') : Ok (loopC f xs s0) fun c => ∃ s', c = .nx s' ∧ I xs s' := by
  have key : ∀ (post pre : List α) (s : S), xs = pre ++ post → I pre s → Ok (loopC f post s) fun c => ∃ s', c = .nx s' ∧ I xs s' := by
    intro post
    induction post with
    | nil => intro pre s e h; rw [List.append_nil] at e; subst e; exact ⟨_, rfl, s, rfl, h⟩
    | cons x post ih =>
      intro pre s e h
      obtain ⟨_, e1, s', rfl, h1⟩ := hs pre x post s e h
      obtain ⟨r, e2, h2⟩ := ih (pre ++ [x]) s' (by rw [e]; simp) h1
      exact ⟨r, by show (f x s).bind _ = _; rw [e1]; exact e2, h2⟩
  exact key xs [] s0 rfl h0
/-- a loop that may return: it holds ahead of each item unless it has returned -/
theorem Ok.loopR {f : α → S → Option (Ctl S ρ)} {xs : List α} {s0 : S} (I : List α → S → Prop) (T : ρ → Prop) (h0 : I [] s0) (hs : ∀ pre x post s, xs = pre ++ x :: post → I pre s → Ok (f x s) fun c => (∃ s', c = .nx s' ∧ I (pre ++ [x]) s') ∨ ∃ r, c = .rt r ∧ T r) : Ok (loopC f xs s0) fun c => (∃ s', c = .nx s' ∧ I xs s') ∨ ∃ r, c = .rt r ∧ T r := by
  have key : ∀ (post pre : List α) (s : S), xs = pre ++ post → I pre s → Ok (loopC f post s) fun c => (∃ s', c = .nx s' ∧ I xs s') ∨ ∃ r, c = .rt r ∧ T r := by
    intro post
    induction post with
    | nil => intro pre s e h; rw [List.append_nil] at e; subst e; exact ⟨_, rfl, .inl ⟨s, rfl, h⟩⟩
    | cons x post ih =>
      intro pre s e h
      obtain ⟨_, e1, ⟨s', rfl, h1⟩ | ⟨r, rfl, h1⟩⟩ := hs pre x post s e h
      · obtain ⟨r, e2, h2⟩ := ih (pre ++ [x]) s' (by rw [e]; simp) h1
        exact ⟨r, by show (f x s).bind _ = _; rw [e1]; exact e2, h2⟩
      · exact ⟨.rt r, by show (f x s).bind _ = _; rw [e1]; rfl, .inr ⟨r, rfl, h1⟩⟩
  exact key xs [] s0 rfl h0
theorem afC_ok {S S' ρ : Type} {s : S} {k : S → Option (Ctl S' ρ)} {R : Ctl S' ρ → Prop} (h : Ok (k s) R) : Ok (aftC (.nx s) k) R := h
/-- a comprehension without a state -/
theorem comp_pure {f : α → Unit → Option (Option β × Unit)} {g : α → Option β} : ∀ {xs : List α}, (∀ x ∈ xs, f x () = some (g x, ())) → comp f xs () = some (xs.filterMap g, ())
  | [], _ => rfl
  | x :: xs, h => by
    show (f x ()).bind _ = _
    rw [h x List.mem_cons_self]
    show ((comp f xs ()).bind fun r => some (match g x with
      | some y => (y :: r.1, r.2)
      | none => r)) = _
    rw [comp_pure fun y hy => h y (List.mem_cons_of_mem _ hy), List.filterMap_cons]
    cases g x <;> rfl
end
theorem filterMap_some {α : Type} : ∀ xs : List α, xs.filterMap (fun x => some x) = xs
  | [] => rfl
  | x :: xs => by rw [List.filterMap_cons, filterMap_some xs]
theorem filterMap_ite {α : Type} {p : α → Bool} : ∀ xs : List α, xs.filterMap (fun x => if p x = true then some x else none) = xs.filter p
  | [] => rfl
  | x :: xs => by
    rw [List.filterMap_cons, List.filter_cons, filterMap_ite xs]
    cases p x <;> rfl
/-! ### texts as rows of numbers -/
def cl (s : Str) : List Nat := s.cps.toList
theorem cl_inj {a b : Str} (h : cl a = cl b) : a = b := by
  obtain ⟨a⟩ := a; obtain ⟨b⟩ := b
  exact congrArg Str.mk (Array.toList_inj.mp h)
theorem cl_len (s : Str) : s.length = (cl s).length := (Array.length_toList).symm
theorem cl_app (a b : Str) : cl (a ++ b) = cl a ++ cl b := Array.toList_append
theorem cl_sg (c : Nat) : cl ⟨#[c]⟩ = [c] := rfl
theorem sgns_cl (s : Str) : sgns s = (cl s).map fun c => ⟨#[c]⟩ := rfl
theorem cl_cut (z : Str) (lo hi : Option Int) : cl (cutS z lo hi) = cut (cl z) lo hi := by
  unfold cl cutS cut
  rw [List.toList_toArray]
  show _ = List.take (HT.sIx z.cps.toList.length z.cps.toList.length hi - HT.sIx z.cps.toList.length 0 lo) (List.drop (HT.sIx z.cps.toList.length 0 lo) z.cps.toList)
  rw [Array.length_toList]
  rfl
theorem sIx_nn {n d : Nat} {k : Int} (h : 0 ≤ k) : HT.sIx n d (some k) = min k.toNat n := by
  obtain ⟨m, rfl⟩ := Int.eq_ofNat_of_zero_le h
  rw [HT.sIx_nat]; rfl
theorem cut_to {α : Type} (xs : List α) {k : Int} (h : 0 ≤ k) : cut xs none (some k) = xs.take k.toNat := by
  unfold cut
  rw [HT.sIx_none, sIx_nn h, List.drop_zero, Nat.sub_zero]
  rcases Nat.le_total k.toNat xs.length with e | e
  · rw [Nat.min_eq_left e]
  · rw [Nat.min_eq_right e, List.take_of_length_le (Nat.le_refl _), List.take_of_length_le e]
theorem cut_from {α : Type} (xs : List α) {k : Int} (h : 0 ≤ k) : cut xs (some k) none = xs.drop k.toNat := by
  unfold cut
  rw [HT.sIx_none, sIx_nn h]
  rcases Nat.le_total k.toNat xs.length with e | e
  · rw [Nat.min_eq_left e, List.take_of_length_le]; rw [List.length_drop]; omega
  · rw [Nat.min_eq_right e, Nat.sub_self, List.take_zero, List.drop_of_length_le e]
theorem cut_mid {α : Type} (xs : List α) {a b : Int} (h : 0 ≤ a) (h2 : a ≤ b) : cut xs (some a) (some b) = (xs.drop a.toNat).take (b.toNat - a.toNat) := by
  unfold cut
  rw [sIx_nn h, sIx_nn (by omega)]
  rcases Nat.le_total a.toNat xs.length with e | e
  · rw [Nat.min_eq_left e]
    rcases Nat.le_total b.toNat xs.length with e2 | e2
    · rw [Nat.min_eq_left e2]
    · rw [Nat.min_eq_right e2, List.take_of_length_le (by rw [List.length_drop]; omega), List.take_of_length_le (by rw [List.length_drop]; omega)]
  · rw [Nat.min_eq_right e, List.drop_of_length_le e, List.drop_of_length_le (Nat.le_refl _)]; simp
theorem atI_nn {α : Type} {xs : List α} {i : Int} (h : 0 ≤ i) (h2 : i < xs.length) : atI xs i = xs[i.toNat]? := by
  unfold atI ixN
  rw [if_pos h, if_pos h2]; rfl
theorem atI_last {α : Type} {xs : List α} {a : α} : atI (xs ++ [a]) (-1) = some a := by
  unfold atI ixN
  rw [if_neg (by decide), if_pos (by simp; omega)]
  show (xs ++ [a])[((-1 : Int) + ((xs ++ [a]).length : Nat)).toNat]? = _
  have e : ((-1 : Int) + ((xs ++ [a]).length : Nat)).toNat = xs.length := by simp; omega
  rw [e]; simp
theorem ixS_ok {s : Str} {i : Int} (h : 0 ≤ i) (h2 : i < s.length) (h3 : s.length ≤ sizeLine) : Ok (ixS s i) fun z => ∃ c, (cl s)[i.toNat]? = some c ∧ z = ⟨#[c]⟩ := by
  unfold ixS
  refine Ok.gd (by unfold fitsS; exact decide_eq_true h3) ?_
  rw [atI_nn h (by rw [Array.length_toList]; exact h2)]
  have hl : i.toNat < (cl s).length := by rw [← cl_len]; omega
  refine Ok.bde (a := (cl s)[i.toNat]) (by show (cl s)[i.toNat]? = _; simp [hl]) ?_
  exact Ok.sm ⟨_, by simp [hl], rfl⟩
theorem sizeLine_big : (16000000 : Nat) ≤ sizeLine := by rw [sizeLine_eq]; decide
theorem fitsS_ok {s : Str} (h : s.length ≤ 16000000) : fitsS s = true := decide_eq_true (Nat.le_trans h sizeLine_big)
theorem fits_ok {α : Type} {s : List α} (h : s.length < 16000000) : fits s = true := decide_eq_true (Nat.lt_of_lt_of_le h sizeLine_big)
theorem fitsE_ok {α : Type} {s : List α} (h : s.length ≤ 16000000) : fitsE s = true := decide_eq_true (Nat.le_trans h sizeLine_big)
theorem fits2_ok {α : Type} {s t : List α} (h : s.length + t.length ≤ 16000000) : fits2 s t = true := decide_eq_true (Nat.le_trans h sizeLine_big)
theorem catOk_ok {s t : Str} (h : s.length + t.length ≤ 16000000) : catOk s t = true := decide_eq_true (Nat.le_trans h sizeLine_big)
theorem rgOk_ok {a b : Int} (h : -16000000 ≤ a) (h2 : a ≤ 16000000) (h3 : -16000000 ≤ b) (h4 : b ≤ 16000000) : rgOk a b = true := by
  unfold rgOk
  rw [decide_eq_true (show -(2 ^ 62) ≤ a by omega), decide_eq_true (show a < 2 ^ 62 by omega), decide_eq_true (show -(2 ^ 62) ≤ b by omega), decide_eq_true (show b < 2 ^ 62 by omega)]; rfl
theorem rgFit_ok {a b : Int} (h : -5000000 ≤ a) (h2 : a ≤ 5000000) (h3 : -5000000 ≤ b) (h4 : b ≤ 5000000) : rgFit a b = true := by
  unfold rgFit
  rw [decide_eq_true (show -(2 ^ 62) ≤ a by omega), decide_eq_true (show a < 2 ^ 62 by omega), decide_eq_true (show -(2 ^ 62) ≤ b by omega), decide_eq_true (show b < 2 ^ 62 by omega), decide_eq_true (show (b - a).toNat ≤ 16000000 by omega)]; rfl
theorem mulOk_l {a b : Int} (h : -(2 ^ 64) < a) (h2 : a < 2 ^ 64) : mulOk a b = true := by
  unfold mulOk; rw [decide_eq_true h, decide_eq_true h2]; rfl
theorem mulOk_r {a b : Int} (h : -(2 ^ 64) < b) (h2 : b < 2 ^ 64) : mulOk a b = true := by
  unfold mulOk; rw [decide_eq_true h, decide_eq_true h2]; simp
theorem modOk_ok {a : Int} (h : 0 < a) : modOk a = true := decide_eq_true h
theorem divOk_ok {a : Int} (h : 0 < a) (h2 : a < 1073741824) : divOk a = true := by
  unfold divOk; rw [decide_eq_true h, decide_eq_true h2]; rfl
theorem repS_cl {x : Str} {n : Int} (h : 0 ≤ n) : cl (repS x n) = (List.replicate n.toNat (cl x)).flatten := by
  have fold : ∀ (k : Nat) (acc : Array Nat), ((List.replicate k x.cps).foldl (· ++ ·) acc).toList = acc.toList ++ (List.replicate k x.cps.toList).flatten := by
    intro k
    induction k with
    | zero => intro acc; simp
    | succ k ih => intro acc; rw [List.replicate_succ, List.foldl_cons, ih, List.replicate_succ, List.flatten_cons, Array.toList_append, List.append_assoc]
  unfold repS Txt.mul
  by_cases h1 : n < 1
  · rw [if_pos h1]
    have e : n.toNat = 0 := by omega
    rw [e]; rfl
  · rw [if_neg h1]
    by_cases h2 : (n == 1 || x.length == 0) = true
    · rw [if_pos h2]
      rcases Bool.or_eq_true_iff.mp h2 with h3 | h3
      · have e : n = 1 := by simpa using h3
        subst e
        show cl x = _
        simp
      · have e : x.length = 0 := by simpa using h3
        rw [cl_len] at e
        have e2 : cl x = [] := List.eq_nil_of_length_eq_zero e
        rw [e2]
        symm
        rw [List.flatten_eq_nil_iff]
        intro l hl
        exact (List.mem_replicate.mp hl).2
    · rw [if_neg h2]
      show ((List.replicate n.toNat x.cps).foldl (· ++ ·) #[]).toList = _
      rw [fold]
      simp [cl]
theorem repOk_ok {x : Str} {n : Int} (h : 0 ≤ n) (h2 : n ≤ 100) (h3 : x.length ≤ 100) : repOk x n = true := by
  unfold repOk
  have e : x.length * n.toNat ≤ 100000 := Nat.le_trans (Nat.mul_le_mul h3 (show n.toNat ≤ 100 by omega)) (by decide)
  rw [decide_eq_true (show -(2 ^ 62) ≤ n by omega), decide_eq_true (show n < 2 ^ 62 by omega), decide_eq_true e, decide_eq_true (show x.length ≤ 100000 by omega)]; rfl
theorem rng_mem {a b i : Int} : i ∈ rng a b ↔ a ≤ i ∧ i < b := by
  unfold rng
  rw [List.mem_map]
  constructor
  · rintro ⟨j, hj, rfl⟩
    rw [List.mem_range] at hj
    omega
  · intro ⟨h1, h2⟩
    exact ⟨(i - a).toNat, by rw [List.mem_range]; omega, by omega⟩
theorem rng_len (a b : Int) : (rng a b).length = (b - a).toNat := by unfold rng; simp
theorem rng_at {a b : Int} {pre post : List Int} {x : Int} (h : rng a b = pre ++ x :: post) : x = a + pre.length ∧ pre = rng a x ∧ a ≤ x ∧ x < b := by
  have hx : x ∈ rng a b := by rw [h]; simp
  rw [rng_mem] at hx
  have hg : (rng a b)[pre.length]? = some x := by rw [h]; simp
  have hl : pre.length < (b - a).toNat := by
    have := congrArg List.length h
    rw [rng_len] at this
    simp at this
    omega
  have hx2 : x = a + pre.length := by
    unfold rng at hg
    rw [List.getElem?_map, List.getElem?_range hl] at hg
    exact (Option.some.inj hg).symm
  refine ⟨hx2, ?_, hx⟩
  have e : pre = (rng a b).take pre.length := by rw [h]; simp
  rw [e]
  unfold rng
  rw [← List.map_take, List.take_range]
  congr 2
  rw [hx2]; omega
theorem rng_snoc {a b : Int} (h : a ≤ b) : rng a (b + 1) = rng a b ++ [b] := by
  unfold rng
  have e : (b + 1 - a).toNat = (b - a).toNat + 1 := by omega
  rw [e, List.range_succ, List.map_append]
  congr 1
  show [a + ((b - a).toNat : Int)] = [b]
  congr 1
  omega
/-! ### == of data: the sides are small -/
def okS (s : Str) : Prop := PyData.strOk s = true
theorem canAll {α : Type} {A : R α} (D : Dat A) : ∀ {xs : List α}, (∀ x ∈ xs, (D.d x).canLay0 = true) → PyData.canLayAll0 (xs.map D.d) = true
  | [], _ => rfl
  | x :: xs, h => by
    show ((D.d x).canLay0 && PyData.canLayAll0 (xs.map D.d)) = true
    rw [h x List.mem_cons_self, canAll D fun y hy => h y (List.mem_cons_of_mem _ hy)]; rfl
theorem depAll {α : Type} {A : R α} (D : Dat A) {n : Nat} : ∀ {xs : List α}, (∀ x ∈ xs, (D.d x).depth ≤ n) → PyData.depthAll (xs.map D.d) ≤ n
  | [], _ => Nat.zero_le _
  | x :: xs, h => by
    show max (D.d x).depth (PyData.depthAll (xs.map D.d)) ≤ n
    exact Nat.max_le.mpr ⟨h x List.mem_cons_self, depAll D fun y hy => h y (List.mem_cons_of_mem _ hy)⟩
theorem shp_of {α : Type} {A : R α} {D : Dat A} {a : α} (h : (D.d a).canLay0 = true) (h2 : (D.d a).depth ≤ 64) : shp D a = true := by
  show ((D.d a).canLay0 && decide ((D.d a).depth ≤ 64)) = true
  rw [h, decide_eq_true h2]; rfl
theorem shp_lS {xs : List Str} (h : ∀ x ∈ xs, okS x) : shp (dL dS) xs = true := shp_of (canAll dS h) (Nat.succ_le_of_lt (Nat.lt_of_le_of_lt (depAll dS (n := 0) fun _ _ => Nat.le_refl _) (by decide)))
theorem shp_tS {xs : List Str} (h : ∀ x ∈ xs, okS x) : shp (dT dS) xs = true := shp_of (canAll dS h) (Nat.succ_le_of_lt (Nat.lt_of_le_of_lt (depAll dS (n := 0) fun _ _ => Nat.le_refl _) (by decide)))
theorem shp_lI (xs : List Int) : shp (dL dI) xs = true := shp_of (canAll dI fun _ _ => rfl) (Nat.succ_le_of_lt (Nat.lt_of_le_of_lt (depAll dI (n := 0) fun _ _ => Nat.le_refl _) (by decide)))
theorem shp_tI (xs : List Int) : shp (dT dI) xs = true := shp_of (canAll dI fun _ _ => rfl) (Nat.succ_le_of_lt (Nat.lt_of_le_of_lt (depAll dI (n := 0) fun _ _ => Nat.le_refl _) (by decide)))
/-- a loop that picks out of a row: what has been picked so far is known -/
theorem loop_pick {α : Type} {f : α → List α → Option (List α)} {xs : List α} (p : α → Bool) (hs : ∀ pre x post, xs = pre ++ x :: post → f x (pre.filter p) = some (if p x = true then pre.filter p ++ [x] else pre.filter p)) : loopS f xs [] = some (xs.filter p) := by
  refine Ok.eq (Ok.loop (fun pre s => s = pre.filter p) rfl fun pre x post s e h => ?_)
  subst h
  refine ⟨_, hs pre x post e, ?_⟩
  rw [List.filter_append, List.filter_cons]
  cases p x <;> simp
/-! ### shapes, by classes -/
class ShpD {α : Type} {A : R α} (D : Dat A) where
  ok : α → Prop
  n : Nat
  can : ∀ a, ok a → (D.d a).canLay0 = true
  dep : ∀ a, (D.d a).depth ≤ n
class ShpR {α : Type} {B : RR α} (E : DatR B) where
  ok : α → Prop
  n : Nat
  can : ∀ a, ok a → PyData.canLayAll0 (E.d a) = true
  dep : ∀ a, PyData.depthAll (E.d a) ≤ n
theorem shpD {α : Type} {A : R α} {D : Dat A} [i : ShpD D] {a : α} (h : i.ok a) (hn : i.n ≤ 64 := by decide) : shp D a = true := shp_of (i.can a h) (Nat.le_trans (i.dep a) hn)
instance sI : ShpD dI := ⟨fun _ => True, 0, fun _ _ => rfl, fun _ => Nat.le_refl _⟩
instance sB : ShpD dB := ⟨fun _ => True, 0, fun _ _ => rfl, fun _ => Nat.le_refl _⟩
instance sS : ShpD dS := ⟨okS, 0, fun _ h => h, fun _ => Nat.le_refl _⟩
instance sL {α : Type} {A : R α} {D : Dat A} [i : ShpD D] : ShpD (dL D) := ⟨fun xs => ∀ x ∈ xs, i.ok x, i.n + 1, fun xs h => canAll D fun x hx => i.can x (h x hx), fun xs => by
  show PyData.depthAll (xs.map D.d) + 1 ≤ _
  have := depAll D (n := i.n) (xs := xs) fun x _ => i.dep x
  omega⟩
instance sT {α : Type} {A : R α} {D : Dat A} [i : ShpD D] : ShpD (dT D) := ⟨fun xs => ∀ x ∈ xs, i.ok x, i.n + 1, fun xs h => canAll D fun x hx => i.can x (h x hx), fun xs => by
  show PyData.depthAll (xs.map D.d) + 1 ≤ _
  have := depAll D (n := i.n) (xs := xs) fun x _ => i.dep x
  omega⟩
instance s2 {α β : Type} {A : R α} {B : R β} {D : Dat A} {E : Dat B} [i : ShpD D] [j : ShpD E] : ShpD (d2 D E) := ⟨fun a => i.ok a.1 ∧ j.ok a.2, max i.n j.n + 1, fun a h => by
  show ((D.d a.1).canLay0 && ((E.d a.2).canLay0 && true)) = true
  rw [i.can _ h.1, j.can _ h.2]; rfl, fun a => by
  show max (D.d a.1).depth (max (E.d a.2).depth 0) + 1 ≤ _
  have h1 := i.dep a.1
  have h2 := j.dep a.2
  omega⟩
def optOk {α : Type} (P : α → Prop) : Option α → Prop
  | none => True
  | some a => P a
instance sO {α : Type} {A : R α} {D : Dat A} [NotNone D] [i : ShpD D] : ShpD (dO D) := ⟨optOk i.ok, i.n, fun a h => by
  cases a with
  | none => rfl
  | some a => exact i.can a h, fun a => by
  cases a with
  | none => exact Nat.zero_le _
  | some a => exact i.dep a⟩
instance sr1 {α : Type} {A : R α} {D : Dat A} [i : ShpD D] : ShpR (e1 D) := ⟨i.ok, i.n, fun a h => by
  show ((D.d a).canLay0 && true) = true
  rw [i.can _ h]; rfl, fun a => by
  show max (D.d a).depth 0 ≤ _
  have := i.dep a
  omega⟩
instance src {α β : Type} {A : R α} {B : RR β} {D : Dat A} {E : DatR B} [i : ShpD D] [j : ShpR E] : ShpR (ec D E) := ⟨fun a => i.ok a.1 ∧ j.ok a.2, max i.n j.n, fun a h => by
  show ((D.d a.1).canLay0 && PyData.canLayAll0 (E.d a.2)) = true
  rw [i.can _ h.1, j.can _ h.2]; rfl, fun a => by
  show max (D.d a.1).depth (PyData.depthAll (E.d a.2)) ≤ _
  have h1 := i.dep a.1
  have h2 := j.dep a.2
  omega⟩
instance sLr {α : Type} {B : RR α} {E : DatR B} [i : ShpR E] : ShpD (dLr E) := ⟨i.ok, i.n + 1, fun a h => i.can a h, fun a => Nat.succ_le_succ (i.dep a)⟩
instance sTr {α : Type} {B : RR α} {E : DatR B} [i : ShpR E] : ShpD (dTr E) := ⟨i.ok, i.n + 1, fun a h => i.can a h, fun a => Nat.succ_le_succ (i.dep a)⟩
end Gl

namespace Law
open PySem PySem.Spec PyProof.Rows L2 Gl

def qBoth : R (Pat × Pat) := ⟨fun K F v a => ∃ (p dx : Addr) (u0 u1 : V), v = .ref p ∧ F p = some (.ins (He.ga K "Both") dx [("left", u0), ("right", u1)]) ∧ qPat.r K F u0 a.1 ∧ qPat.r K F u1 a.2, fun e ⟨p, dx, u0, u1, h1, h2, k0, k1⟩ => ⟨p, dx, u0, u1, h1, e _ _ h2, qPat.mono e k0, qPat.mono e k1⟩⟩
def qEither : R (Pat × Pat) := ⟨fun K F v a => ∃ (p dx : Addr) (u0 u1 : V), v = .ref p ∧ F p = some (.ins (He.ga K "Either") dx [("left", u0), ("right", u1)]) ∧ qPat.r K F u0 a.1 ∧ qPat.r K F u1 a.2, fun e ⟨p, dx, u0, u1, h1, h2, k0, k1⟩ => ⟨p, dx, u0, u1, h1, e _ _ h2, qPat.mono e k0, qPat.mono e k1⟩⟩

def m_is_line_b1  (x28 : Str) (s30 : Unit) : Option (Ctl Unit Bool) :=
  (if (!inS x28 (" #-.0123456789:>ABCDEFGHIJKLMNOPQRSTUVWXYZabcdefghijklmnopqrstuvwxyz" : Str)) = true then (some (.rt false)) else (some (.nx ())))
def m_is_line (a_thing : Th) : Option Bool :=
  ((if (!(thIs "str" a_thing)) = true then some (true) else ((thS a_thing).bind fun t10 => some ((decide (t10 = ("" : Str)))))).bind fun t4 => if t4 = true then (some false) else ((thS a_thing).bind fun t20 => (loopC m_is_line_b1 (sgns t20) ()).bind fun t23 => aft t23 fun s46 => some true))
def m_is_allowed (a_parts : (List Str)) (a_at : Int) : Option Bool :=
  ((atI a_parts a_at).bind fun t1 => if ((decide ((4) ≤ a_at)) || false) = true then (some false) else (if (decide (t1 = ("<any>" : Str))) = true then (some (!decide (("<any>" : Str) ∈ (cut a_parts none (some a_at))))) else (if (decide (t1 ∈ (["<digits>", "<word>", "<any>"] : List Str))) = true then (some true) else ((if (decide (0 < a_at)) = true then ((atI a_parts (a_at - 1)).bind fun t26 => some ((!decide (t26 ∈ (["<digits>", "<word>", "<any>"] : List Str))))) else some (false)).bind fun t20 => if t20 = true then (some false) else ((m_is_line ((Th.d (PyData.str (t1))))).bind fun t39 => (if t39 = true then (gd (fitsS t1) <| some ((decide (((t1).length : Int) ≤ (4))))) else some (false)).bind fun t48 => some t48)))))
def m_Form___init___b1 (a_parts : (List Str)) (x8 : Int) (s10 : Unit) : Option Unit :=
  ((m_is_allowed (a_parts) (x8)).bind fun t21 => if (!t21) = true then (none) else (some ()))
def m_Form___init__ (a_parts : (List Str)) : Option (List Str) :=
  (if (decide (((a_parts).length : Int) = 0)) = true then (none) else (gd (rgOk 0 ((a_parts).length : Int)) <| (loopS (m_Form___init___b1 a_parts) (rng 0 ((a_parts).length : Int)) ()).bind fun t3 => some (a_parts)))
def m_law_pool (a__law_script : (List Int)) (a__law_k : Int) : Option (Int × Int) :=
  (((gd (shp (dL dI) a__law_script) <| gd (shp (dL dI) ([] : List Int)) <| if (!decide (a__law_script = ([] : List Int))) = true then (gd (modOk ((a__law_script).length : Int)) <| (atI a__law_script (a__law_k % ((a__law_script).length : Int))).bind fun t14 => some (t14)) else (some (0)))).bind fun (t1 : Int) => gd (modOk 2147483629) <| gd (mulOk 104729 a__law_k) <| gd (mulOk (((t1 % 2147483629) + (104729 * a__law_k)) + 11) 48271) <| gd (modOk 2147483647) <| gd (powOk 10 18) <| gd (mulOk t1 (b2I ((decide ((10 ^ (18 : Int).toNat) ≤ t1))))) <| some ((t1 * (b2I ((decide ((10 ^ (18 : Int).toNat) ≤ t1))))), (((((t1 % 2147483629) + (104729 * a__law_k)) + 11) * 48271) % 2147483647)))
def m_law_take (a__law_pool_here : (Int × Int)) (a__law_many : Int) : Option (Int × (Int × Int)) :=
  (if (decide (0 < (a__law_pool_here).1)) = true then (gd (modOk a__law_many) <| gd (divOk a__law_many) <| some (((a__law_pool_here).1 % a__law_many), (((a__law_pool_here).1 / a__law_many), (a__law_pool_here).2))) else (gd (mulOk (a__law_pool_here).2 48271) <| gd (modOk 2147483647) <| gd (mulOk (((a__law_pool_here).1, ((((a__law_pool_here).2 * 48271) + 11) % 2147483647))).2 (((a__law_pool_here).1, ((((a__law_pool_here).2 * 48271) + 11) % 2147483647))).2) <| gd (modOk 2147483629) <| gd (divOk 64) <| gd (modOk a__law_many) <| some ((((((((a__law_pool_here).1, ((((a__law_pool_here).2 * 48271) + 11) % 2147483647))).2 * (((a__law_pool_here).1, ((((a__law_pool_here).2 * 48271) + 11) % 2147483647))).2) % 2147483629) / 64) % a__law_many), ((a__law_pool_here).1, ((((a__law_pool_here).2 * 48271) + 11) % 2147483647)))))
def m_law_shape_b1  (x7 : Int) (s9 : Unit) : Option (Option Shp × Unit) :=
  (some (some (Shp.lf x7), ()))
def m_law_shape_b2   (s56 : ((Int × Int) × (List Shp))) : Option (Bool × ((Int × Int) × (List Shp))) :=
  (some ((decide (1 < ((s56.2).length : Int))), (s56.1, s56.2)))
def m_law_shape_b3   (s73 : ((Int × Int) × (List Shp))) : Option ((Int × Int) × (List Shp)) :=
  ((m_law_take (s73.1) ((((s73.2).length : Int) - 1))).bind fun t85 => (m_law_take (t85.2) (2)).bind fun t107 => (atI [("&" : Str), ("|" : Str)] t107.1).bind fun t117 => (atI s73.2 t85.1).bind fun t121 => (atI s73.2 (t85.1 + 1)).bind fun t125 => gd (fits2 (cut s73.2 none (some t85.1)) [(Shp.nd ((t117, t121, t125)).1 ((t117, t121, t125)).2.1 ((t117, t121, t125)).2.2)]) <| gd (fits2 ((cut s73.2 none (some t85.1)) ++ [(Shp.nd ((t117, t121, t125)).1 ((t117, t121, t125)).2.1 ((t117, t121, t125)).2.2)]) (cut s73.2 (some (t85.1 + 2)) none)) <| some (t107.2, (((cut s73.2 none (some t85.1)) ++ [(Shp.nd ((t117, t121, t125)).1 ((t117, t121, t125)).2.1 ((t117, t121, t125)).2.2)]) ++ (cut s73.2 (some (t85.1 + 2)) none))))
def m_law_shape (a__law_pool_here : (Int × Int)) (a__law_many : Int) : Option (Shp × (Int × Int)) :=
  (gd (rgOk 0 a__law_many) <| gd (fitsE (rng 0 a__law_many)) <| (comp m_law_shape_b1 (rng 0 a__law_many) ()).bind fun t3 => (whileS m_law_shape_b2 m_law_shape_b3 fuel (a__law_pool_here, t3.1)).bind fun t51 => (atI t51.2 0).bind fun t173 => some (t173, t51.1))
def m_law_all_signs  : Option Str :=
  (some (" #-.0123456789:>ABCDEFGHIJKLMNOPQRSTUVWXYZabcdefghijklmnopqrstuvwxyz" : Str))
def m_law_text_b1 (t1 : (Int × (Int × Int))) (x28 : Int) (s30 : ((Int × Int) × Str)) : Option ((Int × Int) × Str) :=
  (if (decide (t1.1 = 0)) = true then ((m_law_all_signs).bind fun t43 => (m_law_take (s30.1) (68)).bind fun t51 => (ixS t43 t51.1).bind fun t61 => gd (catOk s30.2 t61) <| some (t51.2, (s30.2 ++ t61))) else ((m_law_take (s30.1) (4)).bind fun t64 => (ixS ("a1-b" : Str) t64.1).bind fun t74 => gd (catOk s30.2 t74) <| some (t64.2, (s30.2 ++ t74))))
def m_law_text (a__law_pool_here : (Int × Int)) : Option (Str × (Int × Int)) :=
  ((m_law_take (a__law_pool_here) (3)).bind fun t1 => (m_law_take (t1.2) (4)).bind fun t11 => gd (rgOk 0 (1 + t11.1)) <| (loopS (m_law_text_b1 t1) (rng 0 (1 + t11.1)) (t11.2, ("" : Str))).bind fun t22 => some (t22.2, t22.1))
def m_law_rich_b1  (x28 : Int) (s30 : ((Int × Int) × (List Str))) : Option ((Int × Int) × (List Str)) :=
  ((m_law_take (s30.1) (6)).bind fun t47 => gd (shp (dL dS) s30.2) <| gd (shp (dL dS) ([] : List Str)) <| (if (!decide (s30.2 = ([] : List Str))) = true then ((atI s30.2 (-1)).bind fun t81 => some ((!decide (t81 ∈ [("<any>" : Str), ("<digits>" : Str), ("<word>" : Str)])))) else some (false)).bind fun t75 => if ((decide (t47.1 = 0)) && (!decide (("<any>" : Str) ∈ s30.2))) = true then (gd (fits s30.2) <| some (t47.2, (s30.2 ++ [("<any>" : Str)]))) else (if (decide (t47.1 = 1)) = true then (gd (fits s30.2) <| some (t47.2, (s30.2 ++ [("<digits>" : Str)]))) else (if ((decide (t47.1 = 2)) || t75) = true then (gd (fits s30.2) <| some (t47.2, (s30.2 ++ [("<word>" : Str)]))) else ((m_law_text (t47.2)).bind fun t118 => gd (fits s30.2) <| some (t118.2, (s30.2 ++ [t118.1]))))))
def m_law_rich (a__law_pool_here : (Int × Int)) : Option ((List Str) × (Int × Int)) :=
  ((m_law_take (a__law_pool_here) (4)).bind fun t10 => gd (rgOk 0 (1 + t10.1)) <| (loopS m_law_rich_b1 (rng 0 (1 + t10.1)) (t10.2, ([] : List Str))).bind fun t21 => some (t21.2, t21.1))
def m_Form___str__ (a_self : (List Str)) : Option Str :=
  (gd (joinOk ("" : Str) a_self) <| some (Txt.join ("" : Str) a_self))
def m_Pattern___eq__ (a_self : Pat) (a_other : Pat) : Option Bool :=
  ((m_pat___str__ (a_self)).bind fun t1 => (m_pat___str__ (a_other)).bind fun t9 => some (decide (t1 = t9)))
def m_Pattern___eq___v2 (a_self : Pat) (a_other : Str) : Option Bool :=
  (some false)
def m_Form_forms (a_self : (List Str)) : Option (List (List Str)) :=
  (some [a_self])
def m_Either___init__ (a_one : Pat) (a_other : Pat) : Option (Pat × Pat) :=
  ((m_pat_forms (a_one)).bind fun t1 => (m_pat_forms (a_other)).bind fun t9 => if (decide ((3) < (((t1).length : Int) + ((t9).length : Int)))) = true then (none) else (some (a_one, a_other)))
def m_Either___init___vx (a_one : Pat) (a_other : Pat) : Option (Except (Option Int) (Pat × Pat)) :=
  ((m_pat_forms (a_one)).bind fun t1 => (m_pat_forms (a_other)).bind fun t9 => if (decide ((3) < (((t1).length : Int) + ((t9).length : Int)))) = true then (some (.error ((some (3))))) else (some (.ok (a_one, a_other))))
def m_Pattern___or__ (a_self : Pat) (a_other : Pat) : Option Pat :=
  ((m_Either___init__ (a_self) (a_other)).bind fun t1 => some (Pat.either (t1).1 (t1).2))
def m_Pattern___or___vx (a_self : Pat) (a_other : Pat) : Option (Except (Option Int) Pat) :=
  ((m_Either___init___vx (a_self) (a_other)).bind fun t1 => exB t1 fun t3 => some (.ok (Pat.either (t3).1 (t3).2)))
def m_Both___init__ (a_one : Pat) (a_other : Pat) : Option (Pat × Pat) :=
  ((m_pat_forms (a_one)).bind fun t1 => (m_pat_forms (a_other)).bind fun t9 => if (decide ((3) < (((t1).length : Int) + ((t9).length : Int)))) = true then (none) else (some (a_one, a_other)))
def m_Both___init___vx (a_one : Pat) (a_other : Pat) : Option (Except (Option Int) (Pat × Pat)) :=
  ((m_pat_forms (a_one)).bind fun t1 => (m_pat_forms (a_other)).bind fun t9 => if (decide ((3) < (((t1).length : Int) + ((t9).length : Int)))) = true then (some (.error ((some (3))))) else (some (.ok (a_one, a_other))))
def m_Pattern___and__ (a_self : Pat) (a_other : Pat) : Option Pat :=
  ((m_Both___init__ (a_self) (a_other)).bind fun t1 => some (Pat.both (t1).1 (t1).2))
def m_Pattern___and___vx (a_self : Pat) (a_other : Pat) : Option (Except (Option Int) Pat) :=
  ((m_Both___init___vx (a_self) (a_other)).bind fun t1 => exB t1 fun t3 => some (.ok (Pat.both (t3).1 (t3).2)))
def m_law_built : Nat → Shp → (List (List Str)) → Option Pat
  | 0, _, _ => none
  | n + 1, a__law_shape_here, a__law_forms => (if (decide ((Shp.len a__law_shape_here) = 1)) = true then ((Shp.num a__law_shape_here).bind fun t2 => (atI a__law_forms t2).bind fun t4 => some (Pat.form t4)) else ((Shp.lft a__law_shape_here).bind fun t9 => (m_law_built n (t9) (a__law_forms)).bind fun t13 => (Shp.rgt a__law_shape_here).bind fun t21 => (m_law_built n (t21) (a__law_forms)).bind fun t25 => (Shp.op a__law_shape_here).bind fun t33 => if (decide (t33 = ("&" : Str))) = true then ((m_Pattern___and__ (t13) (t25)).bind fun t36 => some t36) else ((m_Pattern___or__ (t13) (t25)).bind fun t44 => some t44)))
def m_law_built_vx : Nat → Shp → (List (List Str)) → Option (Except (Option Int) Pat)
  | 0, _, _ => none
  | n + 1, a__law_shape_here, a__law_forms => (if (decide ((Shp.len a__law_shape_here) = 1)) = true then ((Shp.num a__law_shape_here).bind fun t2 => (atI a__law_forms t2).bind fun t4 => some (.ok (Pat.form t4))) else ((Shp.lft a__law_shape_here).bind fun t9 => (m_law_built_vx n (t9) (a__law_forms)).bind fun t13 => exB t13 fun t15 => (Shp.rgt a__law_shape_here).bind fun t31 => (m_law_built_vx n (t31) (a__law_forms)).bind fun t35 => exB t35 fun t37 => (Shp.op a__law_shape_here).bind fun t53 => if (decide (t53 = ("&" : Str))) = true then ((m_Pattern___and___vx (t15) (t37)).bind fun t56 => exB t56 fun t58 => some (.ok t58)) else ((m_Pattern___or___vx (t15) (t37)).bind fun t74 => exB t74 fun t76 => some (.ok t76))))
def m_law_form (a__law_parts : (List Str)) : Option (List Str) :=
  (if (decide (((a__law_parts).length : Int) = 1)) = true then ((atI a__law_parts 0).bind fun t2 => (m_Form___init__ [t2]).bind fun t6 => some t6) else (if (decide (((a__law_parts).length : Int) = 2)) = true then ((atI a__law_parts 0).bind fun t15 => (atI a__law_parts 1).bind fun t19 => (m_Form___init__ [t15, t19]).bind fun t23 => some t23) else (if (decide (((a__law_parts).length : Int) = 3)) = true then ((atI a__law_parts 0).bind fun t32 => (atI a__law_parts 1).bind fun t36 => (atI a__law_parts 2).bind fun t40 => (m_Form___init__ [t32, t36, t40]).bind fun t44 => some t44) else ((atI a__law_parts 0).bind fun t52 => (atI a__law_parts 1).bind fun t56 => (atI a__law_parts 2).bind fun t60 => (atI a__law_parts 3).bind fun t64 => (m_Form___init__ [t52, t56, t60, t64]).bind fun t68 => some t68))))
def m_law_shown : Nat → Shp → (List (List Str)) → Option Str
  | 0, _, _ => none
  | n + 1, a__law_shape_here, a__law_drawn => (if (decide ((Shp.len a__law_shape_here) = 1)) = true then ((Shp.num a__law_shape_here).bind fun t2 => (atI a__law_drawn t2).bind fun t4 => gd (joinOk ("" : Str) t4) <| some (Txt.join ("" : Str) t4)) else ((Shp.lft a__law_shape_here).bind fun t9 => (m_law_shown n (t9) (a__law_drawn)).bind fun t13 => gd (catOk ("(" : Str) t13) <| gd (catOk (("(" : Str) ++ t13) (" " : Str)) <| (Shp.op a__law_shape_here).bind fun t23 => gd (catOk ((("(" : Str) ++ t13) ++ (" " : Str)) t23) <| gd (catOk (((("(" : Str) ++ t13) ++ (" " : Str)) ++ t23) (" " : Str)) <| (Shp.rgt a__law_shape_here).bind fun t27 => (m_law_shown n (t27) (a__law_drawn)).bind fun t31 => gd (catOk ((((("(" : Str) ++ t13) ++ (" " : Str)) ++ t23) ++ (" " : Str)) t31) <| gd (catOk (((((("(" : Str) ++ t13) ++ (" " : Str)) ++ t23) ++ (" " : Str)) ++ t31) (")" : Str)) <| some ((((((("(" : Str) ++ t13) ++ (" " : Str)) ++ t23) ++ (" " : Str)) ++ t31) ++ (")" : Str))))
def m_law_spoiled (a__law_pool_here : (Int × Int)) (a__law_line_here : Str) : Option (Str × (Int × Int)) :=
  (gd (fitsS a__law_line_here) <| (m_law_take (a__law_pool_here) ((((a__law_line_here).length : Int) + 1))).bind fun t2 => (m_law_all_signs).bind fun t12 => (m_law_take (t2.2) (68)).bind fun t20 => (ixS t12 t20.1).bind fun t30 => (m_law_take (t20.2) (5)).bind fun t32 => if (decide (t32.1 = 0)) = true then (gd (fitsS a__law_line_here) <| gd (catOk (cutS a__law_line_here none (some t2.1)) t30) <| gd (fitsS a__law_line_here) <| gd (catOk ((cutS a__law_line_here none (some t2.1)) ++ t30) (cutS a__law_line_here (some t2.1) none)) <| some ((((cutS a__law_line_here none (some t2.1)) ++ t30) ++ (cutS a__law_line_here (some t2.1) none)), t32.2)) else (if (decide (t32.1 = 1)) = true then (gd (fitsS a__law_line_here) <| gd (fitsS a__law_line_here) <| gd (catOk (cutS a__law_line_here none (some t2.1)) (cutS a__law_line_here (some (t2.1 + 1)) none)) <| some (((cutS a__law_line_here none (some t2.1)) ++ (cutS a__law_line_here (some (t2.1 + 1)) none)), t32.2)) else (if (decide (t32.1 = 2)) = true then (gd (fitsS a__law_line_here) <| gd (catOk (cutS a__law_line_here none (some t2.1)) t30) <| gd (fitsS a__law_line_here) <| gd (catOk ((cutS a__law_line_here none (some t2.1)) ++ t30) (cutS a__law_line_here (some (t2.1 + 1)) none)) <| some ((((cutS a__law_line_here none (some t2.1)) ++ t30) ++ (cutS a__law_line_here (some (t2.1 + 1)) none)), t32.2)) else (some (a__law_line_here, t32.2)))))
def m_Form_holds (a_self : (List Str)) (a_truths : (List Bool)) : Option Bool :=
  ((atI a_truths 0).bind fun t1 => some t1)
def m_cells_of_b1  (x23 : Str) (s25 : (List Str)) : Option (List Str) :=
  (if (decide (x23 ∈ (["<digits>", "<word>", "<any>"] : List Str))) = true then (gd (fits s25) <| some ((s25 ++ [x23]))) else (gd (fitsS x23) <| gd (fits2 s25 (sgns x23)) <| some ((s25 ++ (sgns x23)))))
def m_cells_of (a_parts : (List Str)) : Option (List Str) :=
  ((loopS m_cells_of_b1 a_parts (([] : List Str))).bind fun t17 => some t17)
def m_closed_b1 (a_cells : (List Str)) (a_positions : (List Int)) (x17 : Int) (s19 : (List Int)) : Option (List Int) :=
  ((if (decide (x17 ∈ a_positions)) = true then some (true) else ((if (decide (0 < x17)) = true then ((atI a_cells (x17 - 1)).bind fun t69 => some (((decide (t69 = ("<any>" : Str))) && (decide ((x17 - 1) ∈ s19))))) else some (false)).bind fun t63 => some (t63))).bind fun t53 => if t53 = true then (gd (fits s19) <| some ((s19 ++ [x17]))) else (some (s19)))
def m_closed (a_cells : (List Str)) (a_positions : (List Int)) : Option (List Int) :=
  (gd (rgOk 0 (((a_cells).length : Int) + 1)) <| (loopS (m_closed_b1 a_cells a_positions) (rng 0 (((a_cells).length : Int) + 1)) (([] : List Int))).bind fun t11 => some t11)
def m_started (a_cells : (List Str)) : Option (List Int) :=
  ((m_closed (a_cells) (([0] : List Int))).bind fun t8 => some t8)
def m_Form_parts (a_self : (List Str)) : Option (List Str) :=
  (some a_self)
def m_takes (a_cell : Str) (a_sign : Str) : Option Bool :=
  (if (decide (a_cell = ("<any>" : Str))) = true then (some true) else (if (decide (a_cell = ("<digits>" : Str))) = true then (some (inS a_sign ("0123456789" : Str))) else (if (decide (a_cell = ("<word>" : Str))) = true then (some (inS a_sign ("ABCDEFGHIJKLMNOPQRSTUVWXYZabcdefghijklmnopqrstuvwxyz" : Str))) else (some (decide (a_cell = a_sign))))))
def m_moved_b1 (a_cells : (List Str)) (a_sign : Str) (x23 : Int) (s25 : (List Int)) : Option (List Int) :=
  ((((if (decide (x23 < ((a_cells).length : Int))) = true then ((atI a_cells x23).bind fun t61 => (m_takes (t61) (a_sign)).bind fun t65 => some (t65)) else some (false)).bind fun t55 => if t55 = true then ((atI a_cells x23).bind fun t80 => (if (decide (t80 = ("<any>" : Str))) = true then (some (x23)) else (some ((x23 + 1)))).bind fun t84 => gd (fits s25) <| some ((s25 ++ [t84]))) else (some (s25)))).bind fun (t39 : (List Int)) => (if (decide (0 < x23)) = true then ((atI a_cells (x23 - 1)).bind fun t169 => (if (decide (t169 ∈ [("<digits>" : Str), ("<word>" : Str)])) = true then ((atI a_cells (x23 - 1)).bind fun t197 => (m_takes (t197) (a_sign)).bind fun t201 => some (t201)) else some (false)).bind fun t191 => some (t191)) else some (false)).bind fun t163 => if t163 = true then (gd (fits t39) <| some ((t39 ++ [x23]))) else (some (t39)))
def m_moved (a_cells : (List Str)) (a_positions : (List Int)) (a_sign : Str) : Option (List Int) :=
  ((loopS (m_moved_b1 a_cells a_sign) a_positions (([] : List Int))).bind fun t17 => (m_closed (a_cells) (t17)).bind fun t244 => some t244)
def m_is_done (a_cells : (List Str)) (a_positions : (List Int)) : Option Bool :=
  (some (decide (((a_cells).length : Int) ∈ a_positions)))
def m_pat___contains___b1 (t65 : (List Str)) (x86 : Str) (s88 : (List Int)) : Option (List Int) :=
  ((m_moved (t65) (s88) (x86)).bind fun t102 => some (t102))
def m_pat___contains___b2 (a_line : Str) (x37 : (List Str)) (s39 : (List Bool)) : Option (List Bool) :=
  ((m_Form_parts (x37)).bind fun t56 => (m_cells_of (t56)).bind fun t65 => (m_started (t65)).bind fun t73 => (loopS (m_pat___contains___b1 t65) (sgns a_line) (t73)).bind fun t81 => (m_is_done (t65) (t81)).bind fun t119 => gd (fits s39) <| some ((s39 ++ [t119])))
def m_pat___contains__ (a_self : Pat) (a_line : Str) : Option Bool :=
  ((m_is_line ((Th.d (PyData.str (a_line))))).bind fun t2 => if (!t2) = true then (some false) else ((m_pat_forms (a_self)).bind fun t19 => (loopS (m_pat___contains___b2 a_line) t19 (([] : List Bool))).bind fun t31 => (m_pat_holds (a_self) (t31)).bind fun t151 => some t151))
def m_law_refused (a__law_shape_here : Shp) (a__law_forms : (List (List Str))) : Option Bool :=
  ((m_law_built_vx 4 (a__law_shape_here) (a__law_forms)).bind fun t1 => exT t1 (fun (x10 : (Option Int)) => (gd (shp (dO dI) x10) <| gd (shp (dO dI) (some 3)) <| some (decide (x10 = (some 3))))) fun t3 => some false)
def m_law_holds : Nat → Shp → (List Bool) → Option Bool
  | 0, _, _ => none
  | n + 1, a__law_shape_here, a__law_flags => (if (decide ((Shp.len a__law_shape_here) = 1)) = true then ((Shp.num a__law_shape_here).bind fun t2 => (atI a__law_flags t2).bind fun t4 => some t4) else ((Shp.lft a__law_shape_here).bind fun t8 => (m_law_holds n (t8) (a__law_flags)).bind fun t12 => (Shp.rgt a__law_shape_here).bind fun t20 => (m_law_holds n (t20) (a__law_flags)).bind fun t24 => (Shp.op a__law_shape_here).bind fun t32 => (if (decide (t32 = ("&" : Str))) = true then (some ((t12 && t24))) else (some ((t12 || t24)))).bind fun t34 => some t34))
def m_law_line_b1  (x11 : Str) (s13 : ((Int × Int) × Str)) : Option ((Int × Int) × Str) :=
  (if (decide (x11 = ("<digits>" : Str))) = true then ((m_law_take (s13.1) (10)).bind fun t26 => (ixS ("0123456789" : Str) t26.1).bind fun t36 => (m_law_take (t26.2) (3)).bind fun t38 => gd (repOk t36 (1 + t38.1)) <| gd (catOk s13.2 (repS t36 (1 + t38.1))) <| some (t38.2, (s13.2 ++ (repS t36 (1 + t38.1))))) else (if (decide (x11 = ("<word>" : Str))) = true then ((m_law_take (s13.1) (4)).bind fun t51 => (ixS ("aBzb" : Str) t51.1).bind fun t61 => (m_law_take (t51.2) (3)).bind fun t63 => gd (repOk t61 (1 + t63.1)) <| gd (catOk s13.2 (repS t61 (1 + t63.1))) <| some (t63.2, (s13.2 ++ (repS t61 (1 + t63.1))))) else (if (decide (x11 = ("<any>" : Str))) = true then ((m_law_text (s13.1)).bind fun t76 => (m_law_take (t76.2) (3)).bind fun t86 => gd (repOk t76.1 t86.1) <| gd (catOk s13.2 (repS t76.1 t86.1)) <| some (t86.2, (s13.2 ++ (repS t76.1 t86.1)))) else (gd (catOk s13.2 x11) <| some (s13.1, (s13.2 ++ x11))))))
def m_law_line (a__law_pool_here : (Int × Int)) (a__law_parts : (List Str)) : Option (Str × (Int × Int)) :=
  ((loopS m_law_line_b1 a__law_parts (a__law_pool_here, ("" : Str))).bind fun t5 => some (t5.2, t5.1))
def m_law_takes (a__law_part : Str) (a__law_sign : Str) : Option Bool :=
  (if (decide (a__law_part = ("<digits>" : Str))) = true then (some (inS a__law_sign ("0123456789" : Str))) else (some ((decide (a__law_part = ("<word>" : Str))) && (inS a__law_sign ("ABCDEFGHIJKLMNOPQRSTUVWXYZabcdefghijklmnopqrstuvwxyz" : Str)))))
def m_law_ends_b1 (a__law_part : Str) (a__law_line_here : Str)  (s35 : ((List Int) × Int)) : Option (Bool × ((List Int) × Int)) :=
  (gd (fitsS a__law_line_here) <| (if (decide (s35.2 < ((a__law_line_here).length : Int))) = true then ((ixS a__law_line_here s35.2).bind fun t66 => (m_law_takes (a__law_part) (t66)).bind fun t68 => some (t68)) else some (false)).bind fun t60 => some (t60, (s35.1, s35.2)))
def m_law_ends_b2   (s83 : ((List Int) × Int)) : Option ((List Int) × Int) :=
  (gd (fits s83.1) <| some ((s83.1 ++ [(s83.2 + 1)]), (s83.2 + 1)))
def m_law_ends (a__law_part : Str) (a__law_line_here : Str) (a__law_at : Int) : Option (List Int) :=
  (if (decide (a__law_part = ("<any>" : Str))) = true then (gd (fitsS a__law_line_here) <| gd (rgFit a__law_at (((a__law_line_here).length : Int) + 1)) <| some (rng a__law_at (((a__law_line_here).length : Int) + 1))) else (((if (decide (a__law_part ∈ [("<digits>" : Str), ("<word>" : Str)])) = true then ((whileS (m_law_ends_b1 a__law_part a__law_line_here) m_law_ends_b2 fuel (([] : List Int), a__law_at)).bind fun t30 => some (t30.1)) else (gd (fitsS a__law_part) <| gd (fitsS a__law_line_here) <| if (decide ((cutS a__law_line_here (some a__law_at) (some (a__law_at + ((a__law_part).length : Int)))) = a__law_part)) = true then (gd (fitsS a__law_part) <| gd (fits ([] : List Int)) <| some ((([] : List Int) ++ [(a__law_at + ((a__law_part).length : Int))]))) else (some (([] : List Int)))))).bind fun (t19 : (List Int)) => some t19))
def m_law_fits_b1 (s51 : (List Int)) (x82 : Int) (s84 : Unit) : Option (Option Int × Unit) :=
  (if (!decide (x82 ∈ s51)) = true then (some (some x82, ())) else some (none, ()))
def m_law_fits_b2 (a__law_line_here : Str) (x16 : Str) (x49 : Int) (s51 : (List Int)) : Option (List Int) :=
  ((m_law_ends (x16) (a__law_line_here) (x49)).bind fun t65 => gd (fitsE t65) <| (comp (m_law_fits_b1 s51) t65 ()).bind fun t78 => gd (fits2 s51 t78.1) <| some ((s51 ++ t78.1)))
def m_law_fits_b3 (a__law_line_here : Str) (x16 : Str) (s18 : (List Int)) : Option (List Int) :=
  ((loopS (m_law_fits_b2 a__law_line_here x16) s18 (([] : List Int))).bind fun t44 => some (t44))
def m_law_fits (a__law_parts : (List Str)) (a__law_line_here : Str) : Option Bool :=
  ((loopS (m_law_fits_b3 a__law_line_here) a__law_parts (([0] : List Int))).bind fun t11 => (if (!decide (a__law_line_here = ("" : Str))) = true then (gd (fitsS a__law_line_here) <| some ((decide (((a__law_line_here).length : Int) ∈ t11)))) else some (false)).bind fun t147 => some t147)
def m_law_right_b1  (x10 : (List Str)) (s12 : Unit) : Option (Option (List Str) × Unit) :=
  ((m_law_form (x10)).bind fun t29 => some (some t29, ()))
def m_law_right_b2  (x65 : (List Str)) (s67 : Unit) : Option (Option Str × Unit) :=
  (gd (joinOk ("" : Str) x65) <| some (some (Txt.join ("" : Str) x65), ()))
def m_law_right_b3  (x120 : (List Str)) (s122 : Unit) : Option (Option Str × Unit) :=
  ((m_pat___str__ ((Pat.form x120))).bind fun t140 => some (some t140, ()))
def m_law_right_b4  (x177 : (List Str)) (s179 : Unit) : Option (Option Str × Unit) :=
  ((m_pat___str__ ((Pat.form x177))).bind fun t197 => some (some t197, ()))
def m_law_right_b5  (x183 : (List Str)) (s185 : Unit) : Option (Option Str × Unit) :=
  ((m_pat___str__ ((Pat.form x183))).bind fun t203 => some (some t203, ()))
def m_law_right_b6  (x279 : (List Str)) (s281 : Unit) : Option (Option Str × Unit) :=
  ((m_pat___str__ ((Pat.form x279))).bind fun t299 => some (some t299, ()))
def m_law_right_b7  (x334 : (List Str)) (s336 : Unit) : Option (Option Str × Unit) :=
  ((m_pat___str__ ((Pat.form x334))).bind fun t354 => some (some t354, ()))
def m_law_right_b8 (x394 : Int) (x420 : Int) (s422 : Unit) : Option (Option Bool × Unit) :=
  ((atI ([1, 2, 4] : List Int) x420).bind fun t445 => gd (divOk t445) <| gd (modOk 2) <| some (some (decide (((x394 / t445) % 2) = 1)), ()))
def m_law_right_b9 (a__law_pool_here : (Int × Int)) (a__law_drawn : (List (List Str))) (a__law_shape_here : Shp) (t237 : Pat) (x394 : Int) (s396 : Unit) : Option (Ctl Unit (Bool × (Int × Int))) :=
  (gd (rgOk 0 ((a__law_drawn).length : Int)) <| gd (fitsE (rng 0 ((a__law_drawn).length : Int))) <| (comp (m_law_right_b8 x394) (rng 0 ((a__law_drawn).length : Int)) ()).bind fun t416 => (m_pat_holds (t237) (t416.1)).bind fun t475 => (m_law_holds 4 (a__law_shape_here) (t416.1)).bind fun t483 => if (!decide (t475 = t483)) = true then (some (.rt (false, a__law_pool_here))) else (some (.nx ())))
def m_law_right_b10 (t550 : (Str × (Int × Int))) (x577 : (List Str)) (s579 : Unit) : Option (Option Bool × Unit) :=
  ((m_law_fits (x577) (t550.1)).bind fun t596 => some (some t596, ()))
def m_law_right_b11 (a__law_drawn : (List (List Str))) (a__law_shape_here : Shp) (t237 : Pat) (x519 : (List Str)) (s521 : (Int × Int)) : Option (Ctl (Int × Int) (Bool × (Int × Int))) :=
  ((m_law_line (s521) (x519)).bind fun t540 => (m_law_spoiled (t540.2) (t540.1)).bind fun t550 => (m_pat___contains__ (t237) (t550.1)).bind fun t560 => gd (fitsE a__law_drawn) <| (comp (m_law_right_b10 t550) a__law_drawn ()).bind fun t573 => (m_law_holds 4 (a__law_shape_here) (t573.1)).bind fun t622 => if (!decide (t560 = t622)) = true then (some (.rt (false, t550.2))) else (some (.nx (t550.2))))
def m_law_right (a__law_pool_here : (Int × Int)) (a__law_drawn : (List (List Str))) (a__law_shape_here : Shp) : Option (Bool × (Int × Int)) :=
  (gd (fitsE a__law_drawn) <| (comp m_law_right_b1 a__law_drawn ()).bind fun t6 => if (decide (((a__law_drawn).length : Int) = 4)) = true then (gd (fitsE a__law_drawn) <| (comp m_law_right_b2 a__law_drawn ()).bind fun t61 => (m_law_refused (a__law_shape_here) (t6.1)).bind fun t103 => (if t103 = true then (gd (fitsE t6.1) <| (comp m_law_right_b5 t6.1 ()).bind fun t179 => gd (shp (dL dS) t179.1) <| gd (shp (dL dS) t61.1) <| some ((decide (t179.1 = t61.1)))) else some (false)).bind fun t168 => some (t168, a__law_pool_here)) else ((m_law_built 4 (a__law_shape_here) (t6.1)).bind fun t237 => (m_pat___str__ (t237)).bind fun t245 => (m_law_shown 4 (a__law_shape_here) (a__law_drawn)).bind fun t253 => if (!decide (t245 = t253)) = true then (some (false, a__law_pool_here)) else ((m_pat_forms (t237)).bind fun t262 => gd (fitsE t262) <| (comp m_law_right_b6 t262 ()).bind fun t275 => gd (fitsE t6.1) <| (comp m_law_right_b7 t6.1 ()).bind fun t330 => gd (shp (dL dS) t275.1) <| gd (shp (dL dS) t330.1) <| if (!decide (t275.1 = t330.1)) = true then (some (false, a__law_pool_here)) else (gd (shOkS a__law_shape_here) <| if (!decide ((decide ((t237).cls = "Both")) = (Shp.isOp a__law_shape_here ("&" : Str)))) = true then (some (false, a__law_pool_here)) else (gd (shOkS a__law_shape_here) <| if (!decide ((decide ((t237).cls = "Either")) = (Shp.isOp a__law_shape_here ("|" : Str)))) = true then (some (false, a__law_pool_here)) else (gd (powOk 2 3) <| gd (rgOk 0 (2 ^ (3 : Int).toNat)) <| (loopC (m_law_right_b9 a__law_pool_here a__law_drawn a__law_shape_here t237) (rng 0 (2 ^ (3 : Int).toNat)) ()).bind fun t389 => aft t389 fun s496 => (loopC (m_law_right_b11 a__law_drawn a__law_shape_here t237) a__law_drawn (a__law_pool_here)).bind fun t513 => aft t513 fun s636 => (m_pat___str__ (t237)).bind fun t651 => (m_Pattern___eq___v2 (t237) (t651)).bind fun t659 => if t659 = true then (some (false, s636)) else ((m_law_built 4 (a__law_shape_here) (t6.1)).bind fun t668 => (m_Pattern___eq__ (t237) (t668)).bind fun t676 => some (t676, s636))))))))
def m_law_b1  (x64 : Int) (s66 : (Int × Int)) : Option (Option (List Str) × (Int × Int)) :=
  ((m_law_rich (s66)).bind fun t84 => some (some t84.1, (t84.2)))
def m_law_b2  (x146 : (List Str)) (s148 : Unit) : Option (Option (List Str) × Unit) :=
  ((m_law_form (x146)).bind fun t165 => some (some t165, ()))
def m_law_b3 (a__law_script : (List Int)) (x16 : Int) (s18 : (Pat × Str)) : Option (Ctl (Pat × Str) Bool) :=
  ((m_law_pool (a__law_script) (x16)).bind fun t37 => (m_law_take (t37) (4)).bind fun t48 => gd (rgOk 0 (1 + t48.1)) <| gd (fitsE (rng 0 (1 + t48.1))) <| (comp m_law_b1 (rng 0 (1 + t48.1)) (t48.2)).bind fun t60 => (m_law_shape (t60.2) (((t60.1).length : Int))).bind fun t113 => (m_law_right (t113.2) (t60.1) (t113.1)).bind fun t123 => if (!t123.1) = true then (some (.rt false)) else (if (decide (((t60.1).length : Int) < 4)) = true then (gd (fitsE t60.1) <| (comp m_law_b2 t60.1 ()).bind fun t142 => (m_law_built 4 (t113.1) (t142.1)).bind fun t191 => (m_Pattern___eq__ (t191) (s18.1)).bind fun t199 => (m_law_shown 4 (t113.1) (t60.1)).bind fun t207 => if (!decide (t199 = (decide (t207 = s18.2)))) = true then (some (.rt false)) else ((m_law_shown 4 (t113.1) (t60.1)).bind fun t218 => some (.nx (t191, t218)))) else (some (.nx (s18.1, s18.2)))))
def m_law (a__law_script : (List Int)) : Option Bool :=
  ((m_Form___init__ [("x" : Str)]).bind fun t1 => gd (rgOk 0 (maxI 1 (minI 24 ((a__law_script).length : Int)))) <| (loopC (m_law_b3 a__law_script) (rng 0 (maxI 1 (minI 24 ((a__law_script).length : Int)))) ((Pat.form t1), ("x" : Str))).bind fun t11 => aft t11 fun s228 => some true)
def top (i : Nat) : Stmt := PySem.Challenge.pw_gluedlines_k05_patterns_joined.main.body.getD i (.Pass ⟨0, 0, 0, 0⟩)
abbrev s_is_line : Stmt := top 4
abbrev s_is_allowed : Stmt := top 23
abbrev s_Form___init__ : Stmt := inClass (top 25) 3
abbrev s_law_pool : Stmt := top 29
abbrev s_law_take : Stmt := top 30
abbrev s_law_shape : Stmt := top 40
abbrev s_law_all_signs : Stmt := top 31
abbrev s_law_text : Stmt := top 32
abbrev s_law_rich : Stmt := top 33
abbrev s_Form___str__ : Stmt := inClass (top 25) 4
abbrev s_Both___str__ : Stmt := inClass (top 26) 1
abbrev s_Either___str__ : Stmt := inClass (top 27) 1
abbrev s_Pattern___eq__ : Stmt := inClass (top 24) 3
abbrev s_Form_forms : Stmt := inClass (top 25) 6
abbrev s_Either_forms : Stmt := inClass (top 27) 2
abbrev s_Both_forms : Stmt := inClass (top 26) 2
abbrev s_Either___init__ : Stmt := inClass (top 27) 0
abbrev s_Pattern___or__ : Stmt := inClass (top 24) 1
abbrev s_Both___init__ : Stmt := inClass (top 26) 0
abbrev s_Pattern___and__ : Stmt := inClass (top 24) 0
abbrev s_law_built : Stmt := top 41
abbrev s_law_form : Stmt := top 34
abbrev s_law_shown : Stmt := top 42
abbrev s_law_spoiled : Stmt := top 39
abbrev s_Form___contains__ : Stmt := inClass (top 24) 2
abbrev s_Both___contains__ : Stmt := inClass (top 24) 2
abbrev s_Either___contains__ : Stmt := inClass (top 24) 2
abbrev s_Form_holds : Stmt := inClass (top 25) 7
abbrev s_Either_holds : Stmt := inClass (top 27) 3
abbrev s_Both_holds : Stmt := inClass (top 26) 3
abbrev s_cells_of : Stmt := top 10
abbrev s_closed : Stmt := top 12
abbrev s_started : Stmt := top 13
abbrev s_Form_parts : Stmt := inClass (top 25) 5
abbrev s_takes : Stmt := top 11
abbrev s_moved : Stmt := top 14
abbrev s_is_done : Stmt := top 15
abbrev s_pat___contains__ : Stmt := inClass (top 24) 2
abbrev s_law_refused : Stmt := top 44
abbrev s_law_holds : Stmt := top 43
abbrev s_law_line : Stmt := top 38
abbrev s_law_takes : Stmt := top 35
abbrev s_law_ends : Stmt := top 36
abbrev s_law_fits : Stmt := top 37
abbrev s_law_right : Stmt := top 45
abbrev s_law : Stmt := top 46
abbrev si_NoForm : Stmt := inClass (top 18) 0
theorem is_NoForm : PySem.OwnE.IS "NoForm.__init__" (defArgs si_NoForm) (defBody si_NoForm) (defScope si_NoForm) ["at"] where
  bd := ⟨_, _, _, _, _, _, _, _, _, rfl, .cons (.nil), fun _ _ _ _ => ⟨⟨_, rfl⟩, rfl, rfl⟩⟩
  bind := fun _ _ _ _ _ _ _ us hl => match us, hl with | [_, _], _ => rfl
  hd := ⟨_, rfl, rfl⟩
  nd := by decide +kernel
  loc := by decide +kernel
  cell := by decide +kernel
  co := rfl
  gen := rfl
  k := rfl
  hks := rfl
  hkc := rfl
  few := by decide
  some_ := by decide
structure Tx (P : Program) (K : PySem.W.Frag) (mg : Str → Option Value) : Prop where
  F_is_line : FnD' K ("is_line", none) "is_line" "is_line" s_is_line
  g_is_line : mg "is_line" = some (.ref (He.ga K "is_line"))
  F_is_allowed : FnD' K ("is_allowed", none) "is_allowed" "is_allowed" s_is_allowed
  g_is_allowed : mg "is_allowed" = some (.ref (He.ga K "is_allowed"))
  F_Form___init__ : FnD' K ("Form", some "__init__") "__init__" "Form.__init__" s_Form___init__
  F_law_pool : FnD' K ("_law_pool", none) "_law_pool" "_law_pool" s_law_pool
  g_law_pool : mg "_law_pool" = some (.ref (He.ga K "_law_pool"))
  F_law_take : FnD' K ("_law_take", none) "_law_take" "_law_take" s_law_take
  g_law_take : mg "_law_take" = some (.ref (He.ga K "_law_take"))
  F_law_shape : FnD' K ("_law_shape", none) "_law_shape" "_law_shape" s_law_shape
  g_law_shape : mg "_law_shape" = some (.ref (He.ga K "_law_shape"))
  F_law_all_signs : FnD' K ("_law_all_signs", none) "_law_all_signs" "_law_all_signs" s_law_all_signs
  g_law_all_signs : mg "_law_all_signs" = some (.ref (He.ga K "_law_all_signs"))
  F_law_text : FnD' K ("_law_text", none) "_law_text" "_law_text" s_law_text
  g_law_text : mg "_law_text" = some (.ref (He.ga K "_law_text"))
  F_law_rich : FnD' K ("_law_rich", none) "_law_rich" "_law_rich" s_law_rich
  g_law_rich : mg "_law_rich" = some (.ref (He.ga K "_law_rich"))
  F_Form___str__ : FnD' K ("Form", some "__str__") "__str__" "Form.__str__" s_Form___str__
  F_Both___str__ : FnD' K ("Both", some "__str__") "__str__" "Both.__str__" s_Both___str__
  F_Either___str__ : FnD' K ("Either", some "__str__") "__str__" "Either.__str__" s_Either___str__
  F_Pattern___eq__ : FnD' K ("Pattern", some "__eq__") "__eq__" "Pattern.__eq__" s_Pattern___eq__
  F_Form_forms : FnD' K ("Form", some "forms") "forms" "Form.forms" s_Form_forms
  F_Either_forms : FnD' K ("Either", some "forms") "forms" "Either.forms" s_Either_forms
  F_Both_forms : FnD' K ("Both", some "forms") "forms" "Both.forms" s_Both_forms
  F_Either___init__ : FnD' K ("Either", some "__init__") "__init__" "Either.__init__" s_Either___init__
  F_Pattern___or__ : FnD' K ("Pattern", some "__or__") "__or__" "Pattern.__or__" s_Pattern___or__
  F_Both___init__ : FnD' K ("Both", some "__init__") "__init__" "Both.__init__" s_Both___init__
  F_Pattern___and__ : FnD' K ("Pattern", some "__and__") "__and__" "Pattern.__and__" s_Pattern___and__
  F_law_built : FnD' K ("_law_built", none) "_law_built" "_law_built" s_law_built
  g_law_built : mg "_law_built" = some (.ref (He.ga K "_law_built"))
  F_law_form : FnD' K ("_law_form", none) "_law_form" "_law_form" s_law_form
  g_law_form : mg "_law_form" = some (.ref (He.ga K "_law_form"))
  F_law_shown : FnD' K ("_law_shown", none) "_law_shown" "_law_shown" s_law_shown
  g_law_shown : mg "_law_shown" = some (.ref (He.ga K "_law_shown"))
  F_law_spoiled : FnD' K ("_law_spoiled", none) "_law_spoiled" "_law_spoiled" s_law_spoiled
  g_law_spoiled : mg "_law_spoiled" = some (.ref (He.ga K "_law_spoiled"))
  F_Form___contains__ : FnD' K ("Form", some "__contains__") "__contains__" "Pattern.__contains__" s_Form___contains__
  F_Both___contains__ : FnD' K ("Both", some "__contains__") "__contains__" "Pattern.__contains__" s_Both___contains__
  F_Either___contains__ : FnD' K ("Either", some "__contains__") "__contains__" "Pattern.__contains__" s_Either___contains__
  F_Form_holds : FnD' K ("Form", some "holds") "holds" "Form.holds" s_Form_holds
  F_Either_holds : FnD' K ("Either", some "holds") "holds" "Either.holds" s_Either_holds
  F_Both_holds : FnD' K ("Both", some "holds") "holds" "Both.holds" s_Both_holds
  F_cells_of : FnD' K ("cells_of", none) "cells_of" "cells_of" s_cells_of
  g_cells_of : mg "cells_of" = some (.ref (He.ga K "cells_of"))
  F_closed : FnD' K ("closed", none) "closed" "closed" s_closed
  g_closed : mg "closed" = some (.ref (He.ga K "closed"))
  F_started : FnD' K ("started", none) "started" "started" s_started
  g_started : mg "started" = some (.ref (He.ga K "started"))
  F_Form_parts : FnD' K ("Form", some "parts") "parts" "Form.parts" s_Form_parts
  F_takes : FnD' K ("takes", none) "takes" "takes" s_takes
  g_takes : mg "takes" = some (.ref (He.ga K "takes"))
  F_moved : FnD' K ("moved", none) "moved" "moved" s_moved
  g_moved : mg "moved" = some (.ref (He.ga K "moved"))
  F_is_done : FnD' K ("is_done", none) "is_done" "is_done" s_is_done
  g_is_done : mg "is_done" = some (.ref (He.ga K "is_done"))
  F_law_refused : FnD' K ("_law_refused", none) "_law_refused" "_law_refused" s_law_refused
  g_law_refused : mg "_law_refused" = some (.ref (He.ga K "_law_refused"))
  F_law_holds : FnD' K ("_law_holds", none) "_law_holds" "_law_holds" s_law_holds
  g_law_holds : mg "_law_holds" = some (.ref (He.ga K "_law_holds"))
  F_law_line : FnD' K ("_law_line", none) "_law_line" "_law_line" s_law_line
  g_law_line : mg "_law_line" = some (.ref (He.ga K "_law_line"))
  F_law_takes : FnD' K ("_law_takes", none) "_law_takes" "_law_takes" s_law_takes
  g_law_takes : mg "_law_takes" = some (.ref (He.ga K "_law_takes"))
  F_law_ends : FnD' K ("_law_ends", none) "_law_ends" "_law_ends" s_law_ends
  g_law_ends : mg "_law_ends" = some (.ref (He.ga K "_law_ends"))
  F_law_fits : FnD' K ("_law_fits", none) "_law_fits" "_law_fits" s_law_fits
  g_law_fits : mg "_law_fits" = some (.ref (He.ga K "_law_fits"))
  F_law_right : FnD' K ("_law_right", none) "_law_right" "_law_right" s_law_right
  g_law_right : mg "_law_right" = some (.ref (He.ga K "_law_right"))
  F_law : FnD' K ("law", none) "law" "law" s_law
  g_law : mg "law" = some (.ref (He.ga K "law"))
  c_Form : Cls K (He.ga K "Form")
  gc_Form : mg "Form" = some (.ref (He.ga K "Form"))
  na_Form_pieces : NoAttr K (He.ga K "Form") "pieces"
  mk_Form : Mk K (He.ga K "Form") (He.fAd K ("Form", some "__init__"))
  me_Form___str__ : Meth K (He.ga K "Form") "__str__" (He.fAd K ("Form", some "__str__"))
  me_Form_forms : Meth K (He.ga K "Form") "forms" (He.fAd K ("Form", some "forms"))
  me_Form___contains__ : Meth K (He.ga K "Form") "__contains__" (He.fAd K ("Form", some "__contains__"))
  me_Form_holds : Meth K (He.ga K "Form") "holds" (He.fAd K ("Form", some "holds"))
  me_Form_parts : Meth K (He.ga K "Form") "parts" (He.fAd K ("Form", some "parts"))
  c_Both : Cls K (He.ga K "Both")
  gc_Both : mg "Both" = some (.ref (He.ga K "Both"))
  na_Both_left : NoAttr K (He.ga K "Both") "left"
  na_Both_right : NoAttr K (He.ga K "Both") "right"
  me_Both___str__ : Meth K (He.ga K "Both") "__str__" (He.fAd K ("Both", some "__str__"))
  me_Both_forms : Meth K (He.ga K "Both") "forms" (He.fAd K ("Both", some "forms"))
  mk_Both : Mk K (He.ga K "Both") (He.fAd K ("Both", some "__init__"))
  me_Both___contains__ : Meth K (He.ga K "Both") "__contains__" (He.fAd K ("Both", some "__contains__"))
  me_Both_holds : Meth K (He.ga K "Both") "holds" (He.fAd K ("Both", some "holds"))
  c_Either : Cls K (He.ga K "Either")
  gc_Either : mg "Either" = some (.ref (He.ga K "Either"))
  na_Either_left : NoAttr K (He.ga K "Either") "left"
  na_Either_right : NoAttr K (He.ga K "Either") "right"
  me_Either___str__ : Meth K (He.ga K "Either") "__str__" (He.fAd K ("Either", some "__str__"))
  me_Either_forms : Meth K (He.ga K "Either") "forms" (He.fAd K ("Either", some "forms"))
  mk_Either : Mk K (He.ga K "Either") (He.fAd K ("Either", some "__init__"))
  me_Either___contains__ : Meth K (He.ga K "Either") "__contains__" (He.fAd K ("Either", some "__contains__"))
  me_Either_holds : Meth K (He.ga K "Either") "holds" (He.fAd K ("Either", some "holds"))
  c_Pattern : Cls K (He.ga K "Pattern")
  gc_Pattern : mg "Pattern" = some (.ref (He.ga K "Pattern"))
  me_Pattern___eq__ : Meth K (He.ga K "Pattern") "__eq__" (He.fAd K ("Pattern", some "__eq__"))
  me_Pattern___or__ : Meth K (He.ga K "Pattern") "__or__" (He.fAd K ("Pattern", some "__or__"))
  me_Pattern___and__ : Meth K (He.ga K "Pattern") "__and__" (He.fAd K ("Pattern", some "__and__"))
  pf : PatF K
  pe : PatE K
  er_NoForm : Er P K mg "NoForm" "NoForm.__init__" (defArgs si_NoForm) (defBody si_NoForm) (defScope si_NoForm) ["at"]
  gx_NoForm : mg "NoForm" = some (.ref (He.ga K "NoForm"))
  xm_NoForm_NoForm : PySem.W.exmOne K (.ref (He.ga K "NoForm")) (.ref (He.ga K "NoForm")) = some true
  k_ANY_CELL : ∃ t, mg "ANY_CELL" = some (.str "<any>" t)
  k_DIGITS_CELL : ∃ t, mg "DIGITS_CELL" = some (.str "<digits>" t)
  k_DIGIT_SIGNS : ∃ t, mg "DIGIT_SIGNS" = some (.str "0123456789" t)
  g_FREE_CELLS : mg "FREE_CELLS" = some (.ref (He.ga K "FREE_CELLS"))
  q_FREE_CELLS : ∀ F : Hp, (qT qS).r K F (.ref (He.ga K "FREE_CELLS")) (["<digits>", "<word>", "<any>"] : List Str)
  k_LETTER_SIGNS : ∃ t, mg "LETTER_SIGNS" = some (.str "ABCDEFGHIJKLMNOPQRSTUVWXYZabcdefghijklmnopqrstuvwxyz" t)
  k_MOST_FORMS : ∃ t, mg "MOST_FORMS" = some (.int 3 t)
  k_MOST_PARTS : ∃ t, mg "MOST_PARTS" = some (.int 4 t)
  k_MOST_SIGNS : ∃ t, mg "MOST_SIGNS" = some (.int 4 t)
  k_SIGNS : ∃ t, mg "SIGNS" = some (.str " #-.0123456789:>ABCDEFGHIJKLMNOPQRSTUVWXYZabcdefghijklmnopqrstuvwxyz" t)
  k_WORD_CELL : ∃ t, mg "WORD_CELL" = some (.str "<word>" t)
  n_int : mg "int" = none
  n_isinstance : mg "isinstance" = none
  n_len : mg "len" = none
  n_list : mg "list" = none
  n_max : mg "max" = none
  n_min : mg "min" = none
  n_range : mg "range" = none
  n_str : mg "str" = none
  n_tuple : mg "tuple" = none
section
variable {P : Program} {w : World} {K : PySem.W.Frag} {mg : Str → Option Value} {base : Heap}
theorem fld_Form_pieces {P0' : Addr → Prop} {F0 H0 F H : Hp} {v : V} {a : (List Str)} {Q : VK} (T : Tx P K mg) (S : Sx P0' F0 H0 F H) (r : qForm.r K F v a) (k : ∀ u, (qT qS).r K F u a → Q u H) : fdK K "pieces" Q v H := by
  obtain ⟨p, dx, u0, rfl, h2, k0⟩ := r
  exact fd_at (S.sub _ _ h2) T.c_Form T.na_Form_pieces (by rfl) (k _ k0)
theorem mt_Form___str__ {P0' : Addr → Prop} {F0 H0 F H : Hp} {v : V} {a : (List Str)} {G : V → Hp → Prop} (S : Sx P0' F0 H0 F H) (r : qForm.r K F v a) (k : G v H) : mtK (He.ga K "Form") "__str__" G v H := by
  obtain ⟨p, dx, u0, rfl, h2, k0⟩ := r
  exact mt_at (S.sub _ _ h2) (by rfl) k
theorem mt_Form_forms {P0' : Addr → Prop} {F0 H0 F H : Hp} {v : V} {a : (List Str)} {G : V → Hp → Prop} (S : Sx P0' F0 H0 F H) (r : qForm.r K F v a) (k : G v H) : mtK (He.ga K "Form") "forms" G v H := by
  obtain ⟨p, dx, u0, rfl, h2, k0⟩ := r
  exact mt_at (S.sub _ _ h2) (by rfl) k
theorem in_Form___contains__ {P0' : Addr → Prop} {F0 H0 F H : Hp} {v : V} {a : (List Str)} {Q : VK} {E : XK} {sp : L2.Sp} {x : V} (S : Sx P0' F0 H0 F H) (r : qForm.r K F v a) (k : sp [v, x] H (inK Q) E) : rInO (He.ga K "Form") sp E x v H Q := by
  obtain ⟨p, dx, u0, rfl, h2, k0⟩ := r
  exact in_at (S.sub _ _ h2) k
theorem mt_Form_holds {P0' : Addr → Prop} {F0 H0 F H : Hp} {v : V} {a : (List Str)} {G : V → Hp → Prop} (S : Sx P0' F0 H0 F H) (r : qForm.r K F v a) (k : G v H) : mtK (He.ga K "Form") "holds" G v H := by
  obtain ⟨p, dx, u0, rfl, h2, k0⟩ := r
  exact mt_at (S.sub _ _ h2) (by rfl) k
theorem mt_Form_parts {P0' : Addr → Prop} {F0 H0 F H : Hp} {v : V} {a : (List Str)} {G : V → Hp → Prop} (S : Sx P0' F0 H0 F H) (r : qForm.r K F v a) (k : G v H) : mtK (He.ga K "Form") "parts" G v H := by
  obtain ⟨p, dx, u0, rfl, h2, k0⟩ := r
  exact mt_at (S.sub _ _ h2) (by rfl) k
theorem fld_Both_left {P0' : Addr → Prop} {F0 H0 F H : Hp} {v : V} {a : (Pat × Pat)} {Q : VK} (T : Tx P K mg) (S : Sx P0' F0 H0 F H) (r : qBoth.r K F v a) (k : ∀ u, qPat.r K F u a.1 → Q u H) : fdK K "left" Q v H := by
  obtain ⟨p, dx, u0, u1, rfl, h2, k0, k1⟩ := r
  exact fd_at (S.sub _ _ h2) T.c_Both T.na_Both_left (by rfl) (k _ k0)
theorem fld_Both_right {P0' : Addr → Prop} {F0 H0 F H : Hp} {v : V} {a : (Pat × Pat)} {Q : VK} (T : Tx P K mg) (S : Sx P0' F0 H0 F H) (r : qBoth.r K F v a) (k : ∀ u, qPat.r K F u a.2 → Q u H) : fdK K "right" Q v H := by
  obtain ⟨p, dx, u0, u1, rfl, h2, k0, k1⟩ := r
  exact fd_at (S.sub _ _ h2) T.c_Both T.na_Both_right (by rfl) (k _ k1)
theorem mt_Both___str__ {P0' : Addr → Prop} {F0 H0 F H : Hp} {v : V} {a : (Pat × Pat)} {G : V → Hp → Prop} (S : Sx P0' F0 H0 F H) (r : qBoth.r K F v a) (k : G v H) : mtK (He.ga K "Both") "__str__" G v H := by
  obtain ⟨p, dx, u0, u1, rfl, h2, k0, k1⟩ := r
  exact mt_at (S.sub _ _ h2) (by rfl) k
theorem mt_Both_forms {P0' : Addr → Prop} {F0 H0 F H : Hp} {v : V} {a : (Pat × Pat)} {G : V → Hp → Prop} (S : Sx P0' F0 H0 F H) (r : qBoth.r K F v a) (k : G v H) : mtK (He.ga K "Both") "forms" G v H := by
  obtain ⟨p, dx, u0, u1, rfl, h2, k0, k1⟩ := r
  exact mt_at (S.sub _ _ h2) (by rfl) k
theorem in_Both___contains__ {P0' : Addr → Prop} {F0 H0 F H : Hp} {v : V} {a : (Pat × Pat)} {Q : VK} {E : XK} {sp : L2.Sp} {x : V} (S : Sx P0' F0 H0 F H) (r : qBoth.r K F v a) (k : sp [v, x] H (inK Q) E) : rInO (He.ga K "Both") sp E x v H Q := by
  obtain ⟨p, dx, u0, u1, rfl, h2, k0, k1⟩ := r
  exact in_at (S.sub _ _ h2) k
theorem mt_Both_holds {P0' : Addr → Prop} {F0 H0 F H : Hp} {v : V} {a : (Pat × Pat)} {G : V → Hp → Prop} (S : Sx P0' F0 H0 F H) (r : qBoth.r K F v a) (k : G v H) : mtK (He.ga K "Both") "holds" G v H := by
  obtain ⟨p, dx, u0, u1, rfl, h2, k0, k1⟩ := r
  exact mt_at (S.sub _ _ h2) (by rfl) k
theorem fld_Either_left {P0' : Addr → Prop} {F0 H0 F H : Hp} {v : V} {a : (Pat × Pat)} {Q : VK} (T : Tx P K mg) (S : Sx P0' F0 H0 F H) (r : qEither.r K F v a) (k : ∀ u, qPat.r K F u a.1 → Q u H) : fdK K "left" Q v H := by
  obtain ⟨p, dx, u0, u1, rfl, h2, k0, k1⟩ := r
  exact fd_at (S.sub _ _ h2) T.c_Either T.na_Either_left (by rfl) (k _ k0)
theorem fld_Either_right {P0' : Addr → Prop} {F0 H0 F H : Hp} {v : V} {a : (Pat × Pat)} {Q : VK} (T : Tx P K mg) (S : Sx P0' F0 H0 F H) (r : qEither.r K F v a) (k : ∀ u, qPat.r K F u a.2 → Q u H) : fdK K "right" Q v H := by
  obtain ⟨p, dx, u0, u1, rfl, h2, k0, k1⟩ := r
  exact fd_at (S.sub _ _ h2) T.c_Either T.na_Either_right (by rfl) (k _ k1)
theorem mt_Either___str__ {P0' : Addr → Prop} {F0 H0 F H : Hp} {v : V} {a : (Pat × Pat)} {G : V → Hp → Prop} (S : Sx P0' F0 H0 F H) (r : qEither.r K F v a) (k : G v H) : mtK (He.ga K "Either") "__str__" G v H := by
  obtain ⟨p, dx, u0, u1, rfl, h2, k0, k1⟩ := r
  exact mt_at (S.sub _ _ h2) (by rfl) k
theorem mt_Either_forms {P0' : Addr → Prop} {F0 H0 F H : Hp} {v : V} {a : (Pat × Pat)} {G : V → Hp → Prop} (S : Sx P0' F0 H0 F H) (r : qEither.r K F v a) (k : G v H) : mtK (He.ga K "Either") "forms" G v H := by
  obtain ⟨p, dx, u0, u1, rfl, h2, k0, k1⟩ := r
  exact mt_at (S.sub _ _ h2) (by rfl) k
theorem in_Either___contains__ {P0' : Addr → Prop} {F0 H0 F H : Hp} {v : V} {a : (Pat × Pat)} {Q : VK} {E : XK} {sp : L2.Sp} {x : V} (S : Sx P0' F0 H0 F H) (r : qEither.r K F v a) (k : sp [v, x] H (inK Q) E) : rInO (He.ga K "Either") sp E x v H Q := by
  obtain ⟨p, dx, u0, u1, rfl, h2, k0, k1⟩ := r
  exact in_at (S.sub _ _ h2) k
theorem mt_Either_holds {P0' : Addr → Prop} {F0 H0 F H : Hp} {v : V} {a : (Pat × Pat)} {G : V → Hp → Prop} (S : Sx P0' F0 H0 F H) (r : qEither.r K F v a) (k : G v H) : mtK (He.ga K "Either") "holds" G v H := by
  obtain ⟨p, dx, u0, u1, rfl, h2, k0, k1⟩ := r
  exact mt_at (S.sub _ _ h2) (by rfl) k
def sp_is_line (K : PySem.W.Frag) : Sp := fun vs H Q _ => ∃ (F : Hp) (v_thing : V) (a_thing : Th) (r : Bool), vs = [v_thing] ∧ Same F H ∧ qTh.r K F v_thing a_thing ∧ m_is_line a_thing = some r ∧ ∀ v F' H', Sx P0 F H F' H' → qB.r K F' v r → Q v H'
theorem sc_is_line : FnScope ["thing", "sign"] ["thing"] (defScope s_is_line) := ⟨rfl, rfl, rfl, by decide +kernel, rfl, by decide +kernel, by decide +kernel⟩
theorem bn_is_line (T : Tx P K mg) : Binds K (fdOf K ("is_line", none)) ["thing"] [] := FunD.bindsN T.F_is_line fun _ _ _ _ _ _ us hl => match us, hl with | [_], _ => rfl
theorem ok_is_line (T : Tx P K mg) : FnOk P w K mg base CX0 1 (He.ga K "is_line") (fdOf K ("is_line", none)) ["thing"] (sp_is_line K) := by
  refine FunD.ok T.F_is_line sc_is_line (fun vs H0 Q E h => ?_) (fun cdv A outer s H0 vs Q E hr h => ?_)
  · obtain ⟨_, _, _, _, rfl, _⟩ := h
    rfl
  · obtain ⟨F0, v_thing, a_thing, r, rfl, hE, f_thing, hm, hQ⟩ := h
    refine ⟨_, PSs.nox ((pss_cons (ps_if (PW.pt (pw_or (pt_not (pt_val (pe_callB (r := rIsi K) call_isi (by rfl) T.n_isinstance (by decide +kernel) (pa_cons (pv 0) (pa_cons (pe_bltn (v := V.ty "str") (by rfl) T.n_str (by decide +kernel) rfl) pa_nil))))) (pw_or1 (pt_cmpR op_eqS (pv 0) pe_str (nomark _))))) (pss_one (ps_ret pe_bl)) pss_nil) (pss_cons (ps_for PassesOwn.never rfl (pi_str (pv 0)) (pg_name (i := 1) sc_is_line.nd rfl (by first | exact Or.inl rfl | exact Or.inr rfl)) (pss_one (ps_if (pt_cmpR op_niS (pv 1) (pe_glob (v := V.str " #-.0123456789:>ABCDEFGHIJKLMNOPQRSTUVWXYZabcdefghijklmnopqrstuvwxyz") (by rfl) (T.k_SIGNS.choose_spec) ⟨_, rfl⟩) rfl) (pss_one (ps_ret pe_bl)) pss_nil))) (pss_one (ps_ret pe_bl))))), ?_⟩
    have S : Sx P0 F0 H0 F0 H0 := Sx.refl0 hE
    unfold m_is_line at hm
    obtain ⟨t4, e5, hm⟩ := bd_some hm
    refine rd_seq ?_
    refine rd_ifS ?_
    refine rd_or ?_
    refine rd_not ?_
    refine rd_tB ?_
    refine rd_cb ?_
    refine rd_cons ?_
    refine rd_v rfl ?_
    refine rd_cons ?_
    refine rd_c ?_
    refine rd_nil ?_
    refine rd_isiTh (n := "str") (tx_th S f_thing) (by decide +kernel) ?_
    refine rd_b ?_
    refine or_j (fun c H' => c = t4 ∧ ∃ F', Sx P0 F0 H0 F' H') ?_ ?_ ?_
    · intro b6 Q7 q8
      have e5 := if_f e5 b6
      have S9 := Sx.refl0 S.sub
      obtain ⟨t10, e11, e5⟩ := bd_some e5
      have e12 := thS_fact f_thing e11
      cases e12
      cases e5
      refine rd_test ?_
      refine rd_op ?_
      refine rd_v rfl ?_
      refine rd_c ?_
      refine rd_S0 ?_
      refine rd_b ?_
      exact q8 _ _ ⟨rfl, F0, S9⟩
    · intro b6
      have e5 := if_t e5 b6
      cases e5
      have S13 := Sx.refl0 S.sub
      exact ⟨rfl, F0, S13⟩
    rintro b17 H15 ⟨rfl, F14, c16⟩
    have S18 := S.call0 c16
    have f_thing := qTh.mono c16.le f_thing
    refine if_b hm (fun b19 hm => ?_) (fun b19 hm => ?_)
    · skip
      cases hm
      refine rd_ret ?_
      refine rd_c ?_
      exact hQ _ _ _ S18 rfl
    · skip
      obtain ⟨t20, e21, hm⟩ := bd_some hm
      have e22 := thS_fact f_thing e21
      cases e22
      refine rd_next ?_
      refine rd_seq ?_
      refine rd_for ?_
      refine rd_iS ?_
      refine rd_v rfl ?_
      refine rd_wS ?_
      obtain ⟨t23, e24, hm⟩ := bd_some hm
      refine rd_forC feedsS (typedS (K := K) (F := F14)) e24 (fun (s25 : Unit) σ H => ∃ (F : Hp) (o1 : Option V), σ = [some (V.str (t20)), o1] ∧ Sx P0 F14 H15 F H) ?_ ?_ ?_ ?_
      · intro _ _ _ _; trivial
      · skip
        have S27 := Sx.refl0 S18.sub
        exact ⟨F14, _, rfl, S27⟩
      · skip
        rintro x28 v29 s30 c34 σ31 H32 f33 ⟨F35, o37, rfl, S36⟩ hm40 hbk38 hrt39
        unfold m_is_line_b1 at hm40
        cases (show v29 = (V.str (x28)) from f33)
        refine rd_gn ?_
        refine rd_ifS ?_
        refine rd_test ?_
        refine rd_op ?_
        refine rd_v rfl ?_
        refine rd_c ?_
        refine rd_niSS ?_
        refine rd_b ?_
        refine if_b hm40 (fun b41 hm40 => ?_) (fun b41 hm40 => ?_)
        · skip
          cases hm40
          have e42 := hrt39 _ rfl
          subst e42
          have hm := aft_rt hm
          have S43 := S18.call0 S36
          cases hm
          refine rd_ret ?_
          refine rd_c ?_
          exact hQ _ _ _ S43 rfl
        · skip
          cases hm40
          refine rd_next ?_
          exact ⟨_, rfl, ⟨F35, _, rfl, S36⟩⟩
      · skip
        rintro s46 σ44 H45 e47 ⟨F48, o50, rfl, S49⟩
        subst e47
        have hm := aft_nx hm
        have S51 := S18.call0 S49
        cases hm
        refine rd_ret ?_
        refine rd_c ?_
        exact hQ _ _ _ S51 rfl
def sp_is_allowed (K : PySem.W.Frag) : Sp := fun vs H Q _ => ∃ (F : Hp) (v_parts : V) (a_parts : (List Str)) (a_at : Int) (r : Bool), vs = [v_parts, (V.int (a_at))] ∧ Same F H ∧ (qT qS).r K F v_parts a_parts ∧ m_is_allowed a_parts a_at = some r ∧ ∀ v F' H', Sx P0 F H F' H' → qB.r K F' v r → Q v H'
theorem sc_is_allowed : FnScope ["parts", "at", "part"] ["parts", "at"] (defScope s_is_allowed) := ⟨rfl, rfl, rfl, by decide +kernel, rfl, by decide +kernel, by decide +kernel⟩
theorem bn_is_allowed (T : Tx P K mg) : Binds K (fdOf K ("is_allowed", none)) ["parts", "at"] [] := FunD.bindsN T.F_is_allowed fun _ _ _ _ _ _ us hl => match us, hl with | [_, _], _ => rfl
theorem ok_is_allowed (T : Tx P K mg) : FnOk P w K mg base CX0 2 (He.ga K "is_allowed") (fdOf K ("is_allowed", none)) ["parts", "at"] (sp_is_allowed K) := by
  refine FunD.ok T.F_is_allowed sc_is_allowed (fun vs H0 Q E h => ?_) (fun cdv A outer s H0 vs Q E hr h => ?_)
  · obtain ⟨_, _, _, _, _, rfl, _⟩ := h
    rfl
  · obtain ⟨F0, v_parts, a_parts, a_at, r, rfl, hE, f_parts, hm, hQ⟩ := h
    refine ⟨_, PSs.nox ((pss_cons (ps_set (i := 2) sc_is_allowed.nd rfl (by first | exact Or.inl rfl | exact Or.inr rfl) (pe_ix (r := rIxT K) ix_tup (pv 0) (pv 1) (fun _ _ => rfl))) (pss_cons (ps_if (PW.pt (pw_or (pt_cmpR op_ge (pv 1) (pe_glob (v := V.int 4) (by rfl) (T.k_MOST_PARTS.choose_spec) ⟨_, rfl⟩) (nomark _)) (pw_or1 (pt_not (pt_val (pe_callB (r := rIsi K) call_isi (by rfl) T.n_isinstance (by decide +kernel) (pa_cons (pv 2) (pa_cons (pe_bltn (v := V.ty "str") (by rfl) T.n_str (by decide +kernel) rfl) pa_nil)))))))) (pss_one (ps_ret pe_bl)) pss_nil) (pss_cons (ps_if (pt_cmpR op_eqS (pv 2) (pe_glob (v := V.str "<any>") (by rfl) (T.k_ANY_CELL.choose_spec) ⟨_, rfl⟩) (nomark _)) (pss_one (ps_ret (pe_cmpR (r := rIn K true) op_notIn_seq (pe_glob (v := V.str "<any>") (by rfl) (T.k_ANY_CELL.choose_spec) ⟨_, rfl⟩) (pe_slice (r := rSlA K) sl_tupA (pv 0) po_none (po_some (pv 1))) rfl))) pss_nil) (pss_cons (ps_if (pt_cmpR (r := rIn K false) op_in_seq (pv 2) (pe_glob (v := V.ref (He.ga K "FREE_CELLS")) (by rfl) T.g_FREE_CELLS rfl) rfl) (pss_one (ps_ret pe_bl)) pss_nil) (pss_cons (ps_if (PW.pt (pw_and (pt_cmpR op_gt (pv 1) pe_int (nomark _)) (pw_and1 (pt_cmpR (r := rIn K true) op_notIn_seq (pe_ix (r := rIxT K) ix_tup (pv 0) (pe_op op_sub (pv 1) pe_int) (fun _ _ => rfl)) (pe_glob (v := V.ref (He.ga K "FREE_CELLS")) (by rfl) T.g_FREE_CELLS rfl) rfl)))) (pss_one (ps_ret pe_bl)) pss_nil) (pss_one (ps_ret (pe_and (pe_call (ok_is_line T) (hr.mono (by decide)) (by rfl) T.g_is_line T.F_is_line.kp (bn_is_line T) .nil pass0 (pa_cons (pv 2) pa_nil)) (pe_one (pe_cmpR op_le (pe_callB cr_lenS (by rfl) T.n_len (by decide +kernel) (pa_cons (pv 2) pa_nil)) (pe_glob (v := V.int 4) (by rfl) (T.k_MOST_SIGNS.choose_spec) ⟨_, rfl⟩) (nomark _)))))))))))), ?_⟩
    have S : Sx P0 F0 H0 F0 H0 := Sx.refl0 hE
    unfold m_is_allowed at hm
    obtain ⟨t1, e2, hm⟩ := bd_some hm
    refine rd_seq ?_
    refine rd_asg ?_
    refine rd_op ?_
    refine rd_v rfl ?_
    refine rd_v rfl ?_
    refine rd_ixT (S.t f_parts) e2 (fun u3 f4 => ?_)
    cases (show u3 = (V.str (t1)) from f4)
    refine rd_gn ?_
    refine rd_seq ?_
    refine rd_ifS ?_
    refine rd_or ?_
    refine rd_test ?_
    refine rd_op ?_
    refine rd_v rfl ?_
    refine rd_c ?_
    refine rd_I0 ?_
    refine rd_b ?_
    refine or_p (by intro _ Q' q; refine rd_not ?_; refine rd_tB ?_; refine rd_cb ?_; refine rd_cons ?_; refine rd_v rfl ?_; refine rd_cons ?_; refine rd_c ?_; refine rd_nil ?_; refine rd_isi (b := true) tx_str (by decide +kernel) ?_; refine rd_b ?_; exact q) ?_
    refine if_b hm (fun b5 hm => ?_) (fun b5 hm => ?_)
    · skip
      cases hm
      refine rd_ret ?_
      refine rd_c ?_
      exact hQ _ _ _ S rfl
    · skip
      refine rd_next ?_
      refine rd_seq ?_
      refine rd_ifS ?_
      refine rd_test ?_
      refine rd_op ?_
      refine rd_v rfl ?_
      refine rd_c ?_
      refine rd_S0 ?_
      refine rd_b ?_
      refine if_b hm (fun b6 hm => ?_) (fun b6 hm => ?_)
      · skip
        refine rd_ret ?_
        refine rd_op ?_
        refine rd_c ?_
        refine rd_sl ?_
        refine rd_v rfl ?_
        refine rd_np ?_
        refine rd_pt ?_
        refine rd_v rfl ?_
        refine rd_i ?_
        refine rd_slA S f_parts (fun v7 F8 H9 c10 f11 => ?_)
        have S12 := S.call0 c10
        have f_parts := (qT qS).mono c10.le f_parts
        cases hm
        refine rd_niS (S12.t f11).q ?_
        exact hQ _ _ _ S12 rfl
      · skip
        have f13 : (qT qS).r K F0 (.ref (He.ga K "FREE_CELLS")) (["<digits>", "<word>", "<any>"] : List Str) := T.q_FREE_CELLS _
        refine rd_next ?_
        refine rd_seq ?_
        refine rd_ifS ?_
        refine rd_test ?_
        refine rd_op ?_
        refine rd_v rfl ?_
        refine rd_c ?_
        refine rd_inS (S.t f13).q ?_
        refine rd_b ?_
        refine if_b hm (fun b14 hm => ?_) (fun b14 hm => ?_)
        · skip
          cases hm
          refine rd_ret ?_
          refine rd_c ?_
          exact hQ _ _ _ S rfl
        · skip
          obtain ⟨t20, e21, hm⟩ := bd_some hm
          refine rd_next ?_
          refine rd_seq ?_
          refine rd_ifS ?_
          refine rd_and ?_
          refine rd_test ?_
          refine rd_op ?_
          refine rd_v rfl ?_
          refine rd_c ?_
          refine rd_I0 ?_
          refine rd_b ?_
          refine and_j (fun c H' => c = t20 ∧ ∃ F', Sx P0 F0 H0 F' H') ?_ ?_ ?_
          · intro b22 Q23 q24
            have e21 := if_t e21 b22
            have S25 := Sx.refl0 S.sub
            obtain ⟨t26, e27, e21⟩ := bd_some e21
            refine rd_test ?_
            refine rd_op ?_
            refine rd_op ?_
            refine rd_v rfl ?_
            refine rd_op ?_
            refine rd_v rfl ?_
            refine rd_c ?_
            refine rd_I0 ?_
            refine rd_ixT (S25.t f_parts) e27 (fun u28 f29 => ?_)
            cases (show u28 = (V.str (t26)) from f29)
            have f30 : (qT qS).r K F0 (.ref (He.ga K "FREE_CELLS")) (["<digits>", "<word>", "<any>"] : List Str) := T.q_FREE_CELLS _
            cases e21
            refine rd_c ?_
            refine rd_niS (S25.t f30).q ?_
            refine rd_b ?_
            exact q24 _ _ ⟨rfl, F0, S25⟩
          · intro b22
            have e21 := if_f e21 b22
            cases e21
            have S31 := Sx.refl0 S.sub
            exact ⟨rfl, F0, S31⟩
          rintro b35 H33 ⟨rfl, F32, c34⟩
          have S36 := S.call0 c34
          have f_parts := (qT qS).mono c34.le f_parts
          refine if_b hm (fun b37 hm => ?_) (fun b37 hm => ?_)
          · skip
            cases hm
            refine rd_ret ?_
            refine rd_c ?_
            exact hQ _ _ _ S36 rfl
          · skip
            have f38 : qTh.r K F32 (V.str (t1)) (Th.d (PyData.str (t1))) := (show qTh.r K F32 _ (Th.d (PyData.str (t1))) from Dp.str _)
            obtain ⟨t39, e40, hm⟩ := bd_some hm
            refine rd_next ?_
            refine rd_ret ?_
            refine rd_andV ?_
            refine rd_call ?_
            refine rd_cons ?_
            refine rd_v rfl ?_
            refine rd_nil ?_
            refine ⟨F32, _, _, t39, rfl, S36.sub, f38, e40, fun v44 F41 H42 c43 f45 => ?_⟩
            have S46 := S36.call0 c43
            have f_parts := (qT qS).mono c43.le f_parts
            cases (show v44 = (V.bl (t39)) from f45)
            obtain ⟨t48, e49, hm⟩ := bd_some hm
            refine rd_b ?_
            refine andV_j (fun c H' => c = V.bl t48 ∧ ∃ F', Sx P0 F41 H42 F' H') ?_ ?_ ?_
            · intro b50 Q51 q52
              have e49 := if_t e49 b50
              have S53 := Sx.refl0 S46.sub
              obtain ⟨g54, e49⟩ := gd_some e49
              cases e49
              refine rd_op ?_
              refine rd_cb ?_
              refine rd_cons ?_
              refine rd_v rfl ?_
              refine rd_nil ?_
              refine rd_lenS g54 ?_
              refine rd_c ?_
              refine rd_I0 ?_
              exact q52 _ _ ⟨rfl, F41, S53⟩
            · intro b50
              have e49 := if_f e49 b50
              cases e49
              have S55 := Sx.refl0 S46.sub
              exact ⟨rfl, F41, S55⟩
            rintro b59 H57 ⟨rfl, F56, c58⟩
            have S60 := S46.call0 c58
            have f_parts := (qT qS).mono c58.le f_parts
            cases hm
            exact hQ _ _ _ S60 rfl
def sp_Form___init__ (K : PySem.W.Frag) : Sp := fun vs H Q _ => ∃ (F : Hp) (p_self : Addr) (dx : Addr) (v_parts : V) (a_parts : (List Str)) (r : (List Str)), vs = [.ref p_self, v_parts] ∧ Same F H ∧ Ow (fun a => a = p_self) H F H p_self (.ins (He.ga K "Form") dx []) ∧ (qT qS).r K F v_parts a_parts ∧ m_Form___init__ a_parts = some r ∧ ∀ (F' H' : Hp) (u0 : V), Sx (fun a => a = p_self) F H F' H' → Ow (fun a => a = p_self) H F' H' p_self (.ins (He.ga K "Form") dx [("pieces", u0)]) → (qT qS).r K F' u0 r → Q .non H'
theorem sc_Form___init__ : FnScope ["self", "parts", "at"] ["self", "parts"] (defScope s_Form___init__) := ⟨rfl, rfl, rfl, by decide +kernel, rfl, by decide +kernel, by decide +kernel⟩
theorem ok_Form___init__ (T : Tx P K mg) : FnR P w K mg base CX0 3 (He.fAd K ("Form", some "__init__")) (starSp 1 (sp_Form___init__ K)) := by
  obtain ⟨oc, od, dV, kV, doc, pm, an, cdv, ct, osl, efd, lk, hcd, hD, _⟩ := T.F_Form___init__.ex
  rw [efd] at lk
  obtain ⟨_, rfl⟩ | ⟨nD, _⟩ := hD
  rotate_left
  · exact absurd rfl nD
  refine StX.fn_star (ps := ["self"]) (pv := "parts") lk hcd sc_Form___init__ StX.cxUp_none (fun us rest hl => StX.bind_star1 (p1 := "self") (pv := "parts") (B := fun us => bindArgs (PySem.W.fnOf _ _ _ _ _ .none kV doc pm an cdv ct) ⟨us, []⟩) (fun a => by rfl) (fun a r rs => by rfl) us rest hl) (fun A outer s H0 vs Q E hr h => ?_)
  · obtain ⟨F0, p_self, dx, v_parts, a_parts, r, rfl, hE, w_self, f_parts, hm, hQ⟩ := h
    refine ⟨_, PSs.nox ((pss_cons (ps_if (pt_cmpR op_eqI (pe_callB (r := rLenQ K) cr_lenQ (by rfl) T.n_len (by decide +kernel) (pa_cons (pv 1) pa_nil)) pe_int (nomark _)) (pss_one ps_dead) pss_nil) (pss_cons (ps_for PassesOwn.never rfl (pi_range1 (by rfl) T.n_range (pa_cons (pe_callB (r := rLenQ K) cr_lenQ (by rfl) T.n_len (by decide +kernel) (pa_cons (pv 1) pa_nil)) pa_nil)) (pg_name (i := 2) sc_Form___init__.nd rfl (by first | exact Or.inl rfl | exact Or.inr rfl)) (pss_one (ps_if (pt_not (pt_val (pe_call (ok_is_allowed T) (hr.mono (by decide)) (by rfl) T.g_is_allowed T.F_is_allowed.kp (bn_is_allowed T) .nil pass0 (pa_cons (pv 1) (pa_cons (pv 2) pa_nil))))) (pss_one ps_dead) pss_nil))) (pss_one (ps_fld (pv 0) (pv 1) rfl))))), ?_⟩
    have S : Sx (fun a => a = p_self) F0 H0 F0 H0 := Sx.refl hE (live1 w_self)
    unfold m_Form___init__ at hm
    refine rd_seq ?_
    refine rd_ifS ?_
    refine rd_test ?_
    refine rd_op ?_
    refine rd_cb ?_
    refine rd_cons ?_
    refine rd_v rfl ?_
    refine rd_nil ?_
    refine rd_lenQ (S.t f_parts).q ?_
    refine rd_c ?_
    refine rd_I0 ?_
    refine rd_b ?_
    refine if_b hm (fun b1 hm => ?_) (fun b1 hm => ?_)
    · skip
      cases hm
    · skip
      obtain ⟨g2, hm⟩ := gd_some hm
      refine rd_next ?_
      refine rd_seq ?_
      refine rd_for ?_
      refine rd_iR1 ?_
      refine rd_cons ?_
      refine rd_cb ?_
      refine rd_cons ?_
      refine rd_v rfl ?_
      refine rd_nil ?_
      refine rd_lenQ (S.t f_parts).q ?_
      refine rd_nil ?_
      refine rd_r1 g2 ?_
      obtain ⟨t3, e4, hm⟩ := bd_some hm
      refine rd_forS feedsRg (typedR (K := K) (F := F0)) e4 (fun (s5 : Unit) σ H => ∃ (F : Hp) (o2 : Option V), σ = [some (V.ref p_self), some v_parts, o2] ∧ Sx P0 F0 H0 F H) ?_ ?_ ?_ ?_
      · intro _ _ _ _; trivial
      · skip
        have S7 := Sx.refl0 S.sub
        exact ⟨F0, _, rfl, S7⟩
      · skip
        rintro x8 v9 s10 c14 σ11 H12 f13 ⟨F15, o17, rfl, S16⟩ hm20
        have f_parts := (qT qS).mono S16.le f_parts
        have w_self := w_self.call0 S16
        unfold m_Form___init___b1 at hm20
        cases (show v9 = (V.int (x8)) from f13)
        obtain ⟨t21, e22, hm20⟩ := bd_some hm20
        refine rd_gn ?_
        refine rd_ifS ?_
        refine rd_not ?_
        refine rd_tB ?_
        refine rd_call ?_
        refine rd_cons ?_
        refine rd_v rfl ?_
        refine rd_cons ?_
        refine rd_v rfl ?_
        refine rd_nil ?_
        refine ⟨F15, _, _, _, t21, rfl, S16.sub, f_parts, e22, fun v26 F23 H24 c25 f27 => ?_⟩
        have S28 := S16.call0 c25
        have f_parts := (qT qS).mono c25.le f_parts
        have w_self := w_self.call0 c25
        cases (show v26 = (V.bl (t21)) from f27)
        refine rd_b ?_
        refine if_b hm20 (fun b29 hm20 => ?_) (fun b29 hm20 => ?_)
        · skip
          cases hm20
        · skip
          cases hm20
          refine rd_next ?_
          exact ⟨F23, _, rfl, S28⟩
      · skip
        rintro σ30 H31 ⟨F32, o34, rfl, S33⟩
        have S35 := S.call0 S33
        have f_parts := (qT qS).mono S33.le f_parts
        have w_self := w_self.call0 S33
        refine rd_sfld ?_
        refine rd_v rfl ?_
        refine rd_v rfl ?_
        refine fset (fs' := [("pieces", v_parts)]) S35 w_self T.c_Form T.na_Form_pieces (by rfl) (by rfl) (fun H36 c37 w38 => ?_)
        have f39 : (qT qS).r K F32 v_parts a_parts := f_parts
        have S40 := S35.call1 c37 w_self
        have f_parts := (qT qS).mono c37.le f_parts
        have f39 := (qT qS).mono c37.le f39
        cases hm
        exact hQ _ _ v_parts S40 w38 f39
theorem new_Form {P0' : Addr → Prop} {F0 H0 F H : Hp} {Q : VK} {E : XK} {vs : List V} {xs : List Str} {r : (List Str)} (S : Sx P0' F0 H0 F H) (row : Row qS K F vs xs) (hl : Nat.ble vs.length 900 = true) (hm : m_Form___init__ xs = some r) (k : ∀ v F' H', Sx P0 F H F' H' → qForm.r K F' v r → Q v H') : mkK (He.ga K "Form") (starSp 1 (sp_Form___init__ K)) E Q vs H := by
  refine mk_star S row hl fun x dx v F1 H1 hx c1 w rv => ?_
  refine ⟨F1, x, dx, v, xs, r, rfl, c1.sub, w, rv, hm, fun F' H' u0 c w' k0 => ⟨rfl, ?_⟩⟩
  obtain ⟨F2, S2, le, h3⟩ := fzI c1 hx c w'
  exact k _ F2 H' S2 ⟨x, dx, u0, rfl, h3, (qT qS).mono le k0⟩
def sp_law_pool (K : PySem.W.Frag) : Sp := fun vs H Q _ => ∃ (F : Hp) (v__law_script : V) (a__law_script : List Int) (a__law_k : Int) (r : (Int × Int)), vs = [v__law_script, (V.int (a__law_k))] ∧ Same F H ∧ qC.r K F v__law_script a__law_script ∧ m_law_pool a__law_script a__law_k = some r ∧ ∀ p F' H', H p = none → Sx P0 F H F' H' → Ow (fun a => a = p) H F' H' p (.lst [.int r.1, .int r.2]) → Q (.ref p) H'
theorem sc_law_pool : FnScope ["_law_script", "_law_k", "_law_cell", "_law_seed"] ["_law_script", "_law_k"] (defScope s_law_pool) := ⟨rfl, rfl, rfl, by decide +kernel, rfl, by decide +kernel, by decide +kernel⟩
theorem bn_law_pool (T : Tx P K mg) : Binds K (fdOf K ("_law_pool", none)) ["_law_script", "_law_k"] [] := FunD.bindsN T.F_law_pool fun _ _ _ _ _ _ us hl => match us, hl with | [_, _], _ => rfl
theorem ok_law_pool (T : Tx P K mg) : FnOk P w K mg base CX0 1 (He.ga K "_law_pool") (fdOf K ("_law_pool", none)) ["_law_script", "_law_k"] (sp_law_pool K) := by
  refine FunD.ok T.F_law_pool sc_law_pool (fun vs H0 Q E h => ?_) (fun cdv A outer s H0 vs Q E hr h => ?_)
  · obtain ⟨_, _, _, _, _, rfl, _⟩ := h
    rfl
  · obtain ⟨F0, v__law_script, a__law_script, a__law_k, r, rfl, hE, f__law_script, hm, hQ⟩ := h
    refine ⟨_, PSs.nox ((pss_cons (ps_set (i := 2) sc_law_pool.nd rfl (by first | exact Or.inl rfl | exact Or.inr rfl) pe_int) (C8.pss_cut (ps_if (pt_cmpR (r := rNeD K) (op_neD hr.units) (pv 0) (pe_lst pa_nil) (nomark _)) (pss_one (ps_set (i := 2) sc_law_pool.nd rfl (by first | exact Or.inl rfl | exact Or.inr rfl) (pe_ix (r := rIxL K) ix_list (pv 0) (pe_op op_mod (pe_callTy cr_int (by rfl) T.n_int (by decide +kernel) (pa_cons (pv 1) pa_nil)) (pe_callB (r := rLenQ K) cr_lenQ (by rfl) T.n_len (by decide +kernel) (pa_cons (pv 0) pa_nil))) (fun _ _ => rfl)))) pss_nil) (pss_cons (ps_set (i := 3) sc_law_pool.nd rfl (by first | exact Or.inl rfl | exact Or.inr rfl) (pe_op op_mod (pe_op op_mul (pe_callTy cr_int (by rfl) T.n_int (by decide +kernel) (pa_cons (pe_op op_add (pe_op op_add (pe_op op_mod (pe_callTy cr_int (by rfl) T.n_int (by decide +kernel) (pa_cons (pv 2) pa_nil)) pe_int) (pe_op op_mul pe_int (pv 1))) pe_int) pa_nil)) pe_int) pe_int)) (pss_one (ps_ret (pe_lst (pa_cons (pe_op op_mul (pv 2) (pe_callTy cr_int (by rfl) T.n_int (by decide +kernel) (pa_cons (pe_cmpR op_ge (pv 2) (pe_op op_pow pe_int pe_int) (nomark _)) pa_nil))) (pa_cons (pv 3) pa_nil))))))))), ?_⟩
    have S : Sx P0 F0 H0 F0 H0 := Sx.refl0 hE
    unfold m_law_pool at hm
    obtain ⟨t1, e2, hm⟩ := bd_some hm
    refine rd_seq ?_
    refine rd_asg ?_
    refine rd_c ?_
    refine rd_gn ?_
    refine rd_cut (fun σ' H' => ∃ (F : Hp) (o3 : Option V), σ' = [some v__law_script, some (V.int (a__law_k)), some (V.int (t1)), o3] ∧ Sx P0 F0 H0 F H') ?_ ?_
    · skip
      have S3 := Sx.refl0 S.sub
      refine rd_ifS ?_
      refine rd_test ?_
      refine rd_op ?_
      refine rd_v rfl ?_
      refine rd_lst ?_
      refine rd_nil ?_
      refine rd_lK rfl ?_
      refine alL (K := K) (A := qI) (xs := ([] : List Int)) S3 .nil (fun v4 F5 H6 c7 f8 => ?_)
      have S9 := S3.call0 c7
      have f__law_script := qC.mono c7.le f__law_script
      obtain ⟨g10, e2⟩ := gd_some e2
      obtain ⟨g11, e2⟩ := gd_some e2
      refine rd_neD (D := (dL dI)) (S9.cd f__law_script) (S9.d (dL dI) f8) g10 g11 ?_
      refine rd_b ?_
      refine if_b e2 (fun b12 e2 => ?_) (fun b12 e2 => ?_)
      · skip
        obtain ⟨g13, e2⟩ := gd_some e2
        obtain ⟨t14, e15, e2⟩ := bd_some e2
        refine rd_asg ?_
        refine rd_op ?_
        refine rd_v rfl ?_
        refine rd_op ?_
        refine rd_cb ?_
        refine rd_cons ?_
        refine rd_v rfl ?_
        refine rd_nil ?_
        refine rd_intI ?_
        refine rd_cb ?_
        refine rd_cons ?_
        refine rd_v rfl ?_
        refine rd_nil ?_
        refine rd_lenQ (S9.c f__law_script).q ?_
        refine rd_I (modOk_of g13) ?_
        refine rd_ixL (S9.c f__law_script) e15 (fun u16 f17 => ?_)
        cases (show u16 = (V.int (t14)) from f17)
        cases e2
        refine rd_gn ?_
        exact ⟨F5, _, rfl, S9⟩
      · skip
        cases e2
        refine rd_next ?_
        exact ⟨F5, _, rfl, S9⟩
    · skip
      rintro σ19 H18 ⟨F20, o22, rfl, S21⟩
      have S23 := S.call0 S21
      have f__law_script := qC.mono S21.le f__law_script
      obtain ⟨g24, hm⟩ := gd_some hm
      obtain ⟨g25, hm⟩ := gd_some hm
      obtain ⟨g26, hm⟩ := gd_some hm
      obtain ⟨g27, hm⟩ := gd_some hm
      obtain ⟨g28, hm⟩ := gd_some hm
      obtain ⟨g29, hm⟩ := gd_some hm
      refine rd_seq ?_
      refine rd_asg ?_
      refine rd_op ?_
      refine rd_op ?_
      refine rd_cb ?_
      refine rd_cons ?_
      refine rd_op ?_
      refine rd_op ?_
      refine rd_op ?_
      refine rd_cb ?_
      refine rd_cons ?_
      refine rd_v rfl ?_
      refine rd_nil ?_
      refine rd_intI ?_
      refine rd_c ?_
      refine rd_I (modOk_of g24) ?_
      refine rd_op ?_
      refine rd_c ?_
      refine rd_v rfl ?_
      refine rd_I (mulOk_of g25) ?_
      refine rd_I0 ?_
      refine rd_c ?_
      refine rd_I0 ?_
      refine rd_nil ?_
      refine rd_intI ?_
      refine rd_c ?_
      refine rd_I (mulOk_of g26) ?_
      refine rd_c ?_
      refine rd_I (modOk_of g27) ?_
      refine rd_gn ?_
      refine rd_ret ?_
      refine rd_lst ?_
      refine rd_cons ?_
      refine rd_op ?_
      refine rd_v rfl ?_
      refine rd_cb ?_
      refine rd_cons ?_
      refine rd_op ?_
      refine rd_v rfl ?_
      refine rd_op ?_
      refine rd_c ?_
      refine rd_c ?_
      refine rd_I (powOk_of g28) ?_
      refine rd_I0 ?_
      refine rd_nil ?_
      refine rd_intB ?_
      refine rd_I (mulOk_of g29) ?_
      refine rd_cons ?_
      refine rd_v rfl ?_
      refine rd_nil ?_
      refine rd_lK rfl ?_
      refine al S23 (fun p30 H31 np32 c33 w34 => ?_)
      have z35 := S23.free0 np32
      have S36 := S23.call0 c33
      have f__law_script := qC.mono c33.le f__law_script
      cases hm
      exact hQ _ _ _ z35 S36 ⟨w34.fr, w34.at_, .inr rfl⟩
def sp_law_take (K : PySem.W.Frag) : Sp := fun vs H Q _ => ∃ (F : Hp) (p__law_pool_here : Addr) (a__law_pool_here : Int × Int) (a__law_many : Int) (r : (Int × (Int × Int))), vs = [.ref p__law_pool_here, (V.int (a__law_many))] ∧ Same F H ∧ Ow (fun a => a = p__law_pool_here) H F H p__law_pool_here (.lst [.int a__law_pool_here.1, .int a__law_pool_here.2]) ∧ m_law_take a__law_pool_here a__law_many = some r ∧ ∀ v F' H', Sx (fun a => a = p__law_pool_here) F H F' H' → Ow (fun a => a = p__law_pool_here) H F' H' p__law_pool_here (.lst [.int r.2.1, .int r.2.2]) → qI.r K F' v r.1 → Q v H'
theorem sc_law_take : FnScope ["_law_pool_here", "_law_many", "_law_digit"] ["_law_pool_here", "_law_many"] (defScope s_law_take) := ⟨rfl, rfl, rfl, by decide +kernel, rfl, by decide +kernel, by decide +kernel⟩
theorem bn_law_take (T : Tx P K mg) : Binds K (fdOf K ("_law_take", none)) ["_law_pool_here", "_law_many"] [] := FunD.bindsN T.F_law_take fun _ _ _ _ _ _ us hl => match us, hl with | [_, _], _ => rfl
theorem ok_law_take (T : Tx P K mg) : FnOk P w K mg base CX0 1 (He.ga K "_law_take") (fdOf K ("_law_take", none)) ["_law_pool_here", "_law_many"] (sp_law_take K) := by
  refine FunD.ok T.F_law_take sc_law_take (fun vs H0 Q E h => ?_) (fun cdv A outer s H0 vs Q E hr h => ?_)
  · obtain ⟨_, _, _, _, _, rfl, _⟩ := h
    rfl
  · obtain ⟨F0, p__law_pool_here, a__law_pool_here, a__law_many, r, rfl, hE, w__law_pool_here, hm, hQ⟩ := h
    refine ⟨_, PSs.nox ((pss_cons (ps_if (pt_cmpR op_gt (pe_ix (r := rIxL K) ix_list (pv 0) pe_int (fun _ _ => rfl)) pe_int (nomark _)) (pss_cons (ps_set (i := 2) sc_law_take.nd rfl (by first | exact Or.inl rfl | exact Or.inr rfl) (pe_op op_mod (pe_callTy cr_int (by rfl) T.n_int (by decide +kernel) (pa_cons (pe_ix (r := rIxL K) ix_list (pv 0) pe_int (fun _ _ => rfl)) pa_nil)) (pv 1))) (pss_cons (ps_asg (pe_op op_fdiv (pe_ix (r := rIxL K) ix_list (pv 0) pe_int (fun _ _ => rfl)) (pv 1)) (pg_sub (pv 0) pe_int set_list)) (pss_one (ps_ret (pv 2))))) pss_nil) (pss_cons (ps_asg (pe_op op_mod (pe_callTy cr_int (by rfl) T.n_int (by decide +kernel) (pa_cons (pe_op op_add (pe_op op_mul (pe_ix (r := rIxL K) ix_list (pv 0) pe_int (fun _ _ => rfl)) pe_int) pe_int) pa_nil)) pe_int) (pg_sub (pv 0) pe_int set_list)) (pss_one (ps_ret (pe_op op_mod (pe_callTy cr_int (by rfl) T.n_int (by decide +kernel) (pa_cons (pe_op op_fdiv (pe_op op_mod (pe_callTy cr_int (by rfl) T.n_int (by decide +kernel) (pa_cons (pe_op op_mul (pe_ix (r := rIxL K) ix_list (pv 0) pe_int (fun _ _ => rfl)) (pe_ix (r := rIxL K) ix_list (pv 0) pe_int (fun _ _ => rfl))) pa_nil)) pe_int) pe_int) pa_nil)) (pv 1))))))), ?_⟩
    have S : Sx (fun a => a = p__law_pool_here) F0 H0 F0 H0 := Sx.refl hE (live1 w__law_pool_here)
    unfold m_law_take at hm
    refine rd_seq ?_
    refine rd_ifS ?_
    refine rd_test ?_
    refine rd_op ?_
    refine rd_op ?_
    refine rd_v rfl ?_
    refine rd_c ?_
    refine pool0 w__law_pool_here ?_
    refine rd_c ?_
    refine rd_I0 ?_
    refine rd_b ?_
    refine if_b hm (fun b1 hm => ?_) (fun b1 hm => ?_)
    · skip
      obtain ⟨g2, hm⟩ := gd_some hm
      obtain ⟨g3, hm⟩ := gd_some hm
      refine rd_seq ?_
      refine rd_asg ?_
      refine rd_op ?_
      refine rd_cb ?_
      refine rd_cons ?_
      refine rd_op ?_
      refine rd_v rfl ?_
      refine rd_c ?_
      refine pool0 w__law_pool_here ?_
      refine rd_nil ?_
      refine rd_intI ?_
      refine rd_v rfl ?_
      refine rd_I (modOk_of g2) ?_
      refine rd_gn ?_
      refine rd_seq ?_
      refine rd_asg ?_
      refine rd_op ?_
      refine rd_op ?_
      refine rd_v rfl ?_
      refine rd_c ?_
      refine pool0 w__law_pool_here ?_
      refine rd_v rfl ?_
      refine rd_I (divOk_of g3) ?_
      refine rd_gsub ?_
      refine rd_v rfl ?_
      refine rd_c ?_
      refine pset0 S w__law_pool_here (fun H4 c5 w6 => ?_)
      have S7 := S.call1 c5 w__law_pool_here
      cases hm
      refine rd_ret ?_
      refine rd_v rfl ?_
      exact hQ _ _ _ S7 w6 rfl
    · skip
      obtain ⟨g8, hm⟩ := gd_some hm
      obtain ⟨g9, hm⟩ := gd_some hm
      refine rd_next ?_
      refine rd_seq ?_
      refine rd_asg ?_
      refine rd_op ?_
      refine rd_cb ?_
      refine rd_cons ?_
      refine rd_op ?_
      refine rd_op ?_
      refine rd_op ?_
      refine rd_v rfl ?_
      refine rd_c ?_
      refine pool1 w__law_pool_here ?_
      refine rd_c ?_
      refine rd_I (mulOk_of g8) ?_
      refine rd_c ?_
      refine rd_I0 ?_
      refine rd_nil ?_
      refine rd_intI ?_
      refine rd_c ?_
      refine rd_I (modOk_of g9) ?_
      refine rd_gsub ?_
      refine rd_v rfl ?_
      refine rd_c ?_
      refine pset1 S w__law_pool_here (fun H10 c11 w12 => ?_)
      have S13 := S.call1 c11 w__law_pool_here
      obtain ⟨g14, hm⟩ := gd_some hm
      obtain ⟨g15, hm⟩ := gd_some hm
      obtain ⟨g16, hm⟩ := gd_some hm
      obtain ⟨g17, hm⟩ := gd_some hm
      cases hm
      refine rd_ret ?_
      refine rd_op ?_
      refine rd_cb ?_
      refine rd_cons ?_
      refine rd_op ?_
      refine rd_op ?_
      refine rd_cb ?_
      refine rd_cons ?_
      refine rd_op ?_
      refine rd_op ?_
      refine rd_v rfl ?_
      refine rd_c ?_
      refine pool1 w12 ?_
      refine rd_op ?_
      refine rd_v rfl ?_
      refine rd_c ?_
      refine pool1 w12 ?_
      refine rd_I (mulOk_of g14) ?_
      refine rd_nil ?_
      refine rd_intI ?_
      refine rd_c ?_
      refine rd_I (modOk_of g15) ?_
      refine rd_c ?_
      refine rd_I (divOk_of g16) ?_
      refine rd_nil ?_
      refine rd_intI ?_
      refine rd_v rfl ?_
      refine rd_I (modOk_of g17) ?_
      exact hQ _ _ _ S13 w12 rfl
def sp_law_shape (K : PySem.W.Frag) : Sp := fun vs H Q _ => ∃ (F : Hp) (p__law_pool_here : Addr) (a__law_pool_here : Int × Int) (a__law_many : Int) (r : (Shp × (Int × Int))), vs = [.ref p__law_pool_here, (V.int (a__law_many))] ∧ Same F H ∧ Ow (fun a => a = p__law_pool_here) H F H p__law_pool_here (.lst [.int a__law_pool_here.1, .int a__law_pool_here.2]) ∧ m_law_shape a__law_pool_here a__law_many = some r ∧ ∀ v F' H', Sx (fun a => a = p__law_pool_here) F H F' H' → Ow (fun a => a = p__law_pool_here) H F' H' p__law_pool_here (.lst [.int r.2.1, .int r.2.2]) → qSh.r K F' v r.1 → Q v H'
theorem sc_law_shape : FnScope ["_law_pool_here", "_law_many", "_law_rows", "_law_at", "_law_k"] ["_law_pool_here", "_law_many"] (defScope s_law_shape) := ⟨rfl, rfl, rfl, by decide +kernel, rfl, by decide +kernel, by decide +kernel⟩
theorem bn_law_shape (T : Tx P K mg) : Binds K (fdOf K ("_law_shape", none)) ["_law_pool_here", "_law_many"] [] := FunD.bindsN T.F_law_shape fun _ _ _ _ _ _ us hl => match us, hl with | [_, _], _ => rfl
theorem ok_law_shape (T : Tx P K mg) : FnOk P w K mg base CX0 2 (He.ga K "_law_shape") (fdOf K ("_law_shape", none)) ["_law_pool_here", "_law_many"] (sp_law_shape K) := by
  refine FunD.ok T.F_law_shape sc_law_shape (fun vs H0 Q E h => ?_) (fun cdv A outer s H0 vs Q E hr h => ?_)
  · obtain ⟨_, _, _, _, _, rfl, _⟩ := h
    rfl
  · obtain ⟨F0, p__law_pool_here, a__law_pool_here, a__law_many, r, rfl, hE, w__law_pool_here, hm, hQ⟩ := h
    refine ⟨_, PSs.nox ((pss_cons (ps_setLc (i := 2) (own := [("_law_k", 4)]) (tt := tYes) rfl sc_law_shape.nd rfl rfl (sw_true rfl rfl rfl (by decide +kernel)) (pi_range1 (by rfl) T.n_range (pa_cons (pv 1) pa_nil)) (blkOk_by (N := ["_law_pool_here", "_law_many", "_law_rows", "_law_at", "_law_k"]) (sc := defScope s_law_shape) (by decide +kernel)) (fun _ _ _ _ _ => pg_name (i := 4) sc_law_shape.nd rfl (Or.inl rfl)) (fun _ _ _ _ _ => pts_nil) (fun _ _ _ _ _ => (pe_lst (pa_cons (pv 4) pa_nil)))) (pss_cons (ps_while PassesOwn.never (pt_cmpR op_gt (pe_callB (r := rLenQ K) cr_lenQ (by rfl) T.n_len (by decide +kernel) (pa_cons (pv 2) pa_nil)) pe_int (nomark _)) (pss_cons (ps_set (i := 3) sc_law_shape.nd rfl (by first | exact Or.inl rfl | exact Or.inr rfl) (pe_call (ok_law_take T) (hr.mono (by decide)) (by rfl) T.g_law_take T.F_law_take.kp (bn_law_take T) .nil pass0 (pa_cons (pv 0) (pa_cons (pe_op op_sub (pe_callB (r := rLenQ K) cr_lenQ (by rfl) T.n_len (by decide +kernel) (pa_cons (pv 2) pa_nil)) pe_int) pa_nil)))) (pss_one (ps_set (i := 2) sc_law_shape.nd rfl (by first | exact Or.inl rfl | exact Or.inr rfl) (pe_op op_cat (pe_op op_cat (pe_slice (r := rSlL K) sl_list (pv 2) po_none (po_some (pv 3))) (pe_lst (pa_cons (pe_lst (pa_cons (pe_ix (r := rIxL K) ix_list (pe_lst (pa_cons pe_str (pa_cons pe_str pa_nil))) (pe_call (ok_law_take T) (hr.mono (by decide)) (by rfl) T.g_law_take T.F_law_take.kp (bn_law_take T) .nil pass0 (pa_cons (pv 0) (pa_cons pe_int pa_nil))) (fun _ _ => rfl)) (pa_cons (pe_ix (r := rIxL K) ix_list (pv 2) (pv 3) (fun _ _ => rfl)) (pa_cons (pe_ix (r := rIxL K) ix_list (pv 2) (pe_op op_add (pv 3) pe_int) (fun _ _ => rfl)) pa_nil)))) pa_nil))) (pe_slice (r := rSlL K) sl_list (pv 2) (po_some (pe_op op_add (pv 3) pe_int)) po_none)))))) (pss_one (ps_ret (pe_ix (r := rIxL K) ix_list (pv 2) pe_int (fun _ _ => rfl))))))), ?_⟩
    have S : Sx (fun a => a = p__law_pool_here) F0 H0 F0 H0 := Sx.refl hE (live1 w__law_pool_here)
    unfold m_law_shape at hm
    obtain ⟨g1, hm⟩ := gd_some hm
    refine rd_seq ?_
    refine rd_asg ?_
    refine rd_lc ?_
    refine rd_iR1 ?_
    refine rd_cons ?_
    refine rd_v rfl ?_
    refine rd_nil ?_
    refine rd_r1 g1 ?_
    obtain ⟨g2, hm⟩ := gd_some hm
    obtain ⟨t3, e4, hm⟩ := bd_some hm
    refine rd_comp (B := qSh) feedsRg (typedR (K := K) (F := F0)) e4 g2 (Pc := P0) (fun _ z => z.elim) S.sub (fun (s5 : Unit) F H => True) ?_ ?_ ?_ ?_ ?_ ?_
    · intro _ _ _ _ _; trivial
    · trivial
    · intros; trivial
    · intros; trivial
    · skip
      intro x7 v8 s9 o10 F11 H12 d13 acc14 f15 S16 w17 w18 n19 hm20 E21 N22 hN23 hE24
      have w__law_pool_here := w__law_pool_here.call0 S16
      have S25 := Sx.refl0 S16.sub
      unfold m_law_shape_b1 at hm20
      cases (show v8 = (V.int (x7)) from f15)
      refine rd_gn ?_
      refine rd_wp rfl ?_
      refine rd_yes ?_
      refine if_tt ?_
      refine rd_lst ?_
      refine rd_cons ?_
      refine rd_v rfl ?_
      refine rd_nil ?_
      refine rd_lK rfl ?_
      refine alL (K := K) (A := qI) (xs := ([x7] : List Int)) S25 (.cons rfl .nil) (fun v26 F27 H28 c29 f30 => ?_)
      have S31 := S25.call0 c29
      have w__law_pool_here := w__law_pool_here.call0 c29
      have f32 : qSh.r K F27 v26 (Shp.lf x7) := sh_of1 f30
      cases hm20
      exact hN23 _ _ _ _ rfl S31 f32 trivial
    intro p33 us34 F35 H36 n37 c38 w39 w40 r41
    have z42 := S.free0 n37
    have ne43 : p__law_pool_here ≠ p33 := w__law_pool_here.ne n37
    have S44 := S.call0 c38
    have w__law_pool_here := w__law_pool_here.call0 c38
    have w45 : Ow (fun a => a = p__law_pool_here) H0 _ _ _ _ := ⟨w40.fr, w40.at_, .inl z42⟩
    obtain ⟨F46, S47, le48, f49, _, eq50⟩ := fz S44 w45 z42 r41
    have w__law_pool_here := w__law_pool_here.fzO ne43 eq50
    obtain ⟨t51, e52, hm⟩ := bd_some hm
    refine rd_gn ?_
    refine rd_seq ?_
    refine rd_whileS e52 (fun (s53 : ((Int × Int) × (List Shp))) σ H => ∃ (F : Hp) (x1 : V) (o3 : Option V) (o4 : Option V), σ = [some (V.ref p__law_pool_here), some (V.int (a__law_many)), some x1, o3, o4] ∧ Sx (fun a => a = p__law_pool_here) F46 H36 F H ∧ (qL qSh).r K F x1 s53.2 ∧ Ow (fun a => a = p__law_pool_here) H36 F H p__law_pool_here (.lst [V.int s53.1.1, V.int s53.1.2])) ?_ ?_ ?_ ?_
    · skip
      have S54 : Sx (fun a => a = p__law_pool_here) _ _ _ _ := Sx.refl S47.sub (fun a z => by rw [z, w__law_pool_here.at_]; exact (fun h => nomatch h))
      have w55 : Ow (fun a => a = p__law_pool_here) H36 _ _ _ _ := ⟨w__law_pool_here.fr, w__law_pool_here.at_, .inr (rfl)⟩
      exact ⟨F46, _, _, _, rfl, S54, f49, w55⟩
    · skip
      rintro s56 b57 σ58 H59 T60 E61 ⟨F65, x67, o68, o69, rfl, S66, f70, w71⟩ hm64 hT62 hE63
      unfold m_law_shape_b2 at hm64
      refine rd_test ?_
      refine rd_op ?_
      refine rd_cb ?_
      refine rd_cons ?_
      refine rd_v rfl ?_
      refine rd_nil ?_
      refine rd_lenQ (S66.l f70).r.q ?_
      refine rd_c ?_
      refine rd_I0 ?_
      refine rd_b ?_
      refine if_j (fun b72 => ?_) (fun b72 => ?_)
      · cases hm64; exact hT62 _ _ b72 ⟨F65, _, _, _, rfl, S66, f70, w71⟩
      · cases hm64; exact hE63 _ _ b72 ⟨F65, _, _, _, rfl, S66, f70, w71⟩
    · skip
      rintro s73 s74 σ75 H76 ⟨F78, x80, o81, o82, rfl, S79, f83, w84⟩ hm77
      unfold m_law_shape_b3 at hm77
      obtain ⟨t85, e86, hm77⟩ := bd_some hm77
      refine rd_seq ?_
      refine rd_asg ?_
      refine rd_call ?_
      refine rd_cons ?_
      refine rd_v rfl ?_
      refine rd_cons ?_
      refine rd_op ?_
      refine rd_cb ?_
      refine rd_cons ?_
      refine rd_v rfl ?_
      refine rd_nil ?_
      refine rd_lenQ (S79.l f83).r.q ?_
      refine rd_c ?_
      refine rd_I0 ?_
      refine rd_nil ?_
      refine ⟨F78, _, _, _, t85, rfl, S79.sub, w84.arg, e86, fun v90 F87 H88 c89 w92 f91 => ?_⟩
      have S93 := S79.call1 c89 w84
      have f83 := (qL qSh).mono c89.le f83
      have w94 := w84.back w92
      cases (show v90 = (V.int (t85.1)) from f91)
      refine rd_gn ?_
      refine rd_asg ?_
      refine rd_op ?_
      refine rd_op ?_
      refine rd_sl ?_
      refine rd_v rfl ?_
      refine rd_np ?_
      refine rd_pt ?_
      refine rd_v rfl ?_
      refine rd_i ?_
      refine rd_slL (S93.l f83).r ?_
      refine alL' S93 (fun v95 F96 H97 c98 f99 => ?_)
      have S100 := S93.call0 c98
      have f83 := (qL qSh).mono c98.le f83
      have w94 := w94.call0 c98
      refine rd_lst ?_
      refine rd_cons ?_
      refine rd_lst ?_
      refine rd_cons ?_
      refine rd_op ?_
      refine rd_lst ?_
      refine rd_cons ?_
      refine rd_c ?_
      refine rd_cons ?_
      refine rd_c ?_
      refine rd_nil ?_
      refine rd_lK rfl ?_
      refine alL (K := K) (A := qS) (xs := [("&" : Str), ("|" : Str)]) S100 (.cons rfl (.cons rfl .nil)) (fun v101 F102 H103 c104 f105 => ?_)
      have S106 := S100.call0 c104
      have f83 := (qL qSh).mono c104.le f83
      have f99 := (qL qSh).mono c104.le f99
      have w94 := w94.call0 c104
      obtain ⟨t107, e108, hm77⟩ := bd_some hm77
      refine rd_call ?_
      refine rd_cons ?_
      refine rd_v rfl ?_
      refine rd_cons ?_
      refine rd_c ?_
      refine rd_nil ?_
      refine ⟨F102, _, _, _, t107, rfl, S106.sub, w94.arg, e108, fun v112 F109 H110 c111 w114 f113 => ?_⟩
      have S115 := S106.call1 c111 w94
      have f83 := (qL qSh).mono c111.le f83
      have f99 := (qL qSh).mono c111.le f99
      have f105 := (qL qS).mono c111.le f105
      have w116 := w94.back w114
      cases (show v112 = (V.int (t107.1)) from f113)
      obtain ⟨t117, e118, hm77⟩ := bd_some hm77
      refine rd_ixL (S115.l f105).r e118 (fun u119 f120 => ?_)
      cases (show u119 = (V.str (t117)) from f120)
      obtain ⟨t121, e122, hm77⟩ := bd_some hm77
      refine rd_cons ?_
      refine rd_op ?_
      refine rd_v rfl ?_
      refine rd_v rfl ?_
      refine rd_ixL (S115.l f83).r e122 (fun u123 f124 => ?_)
      obtain ⟨t125, e126, hm77⟩ := bd_some hm77
      refine rd_cons ?_
      refine rd_op ?_
      refine rd_v rfl ?_
      refine rd_op ?_
      refine rd_v rfl ?_
      refine rd_c ?_
      refine rd_I0 ?_
      refine rd_ixL (S115.l f83).r e126 (fun u127 f128 => ?_)
      refine rd_nil ?_
      refine rd_lK rfl ?_
      refine alLr (K := K) (B := (fc qS (fc qSh (f1 qSh)))) (a := (t117, t121, t125)) S115 ⟨_, _, rfl, rfl, _, _, rfl, f124, _, rfl, f128⟩ (fun v129 F130 H131 c132 f133 => ?_)
      have S134 := S115.call0 c132
      have f83 := (qL qSh).mono c132.le f83
      have f99 := (qL qSh).mono c132.le f99
      have w116 := w116.call0 c132
      have f135 : qSh.r K F130 v129 (Shp.nd ((t117, t121, t125)).1 ((t117, t121, t125)).2.1 ((t117, t121, t125)).2.2) := sh_of3 f133
      refine rd_nil ?_
      refine rd_lK rfl ?_
      refine alL (K := K) (A := qSh) (xs := [(Shp.nd ((t117, t121, t125)).1 ((t117, t121, t125)).2.1 ((t117, t121, t125)).2.2)]) S134 (.cons f135 .nil) (fun v136 F137 H138 c139 f140 => ?_)
      have S141 := S134.call0 c139
      have f83 := (qL qSh).mono c139.le f83
      have f99 := (qL qSh).mono c139.le f99
      have w116 := w116.call0 c139
      obtain ⟨g142, hm77⟩ := gd_some hm77
      refine rd_cat (S141.l f99) (S141.l f140) g142 ?_
      refine alL' S141 (fun v143 F144 H145 c146 f147 => ?_)
      have S148 := S141.call0 c146
      have f83 := (qL qSh).mono c146.le f83
      have w116 := w116.call0 c146
      refine rd_sl ?_
      refine rd_v rfl ?_
      refine rd_pt ?_
      refine rd_op ?_
      refine rd_v rfl ?_
      refine rd_c ?_
      refine rd_I0 ?_
      refine rd_i ?_
      refine rd_np ?_
      refine rd_slL (S148.l f83).r ?_
      refine alL' S148 (fun v149 F150 H151 c152 f153 => ?_)
      have S154 := S148.call0 c152
      have f83 := (qL qSh).mono c152.le f83
      have f147 := (qL qSh).mono c152.le f147
      have w116 := w116.call0 c152
      obtain ⟨g155, hm77⟩ := gd_some hm77
      refine rd_cat (S154.l f147) (S154.l f153) g155 ?_
      refine alL' S154 (fun v156 F157 H158 c159 f160 => ?_)
      have S161 := S154.call0 c159
      have f83 := (qL qSh).mono c159.le f83
      have w116 := w116.call0 c159
      cases hm77
      refine rd_gn ?_
      exact ⟨F157, _, _, _, rfl, S161, f160, w116⟩
    · skip
      rintro σ162 H163 ⟨F164, x166, o167, o168, rfl, S165, f169, w170⟩
      have S171 := S47.call1 S165 w__law_pool_here
      have w172 : Ow (fun a => a = p__law_pool_here) H0 _ _ _ _ := ⟨w170.fr, w170.at_, w__law_pool_here.mine⟩
      obtain ⟨t173, e174, hm⟩ := bd_some hm
      refine rd_ret ?_
      refine rd_op ?_
      refine rd_v rfl ?_
      refine rd_c ?_
      refine rd_ixL (S171.l f169).r e174 (fun u175 f176 => ?_)
      cases hm
      exact hQ _ _ _ S171 w172 f176
def sp_law_all_signs (K : PySem.W.Frag) : Sp := fun vs H Q _ => ∃ (F : Hp)  (r : Str), vs = [] ∧ Same F H ∧ m_law_all_signs = some r ∧ ∀ v F' H', Sx P0 F H F' H' → qS.r K F' v r → Q v H'
theorem sc_law_all_signs : FnScope [] [] (defScope s_law_all_signs) := ⟨rfl, rfl, rfl, by decide +kernel, rfl, by decide +kernel, by decide +kernel⟩
theorem bn_law_all_signs (T : Tx P K mg) : Binds K (fdOf K ("_law_all_signs", none)) [] [] := FunD.bindsN T.F_law_all_signs fun _ _ _ _ _ _ us hl => match us, hl with | [], _ => rfl
theorem ok_law_all_signs (T : Tx P K mg) : FnOk P w K mg base CX0 1 (He.ga K "_law_all_signs") (fdOf K ("_law_all_signs", none)) [] (sp_law_all_signs K) := by
  refine FunD.ok T.F_law_all_signs sc_law_all_signs (fun vs H0 Q E h => ?_) (fun cdv A outer s H0 vs Q E hr h => ?_)
  · obtain ⟨_, _, rfl, _⟩ := h
    rfl
  · obtain ⟨F0, r, rfl, hE, hm, hQ⟩ := h
    refine ⟨_, PSs.nox ((pss_one (ps_ret pe_str))), ?_⟩
    have S : Sx P0 F0 H0 F0 H0 := Sx.refl0 hE
    unfold m_law_all_signs at hm
    cases hm
    refine rd_ret ?_
    refine rd_c ?_
    exact hQ _ _ _ S rfl
def sp_law_text (K : PySem.W.Frag) : Sp := fun vs H Q _ => ∃ (F : Hp) (p__law_pool_here : Addr) (a__law_pool_here : Int × Int) (r : (Str × (Int × Int))), vs = [.ref p__law_pool_here] ∧ Same F H ∧ Ow (fun a => a = p__law_pool_here) H F H p__law_pool_here (.lst [.int a__law_pool_here.1, .int a__law_pool_here.2]) ∧ m_law_text a__law_pool_here = some r ∧ ∀ v F' H', Sx (fun a => a = p__law_pool_here) F H F' H' → Ow (fun a => a = p__law_pool_here) H F' H' p__law_pool_here (.lst [.int r.2.1, .int r.2.2]) → qS.r K F' v r.1 → Q v H'
theorem sc_law_text : FnScope ["_law_pool_here", "_law_text_here", "_law_style", "_law_k"] ["_law_pool_here"] (defScope s_law_text) := ⟨rfl, rfl, rfl, by decide +kernel, rfl, by decide +kernel, by decide +kernel⟩
theorem bn_law_text (T : Tx P K mg) : Binds K (fdOf K ("_law_text", none)) ["_law_pool_here"] [] := FunD.bindsN T.F_law_text fun _ _ _ _ _ _ us hl => match us, hl with | [_], _ => rfl
theorem ok_law_text (T : Tx P K mg) : FnOk P w K mg base CX0 2 (He.ga K "_law_text") (fdOf K ("_law_text", none)) ["_law_pool_here"] (sp_law_text K) := by
  refine FunD.ok T.F_law_text sc_law_text (fun vs H0 Q E h => ?_) (fun cdv A outer s H0 vs Q E hr h => ?_)
  · obtain ⟨_, _, _, _, rfl, _⟩ := h
    rfl
  · obtain ⟨F0, p__law_pool_here, a__law_pool_here, r, rfl, hE, w__law_pool_here, hm, hQ⟩ := h
    refine ⟨_, PSs.nox ((pss_cons (ps_set (i := 1) sc_law_text.nd rfl (by first | exact Or.inl rfl | exact Or.inr rfl) pe_str) (pss_cons (ps_set (i := 2) sc_law_text.nd rfl (by first | exact Or.inl rfl | exact Or.inr rfl) (pe_call (ok_law_take T) (hr.mono (by decide)) (by rfl) T.g_law_take T.F_law_take.kp (bn_law_take T) .nil pass0 (pa_cons (pv 0) (pa_cons pe_int pa_nil)))) (pss_cons (ps_for PassesOwn.never rfl (pi_range1 (by rfl) T.n_range (pa_cons (pe_op op_add pe_int (pe_call (ok_law_take T) (hr.mono (by decide)) (by rfl) T.g_law_take T.F_law_take.kp (bn_law_take T) .nil pass0 (pa_cons (pv 0) (pa_cons pe_int pa_nil)))) pa_nil)) (pg_name (i := 3) sc_law_text.nd rfl (by first | exact Or.inl rfl | exact Or.inr rfl)) (pss_one (ps_if (pt_cmpR op_eqI (pv 2) pe_int (nomark _)) (pss_one (ps_set (i := 1) sc_law_text.nd rfl (by first | exact Or.inl rfl | exact Or.inr rfl) (pe_op op_catS (pv 1) (pe_ix ix_str (pe_call0 (ok_law_all_signs T) (hr.mono (by decide)) (by rfl) T.g_law_all_signs T.F_law_all_signs.kp (bn_law_all_signs T) .nil pass0) (pe_call (ok_law_take T) (hr.mono (by decide)) (by rfl) T.g_law_take T.F_law_take.kp (bn_law_take T) .nil pass0 (pa_cons (pv 0) (pa_cons pe_int pa_nil))) (fun _ _ => rfl))))) (pss_one (ps_set (i := 1) sc_law_text.nd rfl (by first | exact Or.inl rfl | exact Or.inr rfl) (pe_op op_catS (pv 1) (pe_ix ix_str pe_str (pe_call (ok_law_take T) (hr.mono (by decide)) (by rfl) T.g_law_take T.F_law_take.kp (bn_law_take T) .nil pass0 (pa_cons (pv 0) (pa_cons pe_int pa_nil))) (fun _ _ => rfl)))))))) (pss_one (ps_ret (pv 1))))))), ?_⟩
    have S : Sx (fun a => a = p__law_pool_here) F0 H0 F0 H0 := Sx.refl hE (live1 w__law_pool_here)
    unfold m_law_text at hm
    obtain ⟨t1, e2, hm⟩ := bd_some hm
    refine rd_seq ?_
    refine rd_asg ?_
    refine rd_c ?_
    refine rd_gn ?_
    refine rd_seq ?_
    refine rd_asg ?_
    refine rd_call ?_
    refine rd_cons ?_
    refine rd_v rfl ?_
    refine rd_cons ?_
    refine rd_c ?_
    refine rd_nil ?_
    refine ⟨F0, _, _, _, t1, rfl, S.sub, w__law_pool_here.arg, e2, fun v6 F3 H4 c5 w8 f7 => ?_⟩
    have S9 := S.call1 c5 w__law_pool_here
    have w10 := w__law_pool_here.back w8
    cases (show v6 = (V.int (t1.1)) from f7)
    obtain ⟨t11, e12, hm⟩ := bd_some hm
    refine rd_gn ?_
    refine rd_seq ?_
    refine rd_for ?_
    refine rd_iR1 ?_
    refine rd_cons ?_
    refine rd_op ?_
    refine rd_c ?_
    refine rd_call ?_
    refine rd_cons ?_
    refine rd_v rfl ?_
    refine rd_cons ?_
    refine rd_c ?_
    refine rd_nil ?_
    refine ⟨F3, _, _, _, t11, rfl, S9.sub, w10.arg, e12, fun v16 F13 H14 c15 w18 f17 => ?_⟩
    have S19 := S9.call1 c15 w10
    have w20 := w10.back w18
    cases (show v16 = (V.int (t11.1)) from f17)
    obtain ⟨g21, hm⟩ := gd_some hm
    refine rd_I0 ?_
    refine rd_nil ?_
    refine rd_r1 g21 ?_
    obtain ⟨t22, e23, hm⟩ := bd_some hm
    refine rd_forS feedsRg (typedR (K := K) (F := F13)) e23 (fun (s24 : ((Int × Int) × Str)) σ H => ∃ (F : Hp) (o3 : Option V), σ = [some (V.ref p__law_pool_here), some (V.str (s24.2)), some (V.int (t1.1)), o3] ∧ Sx (fun a => a = p__law_pool_here) F13 H14 F H ∧ Ow (fun a => a = p__law_pool_here) H14 F H p__law_pool_here (.lst [V.int s24.1.1, V.int s24.1.2])) ?_ ?_ ?_ ?_
    · intro _ _ _ _; trivial
    · skip
      have S26 : Sx (fun a => a = p__law_pool_here) _ _ _ _ := Sx.refl S19.sub (fun a z => by rw [z, w20.at_]; exact (fun h => nomatch h))
      have w27 : Ow (fun a => a = p__law_pool_here) H14 _ _ _ _ := ⟨w20.fr, w20.at_, .inr (rfl)⟩
      exact ⟨F13, _, rfl, S26, w27⟩
    · skip
      rintro x28 v29 s30 c34 σ31 H32 f33 ⟨F35, o37, rfl, S36, w38⟩ hm41
      unfold m_law_text_b1 at hm41
      cases (show v29 = (V.int (x28)) from f33)
      refine rd_gn ?_
      refine rd_ifS ?_
      refine rd_test ?_
      refine rd_op ?_
      refine rd_v rfl ?_
      refine rd_c ?_
      refine rd_I0 ?_
      refine rd_b ?_
      refine if_b hm41 (fun b42 hm41 => ?_) (fun b42 hm41 => ?_)
      · skip
        obtain ⟨t43, e44, hm41⟩ := bd_some hm41
        refine rd_asg ?_
        refine rd_op ?_
        refine rd_v rfl ?_
        refine rd_op ?_
        refine rd_call ?_
        refine rd_nil ?_
        refine ⟨F35, t43, rfl, S36.sub, e44, fun v48 F45 H46 c47 f49 => ?_⟩
        have S50 := S36.call0 c47
        have w38 := w38.call0 c47
        cases (show v48 = (V.str (t43)) from f49)
        obtain ⟨t51, e52, hm41⟩ := bd_some hm41
        refine rd_call ?_
        refine rd_cons ?_
        refine rd_v rfl ?_
        refine rd_cons ?_
        refine rd_c ?_
        refine rd_nil ?_
        refine ⟨F45, _, _, _, t51, rfl, S50.sub, w38.arg, e52, fun v56 F53 H54 c55 w58 f57 => ?_⟩
        have S59 := S50.call1 c55 w38
        have w60 := w38.back w58
        cases (show v56 = (V.int (t51.1)) from f57)
        obtain ⟨t61, e62, hm41⟩ := bd_some hm41
        obtain ⟨g63, hm41⟩ := gd_some hm41
        cases hm41
        refine rd_ixS e62 ?_
        refine rd_catS g63 ?_
        refine rd_gn ?_
        exact ⟨F53, _, rfl, S59, w60⟩
      · skip
        obtain ⟨t64, e65, hm41⟩ := bd_some hm41
        refine rd_asg ?_
        refine rd_op ?_
        refine rd_v rfl ?_
        refine rd_op ?_
        refine rd_c ?_
        refine rd_call ?_
        refine rd_cons ?_
        refine rd_v rfl ?_
        refine rd_cons ?_
        refine rd_c ?_
        refine rd_nil ?_
        refine ⟨F35, _, _, _, t64, rfl, S36.sub, w38.arg, e65, fun v69 F66 H67 c68 w71 f70 => ?_⟩
        have S72 := S36.call1 c68 w38
        have w73 := w38.back w71
        cases (show v69 = (V.int (t64.1)) from f70)
        obtain ⟨t74, e75, hm41⟩ := bd_some hm41
        obtain ⟨g76, hm41⟩ := gd_some hm41
        cases hm41
        refine rd_ixS e75 ?_
        refine rd_catS g76 ?_
        refine rd_gn ?_
        exact ⟨F66, _, rfl, S72, w73⟩
    · skip
      rintro σ77 H78 ⟨F79, o81, rfl, S80, w82⟩
      have S83 := S19.call1 S80 w20
      have w84 : Ow (fun a => a = p__law_pool_here) H0 _ _ _ _ := ⟨w82.fr, w82.at_, w20.mine⟩
      cases hm
      refine rd_ret ?_
      refine rd_v rfl ?_
      exact hQ _ _ _ S83 w84 rfl
def sp_law_rich (K : PySem.W.Frag) : Sp := fun vs H Q _ => ∃ (F : Hp) (p__law_pool_here : Addr) (a__law_pool_here : Int × Int) (r : ((List Str) × (Int × Int))), vs = [.ref p__law_pool_here] ∧ Same F H ∧ Ow (fun a => a = p__law_pool_here) H F H p__law_pool_here (.lst [.int a__law_pool_here.1, .int a__law_pool_here.2]) ∧ m_law_rich a__law_pool_here = some r ∧ ∀ v F' H', Sx (fun a => a = p__law_pool_here) F H F' H' → Ow (fun a => a = p__law_pool_here) H F' H' p__law_pool_here (.lst [.int r.2.1, .int r.2.2]) → (qL qS).r K F' v r.1 → Q v H'
theorem sc_law_rich : FnScope ["_law_pool_here", "_law_parts", "_law_k", "_law_kind", "_law_fixed"] ["_law_pool_here"] (defScope s_law_rich) := ⟨rfl, rfl, rfl, by decide +kernel, rfl, by decide +kernel, by decide +kernel⟩
theorem bn_law_rich (T : Tx P K mg) : Binds K (fdOf K ("_law_rich", none)) ["_law_pool_here"] [] := FunD.bindsN T.F_law_rich fun _ _ _ _ _ _ us hl => match us, hl with | [_], _ => rfl
theorem ok_law_rich (T : Tx P K mg) : FnOk P w K mg base CX0 3 (He.ga K "_law_rich") (fdOf K ("_law_rich", none)) ["_law_pool_here"] (sp_law_rich K) := by
  refine FunD.ok T.F_law_rich sc_law_rich (fun vs H0 Q E h => ?_) (fun cdv A outer s H0 vs Q E hr h => ?_)
  · obtain ⟨_, _, _, _, rfl, _⟩ := h
    rfl
  · obtain ⟨F0, p__law_pool_here, a__law_pool_here, r, rfl, hE, w__law_pool_here, hm, hQ⟩ := h
    refine ⟨_, PSs.nox ((pss_cons (ps_set (i := 1) sc_law_rich.nd rfl (by first | exact Or.inl rfl | exact Or.inr rfl) (pe_lst pa_nil)) (pss_cons (ps_for PassesOwn.never rfl (pi_range1 (by rfl) T.n_range (pa_cons (pe_op op_add pe_int (pe_call (ok_law_take T) (hr.mono (by decide)) (by rfl) T.g_law_take T.F_law_take.kp (bn_law_take T) .nil pass0 (pa_cons (pv 0) (pa_cons pe_int pa_nil)))) pa_nil)) (pg_name (i := 2) sc_law_rich.nd rfl (by first | exact Or.inl rfl | exact Or.inr rfl)) (pss_cons (ps_set (i := 3) sc_law_rich.nd rfl (by first | exact Or.inl rfl | exact Or.inr rfl) (pe_call (ok_law_take T) (hr.mono (by decide)) (by rfl) T.g_law_take T.F_law_take.kp (bn_law_take T) .nil pass0 (pa_cons (pv 0) (pa_cons pe_int pa_nil)))) (pss_cons (ps_set (i := 4) sc_law_rich.nd rfl (by first | exact Or.inl rfl | exact Or.inr rfl) (pe_and (pe_cmpR (r := rNeD K) (op_neD hr.units) (pv 1) (pe_lst pa_nil) (nomark _)) (pe_one (pe_cmpR (r := rIn K true) op_notIn_seq (pe_ix (r := rIxL K) ix_list (pv 1) (pe_un un_neg pe_int) (fun _ _ => rfl)) (pe_tup (pa_cons pe_str (pa_cons pe_str (pa_cons pe_str pa_nil)))) rfl)))) (pss_one (ps_if (PW.pt (pw_and (pt_cmpR op_eqI (pv 3) pe_int (nomark _)) (pw_and1 (pt_cmpR (r := rIn K true) op_notIn_seq pe_str (pv 1) rfl)))) (pss_one (ps_expr (pe_bmK (K := K) PySem.F.plainAttrs_list PySem.F.slot_list_append PySem.F.type_list_append mt_append (pv 1) (pa_cons pe_str pa_nil)))) (pss_one (ps_if (pt_cmpR op_eqI (pv 3) pe_int (nomark _)) (pss_one (ps_expr (pe_bmK (K := K) PySem.F.plainAttrs_list PySem.F.slot_list_append PySem.F.type_list_append mt_append (pv 1) (pa_cons pe_str pa_nil)))) (pss_one (ps_if (PW.pt (pw_or (pt_cmpR op_eqI (pv 3) pe_int (nomark _)) (pw_or1 (pt_val (pv 4))))) (pss_one (ps_expr (pe_bmK (K := K) PySem.F.plainAttrs_list PySem.F.slot_list_append PySem.F.type_list_append mt_append (pv 1) (pa_cons pe_str pa_nil)))) (pss_one (ps_expr (pe_bmK (K := K) PySem.F.plainAttrs_list PySem.F.slot_list_append PySem.F.type_list_append mt_append (pv 1) (pa_cons (pe_call (ok_law_text T) (hr.mono (by decide)) (by rfl) T.g_law_text T.F_law_text.kp (bn_law_text T) .nil pass0 (pa_cons (pv 0) pa_nil)) pa_nil))))))))))))) (pss_one (ps_ret (pv 1)))))), ?_⟩
    have S : Sx (fun a => a = p__law_pool_here) F0 H0 F0 H0 := Sx.refl hE (live1 w__law_pool_here)
    unfold m_law_rich at hm
    refine rd_seq ?_
    refine rd_asg ?_
    refine rd_lst ?_
    refine rd_nil ?_
    refine rd_lK rfl ?_
    refine al S (fun p1 H2 np3 c4 w5 => ?_)
    have r6 : Row qS K F0 [] ([] : List Str) := .nil
    have ne7 : p__law_pool_here ≠ p1 := w__law_pool_here.ne np3
    have z8 := S.free0 np3
    have S9 := S.call0 c4
    have w__law_pool_here := w__law_pool_here.call0 c4
    obtain ⟨t10, e11, hm⟩ := bd_some hm
    refine rd_gn ?_
    refine rd_seq ?_
    refine rd_for ?_
    refine rd_iR1 ?_
    refine rd_cons ?_
    refine rd_op ?_
    refine rd_c ?_
    refine rd_call ?_
    refine rd_cons ?_
    refine rd_v rfl ?_
    refine rd_cons ?_
    refine rd_c ?_
    refine rd_nil ?_
    refine ⟨F0, _, _, _, t10, rfl, S9.sub, w__law_pool_here.arg, e11, fun v15 F12 H13 c14 w17 f16 => ?_⟩
    have S18 := S9.call1 c14 w__law_pool_here
    have r6 := Row.mono c14.le r6
    have w5 := w5.call c14 (by intro z; exact (Ne.symm ne7) z)
    have w19 := w__law_pool_here.back w17
    cases (show v15 = (V.int (t10.1)) from f16)
    obtain ⟨g20, hm⟩ := gd_some hm
    refine rd_I0 ?_
    refine rd_nil ?_
    refine rd_r1 g20 ?_
    obtain ⟨t21, e22, hm⟩ := bd_some hm
    refine rd_forS feedsRg (typedR (K := K) (F := F12)) e22 (fun (s23 : ((Int × Int) × (List Str))) σ H => ∃ (F : Hp) (o2 : Option V) (o3 : Option V) (o4 : Option V) (vs1 : List V), σ = [some (V.ref p__law_pool_here), some (V.ref p1), o2, o3, o4] ∧ Sx (fun a => a = p__law_pool_here ∨ a = p1) F12 H13 F H ∧ Ow (fun a => a = p__law_pool_here ∨ a = p1) H13 F H p__law_pool_here (.lst [V.int s23.1.1, V.int s23.1.2]) ∧ Ow (fun a => a = p__law_pool_here ∨ a = p1) H13 F H p1 (.lst vs1) ∧ Row qS K F vs1 s23.2) ?_ ?_ ?_ ?_
    · intro _ _ _ _; trivial
    · skip
      have S25 : Sx (fun a => a = p__law_pool_here ∨ a = p1) _ _ _ _ := Sx.refl S18.sub (by
          rintro a (rfl | rfl)
          · rw [w19.at_]; exact (fun h => nomatch h)
          · rw [w5.at_]; exact (fun h => nomatch h))
      have w26 : Ow (fun a => a = p__law_pool_here ∨ a = p1) H13 _ _ _ _ := ⟨w19.fr, w19.at_, .inr (Or.inl rfl)⟩
      have w27 : Ow (fun a => a = p__law_pool_here ∨ a = p1) H13 _ _ _ _ := ⟨w5.fr, w5.at_, .inr (Or.inr (rfl))⟩
      exact ⟨F12, _, _, _, _, rfl, S25, w26, w27, r6⟩
    · skip
      rintro x28 v29 s30 c34 σ31 H32 f33 ⟨F35, o37, o38, o39, v40, rfl, S36, w41, w42, r43⟩ hm46
      unfold m_law_rich_b1 at hm46
      cases (show v29 = (V.int (x28)) from f33)
      obtain ⟨t47, e48, hm46⟩ := bd_some hm46
      refine rd_gn ?_
      refine rd_seq ?_
      refine rd_asg ?_
      refine rd_call ?_
      refine rd_cons ?_
      refine rd_v rfl ?_
      refine rd_cons ?_
      refine rd_c ?_
      refine rd_nil ?_
      refine ⟨F35, _, _, _, t47, rfl, S36.sub, w41.arg, e48, fun v52 F49 H50 c51 w54 f53 => ?_⟩
      have S55 := S36.call1 c51 w41
      have r43 := Row.mono c51.le r43
      have w42 := w42.call c51 (by intro z; exact (Ne.symm ne7) z)
      have w56 := w41.back w54
      cases (show v52 = (V.int (t47.1)) from f53)
      refine rd_gn ?_
      refine rd_seq ?_
      refine rd_asg ?_
      refine rd_andV ?_
      refine rd_op ?_
      refine rd_v rfl ?_
      refine rd_lst ?_
      refine rd_nil ?_
      refine rd_lK rfl ?_
      refine alL (K := K) (A := qS) (xs := ([] : List Str)) S55 .nil (fun v57 F58 H59 c60 f61 => ?_)
      have S62 := S55.call0 c60
      have w56 := w56.call0 c60
      have r43 := Row.mono c60.le r43
      have w42 := w42.call0 c60
      obtain ⟨g63, hm46⟩ := gd_some hm46
      obtain ⟨g64, hm46⟩ := gd_some hm46
      obtain ⟨t75, e76, hm46⟩ := bd_some hm46
      refine rd_neD (D := (dL dS)) (w42.d S62 dS r43) (S62.d (dL dS) f61) g63 g64 ?_
      refine rd_b ?_
      refine andV_j (fun c H' => c = V.bl t75 ∧ ∃ F', Sx P0 F58 H59 F' H') ?_ ?_ ?_
      · intro b77 Q78 q79
        have e76 := if_t e76 b77
        have S80 := Sx.refl0 S62.sub
        obtain ⟨t81, e82, e76⟩ := bd_some e76
        refine rd_op ?_
        refine rd_op ?_
        refine rd_v rfl ?_
        refine rd_un ?_
        refine rd_c ?_
        refine rd_U ?_
        refine rd_ixL (w42.l r43).r e82 (fun u83 f84 => ?_)
        cases (show u83 = (V.str (t81)) from f84)
        refine rd_tup ?_
        refine rd_cons ?_
        refine rd_c ?_
        refine rd_cons ?_
        refine rd_c ?_
        refine rd_cons ?_
        refine rd_c ?_
        refine rd_nil ?_
        refine rd_uK rfl ?_
        refine alT (K := K) (A := qS) (xs := [("<any>" : Str), ("<digits>" : Str), ("<word>" : Str)]) S80 (.cons rfl (.cons rfl (.cons rfl .nil))) (fun v85 F86 H87 c88 f89 => ?_)
        have S90 := S80.call0 c88
        have w56 := w56.call0 c88
        have r43 := Row.mono c88.le r43
        have w42 := w42.call0 c88
        cases e76
        refine rd_niS (S90.t f89).q ?_
        exact q79 _ _ ⟨rfl, F86, S90⟩
      · intro b77
        have e76 := if_f e76 b77
        cases e76
        have S91 := Sx.refl0 S62.sub
        exact ⟨rfl, F58, S91⟩
      rintro b95 H93 ⟨rfl, F92, c94⟩
      have S96 := S62.call0 c94
      have w56 := w56.call0 c94
      have r43 := Row.mono c94.le r43
      have w42 := w42.call0 c94
      refine rd_gn ?_
      refine rd_ifS ?_
      refine rd_and ?_
      refine rd_test ?_
      refine rd_op ?_
      refine rd_v rfl ?_
      refine rd_c ?_
      refine rd_I0 ?_
      refine rd_b ?_
      refine and_p (by intro _ Q' q; refine rd_test ?_; refine rd_op ?_; refine rd_c ?_; refine rd_v rfl ?_; refine rd_niS (w42.l r43).r.q ?_; refine rd_b ?_; exact q) ?_
      refine if_b hm46 (fun b97 hm46 => ?_) (fun b97 hm46 => ?_)
      · skip
        obtain ⟨g98, hm46⟩ := gd_some hm46
        refine rd_drop ?_
        refine rd_bm ?_
        refine rd_v rfl ?_
        refine rd_ty w42.ty ?_
        refine rd_cons ?_
        refine rd_c ?_
        refine rd_nil ?_
        refine ap S96 w42 r43 g98 (fun H99 c100 w101 => ?_)
        have r102 := r43.snoc (show qS.r K F92 _ ("<any>" : Str) from rfl)
        have S103 := S96.call1 c100 w42
        have w56 := w56.call c100 (by intro z; exact ne7 z)
        have r102 := Row.mono c100.le r102
        cases hm46
        exact ⟨F92, _, _, _, _, rfl, S103, w56, w101, r102⟩
      · skip
        refine rd_ifS ?_
        refine rd_test ?_
        refine rd_op ?_
        refine rd_v rfl ?_
        refine rd_c ?_
        refine rd_I0 ?_
        refine rd_b ?_
        refine if_b hm46 (fun b104 hm46 => ?_) (fun b104 hm46 => ?_)
        · skip
          obtain ⟨g105, hm46⟩ := gd_some hm46
          refine rd_drop ?_
          refine rd_bm ?_
          refine rd_v rfl ?_
          refine rd_ty w42.ty ?_
          refine rd_cons ?_
          refine rd_c ?_
          refine rd_nil ?_
          refine ap S96 w42 r43 g105 (fun H106 c107 w108 => ?_)
          have r109 := r43.snoc (show qS.r K F92 _ ("<digits>" : Str) from rfl)
          have S110 := S96.call1 c107 w42
          have w56 := w56.call c107 (by intro z; exact ne7 z)
          have r109 := Row.mono c107.le r109
          cases hm46
          exact ⟨F92, _, _, _, _, rfl, S110, w56, w108, r109⟩
        · skip
          refine rd_ifS ?_
          refine rd_or ?_
          refine rd_test ?_
          refine rd_op ?_
          refine rd_v rfl ?_
          refine rd_c ?_
          refine rd_I0 ?_
          refine rd_b ?_
          refine or_p (by intro _ Q' q; refine rd_tB ?_; refine rd_v rfl ?_; refine rd_b ?_; exact q) ?_
          refine if_b hm46 (fun b111 hm46 => ?_) (fun b111 hm46 => ?_)
          · skip
            obtain ⟨g112, hm46⟩ := gd_some hm46
            refine rd_drop ?_
            refine rd_bm ?_
            refine rd_v rfl ?_
            refine rd_ty w42.ty ?_
            refine rd_cons ?_
            refine rd_c ?_
            refine rd_nil ?_
            refine ap S96 w42 r43 g112 (fun H113 c114 w115 => ?_)
            have r116 := r43.snoc (show qS.r K F92 _ ("<word>" : Str) from rfl)
            have S117 := S96.call1 c114 w42
            have w56 := w56.call c114 (by intro z; exact ne7 z)
            have r116 := Row.mono c114.le r116
            cases hm46
            exact ⟨F92, _, _, _, _, rfl, S117, w56, w115, r116⟩
          · skip
            obtain ⟨t118, e119, hm46⟩ := bd_some hm46
            refine rd_drop ?_
            refine rd_bm ?_
            refine rd_v rfl ?_
            refine rd_ty w42.ty ?_
            refine rd_cons ?_
            refine rd_call ?_
            refine rd_cons ?_
            refine rd_v rfl ?_
            refine rd_nil ?_
            refine ⟨F92, _, _, t118, rfl, S96.sub, w56.arg, e119, fun v123 F120 H121 c122 w125 f124 => ?_⟩
            have S126 := S96.call1 c122 w56
            have r43 := Row.mono c122.le r43
            have w42 := w42.call c122 (by intro z; exact (Ne.symm ne7) z)
            have w127 := w56.back w125
            cases (show v123 = (V.str (t118.1)) from f124)
            obtain ⟨g128, hm46⟩ := gd_some hm46
            refine rd_nil ?_
            refine ap S126 w42 r43 g128 (fun H129 c130 w131 => ?_)
            have r132 := r43.snoc (show qS.r K F120 _ t118.1 from rfl)
            have S133 := S126.call1 c130 w42
            have w127 := w127.call c130 (by intro z; exact ne7 z)
            have r132 := Row.mono c130.le r132
            cases hm46
            exact ⟨F120, _, _, _, _, rfl, S133, w127, w131, r132⟩
    · skip
      rintro σ134 H135 ⟨F136, o138, o139, o140, v141, rfl, S137, w142, w143, r144⟩
      have S145 := S18.call S137 (by
          rintro a (rfl | rfl)
          · exact w19.mine.symm
          · exact w5.mine.symm)
      have w146 : Ow (fun a => a = p__law_pool_here) H0 _ _ _ _ := ⟨w142.fr, w142.at_, w19.mine⟩
      have w147 : Ow (fun a => a = p__law_pool_here) H0 _ _ _ _ := ⟨w143.fr, w143.at_, w5.mine⟩
      obtain ⟨F148, S149, le150, f151, _, eq152⟩ := fz S145 w147 z8 r144
      have w146 := w146.fzO ne7 eq152
      cases hm
      refine rd_ret ?_
      refine rd_v rfl ?_
      exact hQ _ _ _ S149 w146 f151
def sp_Form___str__ (K : PySem.W.Frag) : Sp := fun vs H Q _ => ∃ (F : Hp) (v_self : V) (a_self : (List Str)) (r : Str), vs = [v_self] ∧ Same F H ∧ qForm.r K F v_self a_self ∧ m_Form___str__ a_self = some r ∧ ∀ v F' H', Sx P0 F H F' H' → qS.r K F' v r → Q v H'
theorem sc_Form___str__ : FnScope ["self"] ["self"] (defScope s_Form___str__) := ⟨rfl, rfl, rfl, by decide +kernel, rfl, by decide +kernel, by decide +kernel⟩
theorem bn_Form___str__ (T : Tx P K mg) : Binds K (fdOf K ("Form", some "__str__")) ["self"] [] := FunD.bindsN T.F_Form___str__ fun _ _ _ _ _ _ us hl => match us, hl with | [_], _ => rfl
theorem ok_Form___str__ (T : Tx P K mg) : FnOk P w K mg base CX0 1 (He.fAd K ("Form", some "__str__")) (fdOf K ("Form", some "__str__")) ["self"] (sp_Form___str__ K) := by
  refine FunD.ok T.F_Form___str__ sc_Form___str__ (fun vs H0 Q E h => ?_) (fun cdv A outer s H0 vs Q E hr h => ?_)
  · obtain ⟨_, _, _, _, rfl, _⟩ := h
    rfl
  · obtain ⟨F0, v_self, a_self, r, rfl, hE, f_self, hm, hQ⟩ := h
    refine ⟨_, PSs.nox ((pss_one (ps_ret (pe_bmK (K := K) PySem.F.plainAttrs_str PySem.F.slot_str_join PySem.F.type_str_join (mt_joinKK (K := K)) pe_str (pa_cons (pe_fldK (pv 0) rfl) pa_nil))))), ?_⟩
    have S : Sx P0 F0 H0 F0 H0 := Sx.refl0 hE
    unfold m_Form___str__ at hm
    refine rd_ret ?_
    refine rd_bm ?_
    refine rd_c ?_
    refine rd_ty (tyS_str) ?_
    refine rd_cons ?_
    refine rd_fld ?_
    refine rd_v rfl ?_
    refine fld_Form_pieces T S f_self (fun u1 f2 => ?_)
    obtain ⟨g3, hm⟩ := gd_some hm
    cases hm
    refine rd_nil ?_
    refine rd_join (S.t f2).q g3 ?_
    exact hQ _ _ _ S rfl
theorem okv_Form_str (T : Tx P K mg) (n : Nat) : FnOk P w K mg base CX0 (3 * n + 1) (He.fAd K ("Form", some "__str__")) (fdOf K ("Form", some "__str__")) ["self"] (sp_pat_str n "Form" K) := by
  refine ((ok_Form___str__ T).mono (by omega)).imp fun vs H0 Q E h => ?_
  obtain ⟨F0, v, a, r, rfl, hE, f, hc, hm, hQ⟩ := h
  obtain ⟨h1, h2, h3⟩ := patN_some hm
  cases a with
    | both _ _ => exact absurd (show ("Both" : Str) = "Form" from hc) (by decide)
    | either _ _ => exact absurd (show ("Either" : Str) = "Form" from hc) (by decide)
    | form a =>
    exact ⟨F0, v, a, r, rfl, hE, f, h3, hQ⟩
theorem sc_Both_str : FnScope ["self"] ["self"] (defScope s_Both___str__) := ⟨rfl, rfl, rfl, by decide +kernel, rfl, by decide +kernel, by decide +kernel⟩
theorem bn_Both_str (T : Tx P K mg) : Binds K (fdOf K ("Both", some "__str__")) ["self"] [] := FunD.bindsN T.F_Both___str__ fun _ _ _ _ _ _ us hl => match us, hl with | [_], _ => rfl
theorem okv_Both_str (T : Tx P K mg) {n : Nat} (V : VM P w K mg base (3 * n + 1) "__str__" ["self"] (fun x => sp_pat_str n x K)) : FnOk P w K mg base CX0 (3 * n + 4) (He.fAd K ("Both", some "__str__")) (fdOf K ("Both", some "__str__")) ["self"] (sp_pat_str (n + 1) "Both" K) := by
  refine FunD.ok T.F_Both___str__ sc_Both_str (fun vs H0 Q E h => ?_) (fun cdv A outer s H0 vs Q E hr h => ?_)
  · obtain ⟨_, _, _, _, rfl, _⟩ := h
    rfl
  · obtain ⟨F0, v, a, r, rfl, hE, f, hc, hm, hQ⟩ := h
    obtain ⟨h1, h2, h3⟩ := patN_some hm
    cases a with
    | form _ => exact absurd (show ("Form" : Str) = "Both" from hc) (by decide)
    | either _ _ => exact absurd (show ("Either" : Str) = "Both" from hc) (by decide)
    | both l r' =>
    obtain ⟨p, dx, u, w', rfl, e2, rl, rr⟩ := (show qPatR K F0 v (.both l r') from f)
    replace rl : qPat.r K F0 u l := rl
    replace rr : qPat.r K F0 w' r' := rr
    have hl : l.ht ≤ n ∧ r'.ht ≤ n := by
      have h1 : max l.ht r'.ht + 1 ≤ n + 1 := h1
      omega
    have hf : l.forms.length + r'.forms.length ≤ 16 := by
      have h2 : (l.forms ++ r'.forms).length ≤ 16 := h2
      rw [List.length_append] at h2
      exact h2
    obtain ⟨x, ex, h3⟩ := bd_some (show (l.str.bind fun x => r'.str.bind fun y => gd (joinPok (" & " : Str) x y) (some (joinP (" & " : Str) x y))) = some r from h3)
    obtain ⟨y, ey, h3⟩ := bd_some h3
    obtain ⟨g, h3⟩ := gd_some h3
    cases h3
    obtain ⟨g1, g2, g3, g4, g5, g6, g7⟩ := joinPok_len g
    refine ⟨_, PSs.nox (pss_one (ps_ret (pe_joined (.cons pe_str (.cons (pe_fmt (pe_callTy (r := rStrW P w K mg base (3 * n + 1)) (cr_strW (hr.mono (by omega))) (by rfl) T.n_str (by decide +kernel) (pa_cons (pe_fldK (pv 0) rfl) pa_nil))) (.cons pe_str (.cons (pe_fmt (pe_callTy (r := rStrW P w K mg base (3 * n + 1)) (cr_strW (hr.mono (by omega))) (by rfl) T.n_str (by decide +kernel) (pa_cons (pe_fldK (pv 0) rfl) pa_nil))) (.cons pe_str .nil)))))))), ?_⟩
    have S : Sx P0 F0 H0 F0 H0 := Sx.refl0 hE
    refine rd_ret ?_
    refine rd_js ?_
    refine rd_c ?_
    refine js_at g3 ?_
    refine rd_js ?_
    refine rd_fm ?_
    refine rd_cb ?_
    refine rd_cons ?_
    refine rd_fld ?_
    refine rd_v rfl ?_
    refine fd_at (S.sub _ _ e2) T.c_Both T.na_Both_left (by rfl) ?_
    refine rd_nil ?_
    refine V.strW S rl ?_
    refine ⟨F0, _, _, _, rfl, S.sub, rl, rfl, (patN_of hl.1 (by omega)).trans ex, fun v1 F1 H1 c1 f1 => ?_⟩
    cases (show v1 = .str x from f1)
    have S1 := S.call0 c1
    have rr := qPat.mono c1.le rr
    refine rd_stK ?_
    refine fm_at g1 ?_
    refine js_at g4 ?_
    refine rd_js ?_
    refine rd_c ?_
    refine js_at g5 ?_
    refine rd_js ?_
    refine rd_fm ?_
    refine rd_cb ?_
    refine rd_cons ?_
    refine rd_fld ?_
    refine rd_v rfl ?_
    refine fd_at (S1.sub _ _ (S1.le _ _ e2)) T.c_Both T.na_Both_right (by rfl) ?_
    refine rd_nil ?_
    refine V.strW S1 rr ?_
    refine ⟨F1, _, _, _, rfl, S1.sub, rr, rfl, (patN_of hl.2 (by omega)).trans ey, fun v2 F2 H2 c2 f2 => ?_⟩
    cases (show v2 = .str y from f2)
    have S2 := S1.call0 c2
    refine rd_stK ?_
    refine fm_at g2 ?_
    refine js_at g6 ?_
    refine rd_js ?_
    refine rd_c ?_
    refine js_at g7 ?_
    refine rd_js0 ?_
    exact hQ _ _ _ S2 rfl
theorem sc_Either_str : FnScope ["self"] ["self"] (defScope s_Either___str__) := ⟨rfl, rfl, rfl, by decide +kernel, rfl, by decide +kernel, by decide +kernel⟩
theorem bn_Either_str (T : Tx P K mg) : Binds K (fdOf K ("Either", some "__str__")) ["self"] [] := FunD.bindsN T.F_Either___str__ fun _ _ _ _ _ _ us hl => match us, hl with | [_], _ => rfl
theorem okv_Either_str (T : Tx P K mg) {n : Nat} (V : VM P w K mg base (3 * n + 1) "__str__" ["self"] (fun x => sp_pat_str n x K)) : FnOk P w K mg base CX0 (3 * n + 4) (He.fAd K ("Either", some "__str__")) (fdOf K ("Either", some "__str__")) ["self"] (sp_pat_str (n + 1) "Either" K) := by
  refine FunD.ok T.F_Either___str__ sc_Either_str (fun vs H0 Q E h => ?_) (fun cdv A outer s H0 vs Q E hr h => ?_)
  · obtain ⟨_, _, _, _, rfl, _⟩ := h
    rfl
  · obtain ⟨F0, v, a, r, rfl, hE, f, hc, hm, hQ⟩ := h
    obtain ⟨h1, h2, h3⟩ := patN_some hm
    cases a with
    | form _ => exact absurd (show ("Form" : Str) = "Either" from hc) (by decide)
    | both _ _ => exact absurd (show ("Both" : Str) = "Either" from hc) (by decide)
    | either l r' =>
    obtain ⟨p, dx, u, w', rfl, e2, rl, rr⟩ := (show qPatR K F0 v (.either l r') from f)
    replace rl : qPat.r K F0 u l := rl
    replace rr : qPat.r K F0 w' r' := rr
    have hl : l.ht ≤ n ∧ r'.ht ≤ n := by
      have h1 : max l.ht r'.ht + 1 ≤ n + 1 := h1
      omega
    have hf : l.forms.length + r'.forms.length ≤ 16 := by
      have h2 : (l.forms ++ r'.forms).length ≤ 16 := h2
      rw [List.length_append] at h2
      exact h2
    obtain ⟨x, ex, h3⟩ := bd_some (show (l.str.bind fun x => r'.str.bind fun y => gd (joinPok (" | " : Str) x y) (some (joinP (" | " : Str) x y))) = some r from h3)
    obtain ⟨y, ey, h3⟩ := bd_some h3
    obtain ⟨g, h3⟩ := gd_some h3
    cases h3
    obtain ⟨g1, g2, g3, g4, g5, g6, g7⟩ := joinPok_len g
    refine ⟨_, PSs.nox (pss_one (ps_ret (pe_joined (.cons pe_str (.cons (pe_fmt (pe_callTy (r := rStrW P w K mg base (3 * n + 1)) (cr_strW (hr.mono (by omega))) (by rfl) T.n_str (by decide +kernel) (pa_cons (pe_fldK (pv 0) rfl) pa_nil))) (.cons pe_str (.cons (pe_fmt (pe_callTy (r := rStrW P w K mg base (3 * n + 1)) (cr_strW (hr.mono (by omega))) (by rfl) T.n_str (by decide +kernel) (pa_cons (pe_fldK (pv 0) rfl) pa_nil))) (.cons pe_str .nil)))))))), ?_⟩
    have S : Sx P0 F0 H0 F0 H0 := Sx.refl0 hE
    refine rd_ret ?_
    refine rd_js ?_
    refine rd_c ?_
    refine js_at g3 ?_
    refine rd_js ?_
    refine rd_fm ?_
    refine rd_cb ?_
    refine rd_cons ?_
    refine rd_fld ?_
    refine rd_v rfl ?_
    refine fd_at (S.sub _ _ e2) T.c_Either T.na_Either_left (by rfl) ?_
    refine rd_nil ?_
    refine V.strW S rl ?_
    refine ⟨F0, _, _, _, rfl, S.sub, rl, rfl, (patN_of hl.1 (by omega)).trans ex, fun v1 F1 H1 c1 f1 => ?_⟩
    cases (show v1 = .str x from f1)
    have S1 := S.call0 c1
    have rr := qPat.mono c1.le rr
    refine rd_stK ?_
    refine fm_at g1 ?_
    refine js_at g4 ?_
    refine rd_js ?_
    refine rd_c ?_
    refine js_at g5 ?_
    refine rd_js ?_
    refine rd_fm ?_
    refine rd_cb ?_
    refine rd_cons ?_
    refine rd_fld ?_
    refine rd_v rfl ?_
    refine fd_at (S1.sub _ _ (S1.le _ _ e2)) T.c_Either T.na_Either_right (by rfl) ?_
    refine rd_nil ?_
    refine V.strW S1 rr ?_
    refine ⟨F1, _, _, _, rfl, S1.sub, rr, rfl, (patN_of hl.2 (by omega)).trans ey, fun v2 F2 H2 c2 f2 => ?_⟩
    cases (show v2 = .str y from f2)
    have S2 := S1.call0 c2
    refine rd_stK ?_
    refine fm_at g2 ?_
    refine js_at g6 ?_
    refine rd_js ?_
    refine rd_c ?_
    refine js_at g7 ?_
    refine rd_js0 ?_
    exact hQ _ _ _ S2 rfl
theorem okv_void_str {C : Str} (hC : C = "Both" ∨ C = "Either") : FnOk P w K mg base CX0 1 (He.fAd K (C, some "__str__")) (fdOf K (C, some "__str__")) ["self"] (sp_pat_str 0 C K) := by
  have no : ∀ vs H Q E, ¬ sp_pat_str 0 C K vs H Q E := by
    intro vs H Q E h
    obtain ⟨_, _, a, _, _, _, _, hc, hm, _⟩ := h
    obtain ⟨h1, _, _⟩ := patN_some hm
    cases a with
    | form _ =>
      subst hc
      rcases hC with h | h
      · exact absurd (show ("Form" : Str) = "Both" from h) (by decide)
      · exact absurd (show ("Form" : Str) = "Either" from h) (by decide)
    | both l r => exact absurd (show max l.ht r.ht + 1 ≤ 0 from h1) (by omega)
    | either l r => exact absurd (show max l.ht r.ht + 1 ≤ 0 from h1) (by omega)
  exact ⟨fun vs H Q E h => absurd h (no vs H Q E), fun A outer s H args us vs Q E hr he hb hv h => absurd h (no vs H Q E)⟩
theorem vm_str (T : Tx P K mg) : ∀ n, VM P w K mg base (3 * n + 1) "__str__" ["self"] (fun x => sp_pat_str n x K)
  | 0 => ⟨fun x hx => by
    rcases hx with rfl | rfl | rfl
    · exact ⟨T.c_Form, T.me_Form___str__, okv_Form_str T 0, bn_Form___str__ T⟩
    · exact ⟨T.c_Both, T.me_Both___str__, okv_void_str (.inl rfl), bn_Both_str T⟩
    · exact ⟨T.c_Either, T.me_Either___str__, okv_void_str (.inr rfl), bn_Either_str T⟩⟩
  | n + 1 => ⟨fun x hx => by
    have V := vm_str T n
    rcases hx with rfl | rfl | rfl
    · exact ⟨T.c_Form, T.me_Form___str__, okv_Form_str T (n + 1), bn_Form___str__ T⟩
    · exact ⟨T.c_Both, T.me_Both___str__, okv_Both_str T V, bn_Both_str T⟩
    · exact ⟨T.c_Either, T.me_Either___str__, okv_Either_str T V, bn_Either_str T⟩⟩
def sp_Pattern___eq__ (K : PySem.W.Frag) : Sp := fun vs H Q _ => ∃ (F : Hp) (v_self : V) (a_self : Pat) (v_other : V) (a_other : Pat) (r : Bool), vs = [v_self, v_other] ∧ Same F H ∧ qPat.r K F v_self a_self ∧ qPat.r K F v_other a_other ∧ m_Pattern___eq__ a_self a_other = some r ∧ ∀ v F' H', Sx P0 F H F' H' → qB.r K F' v r → Q v H'
theorem sc_Pattern___eq__ : FnScope ["self", "other"] ["self", "other"] (defScope s_Pattern___eq__) := ⟨rfl, rfl, rfl, by decide +kernel, rfl, by decide +kernel, by decide +kernel⟩
theorem bn_Pattern___eq__ (T : Tx P K mg) : Binds K (fdOf K ("Pattern", some "__eq__")) ["self", "other"] [] := FunD.bindsN T.F_Pattern___eq__ fun _ _ _ _ _ _ us hl => match us, hl with | [_, _], _ => rfl
theorem ok_Pattern___eq__ (T : Tx P K mg) : FnOk P w K mg base CX0 13 (He.fAd K ("Pattern", some "__eq__")) (fdOf K ("Pattern", some "__eq__")) ["self", "other"] (sp_Pattern___eq__ K) := by
  refine FunD.ok T.F_Pattern___eq__ sc_Pattern___eq__ (fun vs H0 Q E h => ?_) (fun cdv A outer s H0 vs Q E hr h => ?_)
  · obtain ⟨_, _, _, _, _, _, rfl, _⟩ := h
    rfl
  · obtain ⟨F0, v_self, a_self, v_other, a_other, r, rfl, hE, f_self, f_other, hm, hQ⟩ := h
    refine ⟨_, PSs.nox ((pss_one (ps_ret (pe_and (pe_callB (r := rIsi K) call_isi (by rfl) T.n_isinstance (by decide +kernel) (pa_cons (pv 1) (pa_cons (pe_glob (v := V.ref (He.ga K "Pattern")) (by rfl) T.gc_Pattern rfl) pa_nil))) (pe_one (pe_cmpR op_eqS (pe_callTy (r := rStrW P w K mg base 10) (cr_strW (hr.mono (by decide))) (by rfl) T.n_str (by decide +kernel) (pa_cons (pv 0) pa_nil)) (pe_callTy (r := rStrW P w K mg base 10) (cr_strW (hr.mono (by decide))) (by rfl) T.n_str (by decide +kernel) (pa_cons (pv 1) pa_nil)) (nomark _))))))), ?_⟩
    have S : Sx P0 F0 H0 F0 H0 := Sx.refl0 hE
    unfold m_Pattern___eq__ at hm
    refine rd_ret ?_
    refine rd_andV ?_
    refine rd_cb ?_
    refine rd_cons ?_
    refine rd_v rfl ?_
    refine rd_cons ?_
    refine rd_c ?_
    refine rd_nil ?_
    refine rd_isPat T.pf S f_other ?_
    refine rd_b ?_
    refine if_tt ?_
    refine rd_op ?_
    refine rd_cb ?_
    refine rd_cons ?_
    refine rd_v rfl ?_
    refine rd_nil ?_
    refine VM.strW (vm_str T 3) S f_self ?_
    obtain ⟨t1, e2, hm⟩ := bd_some hm
    refine ⟨F0, _, _, t1, rfl, S.sub, f_self, rfl, e2, fun v6 F3 H4 c5 f7 => ?_⟩
    have S8 := S.call0 c5
    have f_self := qPat.mono c5.le f_self
    have f_other := qPat.mono c5.le f_other
    cases (show v6 = (V.str (t1)) from f7)
    refine rd_stK ?_
    refine rd_cb ?_
    refine rd_cons ?_
    refine rd_v rfl ?_
    refine rd_nil ?_
    refine VM.strW (vm_str T 3) S8 f_other ?_
    obtain ⟨t9, e10, hm⟩ := bd_some hm
    refine ⟨F3, _, _, t9, rfl, S8.sub, f_other, rfl, e10, fun v14 F11 H12 c13 f15 => ?_⟩
    have S16 := S8.call0 c13
    have f_self := qPat.mono c13.le f_self
    have f_other := qPat.mono c13.le f_other
    cases (show v14 = (V.str (t9)) from f15)
    cases hm
    refine rd_stK ?_
    refine rd_S0 ?_
    exact hQ _ _ _ S16 rfl
def sp_Pattern___eq___v2 (K : PySem.W.Frag) : Sp := fun vs H Q _ => ∃ (F : Hp) (v_self : V) (a_self : Pat) (a_other : Str) (r : Bool), vs = [v_self, (V.str (a_other))] ∧ Same F H ∧ qPat.r K F v_self a_self ∧ m_Pattern___eq___v2 a_self a_other = some r ∧ ∀ v F' H', Sx P0 F H F' H' → qB.r K F' v r → Q v H'
theorem sc_Pattern___eq___v2 : FnScope ["self", "other"] ["self", "other"] (defScope s_Pattern___eq__) := ⟨rfl, rfl, rfl, by decide +kernel, rfl, by decide +kernel, by decide +kernel⟩
theorem bn_Pattern___eq___v2 (T : Tx P K mg) : Binds K (fdOf K ("Pattern", some "__eq__")) ["self", "other"] [] := FunD.bindsN T.F_Pattern___eq__ fun _ _ _ _ _ _ us hl => match us, hl with | [_, _], _ => rfl
theorem ok_Pattern___eq___v2 (T : Tx P K mg) : FnOk P w K mg base CX0 1 (He.fAd K ("Pattern", some "__eq__")) (fdOf K ("Pattern", some "__eq__")) ["self", "other"] (sp_Pattern___eq___v2 K) := by
  refine FunD.ok T.F_Pattern___eq__ sc_Pattern___eq___v2 (fun vs H0 Q E h => ?_) (fun cdv A outer s H0 vs Q E hr h => ?_)
  · obtain ⟨_, _, _, _, _, rfl, _⟩ := h
    rfl
  · obtain ⟨F0, v_self, a_self, a_other, r, rfl, hE, f_self, hm, hQ⟩ := h
    refine ⟨_, PSs.nox ((pss_one (ps_ret (pe_and (pe_callB (r := rIsi K) call_isi (by rfl) T.n_isinstance (by decide +kernel) (pa_cons (pv 1) (pa_cons (pe_glob (v := V.ref (He.ga K "Pattern")) (by rfl) T.gc_Pattern rfl) pa_nil))) (pe_one pe_dead))))), ?_⟩
    have S : Sx P0 F0 H0 F0 H0 := Sx.refl0 hE
    unfold m_Pattern___eq___v2 at hm
    cases hm
    refine rd_ret ?_
    refine rd_andV ?_
    refine rd_cb ?_
    refine rd_cons ?_
    refine rd_v rfl ?_
    refine rd_cons ?_
    refine rd_c ?_
    refine rd_nil ?_
    refine rd_isPatS T.pe ?_
    refine rd_b ?_
    refine if_ff ?_
    exact hQ _ _ _ S rfl
def sp_Form_forms (K : PySem.W.Frag) : Sp := fun vs H Q _ => ∃ (F : Hp) (v_self : V) (a_self : (List Str)) (r : (List (List Str))), vs = [v_self] ∧ Same F H ∧ qForm.r K F v_self a_self ∧ m_Form_forms a_self = some r ∧ ∀ v F' H', Sx P0 F H F' H' → (qL qForm).r K F' v r → Q v H'
theorem sc_Form_forms : FnScope ["self"] ["self"] (defScope s_Form_forms) := ⟨rfl, rfl, rfl, by decide +kernel, rfl, by decide +kernel, by decide +kernel⟩
theorem bn_Form_forms (T : Tx P K mg) : Binds K (fdOf K ("Form", some "forms")) ["self"] [] := FunD.bindsN T.F_Form_forms fun _ _ _ _ _ _ us hl => match us, hl with | [_], _ => rfl
theorem ok_Form_forms (T : Tx P K mg) : FnOk P w K mg base CX0 1 (He.fAd K ("Form", some "forms")) (fdOf K ("Form", some "forms")) ["self"] (sp_Form_forms K) := by
  refine FunD.ok T.F_Form_forms sc_Form_forms (fun vs H0 Q E h => ?_) (fun cdv A outer s H0 vs Q E hr h => ?_)
  · obtain ⟨_, _, _, _, rfl, _⟩ := h
    rfl
  · obtain ⟨F0, v_self, a_self, r, rfl, hE, f_self, hm, hQ⟩ := h
    refine ⟨_, PSs.nox ((pss_one (ps_ret (pe_lst (pa_cons (pv 0) pa_nil))))), ?_⟩
    have S : Sx P0 F0 H0 F0 H0 := Sx.refl0 hE
    unfold m_Form_forms at hm
    refine rd_ret ?_
    refine rd_lst ?_
    refine rd_cons ?_
    refine rd_v rfl ?_
    refine rd_nil ?_
    refine rd_lK rfl ?_
    refine alL (K := K) (A := qForm) (xs := [a_self]) S (.cons f_self .nil) (fun v1 F2 H3 c4 f5 => ?_)
    have S6 := S.call0 c4
    have f_self := qForm.mono c4.le f_self
    cases hm
    exact hQ _ _ _ S6 f5
theorem okv_Form_forms (T : Tx P K mg) (n : Nat) : FnOk P w K mg base CX0 (n + 1) (He.fAd K ("Form", some "forms")) (fdOf K ("Form", some "forms")) ["self"] (sp_pat_forms n "Form" K) := by
  refine ((ok_Form_forms T).mono (by omega)).imp fun vs H0 Q E h => ?_
  obtain ⟨F0, v, a, r, rfl, hE, f, hc, hm, hQ⟩ := h
  obtain ⟨h1, h2, h3⟩ := patN_some hm
  cases h3
  cases a with
    | both _ _ => exact absurd (show ("Both" : Str) = "Form" from hc) (by decide)
    | either _ _ => exact absurd (show ("Either" : Str) = "Form" from hc) (by decide)
    | form a =>
    exact ⟨F0, v, a, _, rfl, hE, f, rfl, hQ⟩
theorem sc_Both_forms : FnScope ["self"] ["self"] (defScope s_Both_forms) := ⟨rfl, rfl, rfl, by decide +kernel, rfl, by decide +kernel, by decide +kernel⟩
theorem bn_Both_forms (T : Tx P K mg) : Binds K (fdOf K ("Both", some "forms")) ["self"] [] := FunD.bindsN T.F_Both_forms fun _ _ _ _ _ _ us hl => match us, hl with | [_], _ => rfl
theorem okv_Both_forms (T : Tx P K mg) {n : Nat} (V : VM P w K mg base (n + 1) "forms" ["self"] (fun x => sp_pat_forms n x K)) : FnOk P w K mg base CX0 (n + 2) (He.fAd K ("Both", some "forms")) (fdOf K ("Both", some "forms")) ["self"] (sp_pat_forms (n + 1) "Both" K) := by
  refine FunD.ok T.F_Both_forms sc_Both_forms (fun vs H0 Q E h => ?_) (fun cdv A outer s H0 vs Q E hr h => ?_)
  · obtain ⟨_, _, _, _, rfl, _⟩ := h
    rfl
  · obtain ⟨F0, v, a, r, rfl, hE, f, hc, hm, hQ⟩ := h
    obtain ⟨h1, h2, h3⟩ := patN_some hm
    cases h3
    cases a with
    | form _ => exact absurd (show ("Form" : Str) = "Both" from hc) (by decide)
    | either _ _ => exact absurd (show ("Either" : Str) = "Both" from hc) (by decide)
    | both l r' =>
    obtain ⟨p, dx, u, w', rfl, e2, rl, rr⟩ := (show qPatR K F0 v (.both l r') from f)
    replace rl : qPat.r K F0 u l := rl
    replace rr : qPat.r K F0 w' r' := rr
    have hl : l.ht ≤ n ∧ r'.ht ≤ n := by
      have h1 : max l.ht r'.ht + 1 ≤ n + 1 := h1
      omega
    have hf : l.forms.length + r'.forms.length ≤ 16 := by
      have h2 : (l.forms ++ r'.forms).length ≤ 16 := h2
      rw [List.length_append] at h2
      exact h2
    refine ⟨_, PSs.nox (pss_one (ps_ret (pe_op op_cat (pe_methV0 (E := E0) (pe_fldK (pv 0) rfl)) (pe_methV0 (E := E0) (pe_fldK (pv 0) rfl))))), ?_⟩
    have S : Sx P0 F0 H0 F0 H0 := Sx.refl0 hE
    refine rd_ret ?_
    refine rd_op ?_
    refine rd_methV ?_
    refine rd_fld ?_
    refine rd_v rfl ?_
    refine fd_at (S.sub _ _ e2) T.c_Both T.na_Both_left (by rfl) ?_
    refine V.call (hr.mono (by omega)) S rl (kt := ?_)
    refine rd_nil ?_
    refine ⟨F0, _, _, _, rfl, S.sub, rl, rfl, patN_of hl.1 (by omega), fun v1 F1 H1 c1 f1 => ?_⟩
    have S1 := S.call0 c1
    have rr := qPat.mono c1.le rr
    refine rd_methV ?_
    refine rd_fld ?_
    refine rd_v rfl ?_
    refine fd_at (S1.sub _ _ (S1.le _ _ e2)) T.c_Both T.na_Both_right (by rfl) ?_
    refine V.call (hr.mono (by omega)) S1 rr (kt := ?_)
    refine rd_nil ?_
    refine ⟨F1, _, _, _, rfl, S1.sub, rr, rfl, patN_of hl.2 (by omega), fun v2 F2 H2 c2 f2 => ?_⟩
    have S2 := S1.call0 c2
    have f1 := (qL qForm).mono c2.le f1
    refine rd_cat (S2.l f1) (S2.l f2) (decide_eq_true (Nat.le_trans hf (by rw [sizeLine_eq]; decide))) ?_
    refine alL' S2 (fun v3 F3 H3 c3 f3 => ?_)
    exact hQ _ _ _ (S2.call0 c3) f3
theorem sc_Either_forms : FnScope ["self"] ["self"] (defScope s_Either_forms) := ⟨rfl, rfl, rfl, by decide +kernel, rfl, by decide +kernel, by decide +kernel⟩
theorem bn_Either_forms (T : Tx P K mg) : Binds K (fdOf K ("Either", some "forms")) ["self"] [] := FunD.bindsN T.F_Either_forms fun _ _ _ _ _ _ us hl => match us, hl with | [_], _ => rfl
theorem okv_Either_forms (T : Tx P K mg) {n : Nat} (V : VM P w K mg base (n + 1) "forms" ["self"] (fun x => sp_pat_forms n x K)) : FnOk P w K mg base CX0 (n + 2) (He.fAd K ("Either", some "forms")) (fdOf K ("Either", some "forms")) ["self"] (sp_pat_forms (n + 1) "Either" K) := by
  refine FunD.ok T.F_Either_forms sc_Either_forms (fun vs H0 Q E h => ?_) (fun cdv A outer s H0 vs Q E hr h => ?_)
  · obtain ⟨_, _, _, _, rfl, _⟩ := h
    rfl
  · obtain ⟨F0, v, a, r, rfl, hE, f, hc, hm, hQ⟩ := h
    obtain ⟨h1, h2, h3⟩ := patN_some hm
    cases h3
    cases a with
    | form _ => exact absurd (show ("Form" : Str) = "Either" from hc) (by decide)
    | both _ _ => exact absurd (show ("Both" : Str) = "Either" from hc) (by decide)
    | either l r' =>
    obtain ⟨p, dx, u, w', rfl, e2, rl, rr⟩ := (show qPatR K F0 v (.either l r') from f)
    replace rl : qPat.r K F0 u l := rl
    replace rr : qPat.r K F0 w' r' := rr
    have hl : l.ht ≤ n ∧ r'.ht ≤ n := by
      have h1 : max l.ht r'.ht + 1 ≤ n + 1 := h1
      omega
    have hf : l.forms.length + r'.forms.length ≤ 16 := by
      have h2 : (l.forms ++ r'.forms).length ≤ 16 := h2
      rw [List.length_append] at h2
      exact h2
    refine ⟨_, PSs.nox (pss_one (ps_ret (pe_op op_cat (pe_methV0 (E := E0) (pe_fldK (pv 0) rfl)) (pe_methV0 (E := E0) (pe_fldK (pv 0) rfl))))), ?_⟩
    have S : Sx P0 F0 H0 F0 H0 := Sx.refl0 hE
    refine rd_ret ?_
    refine rd_op ?_
    refine rd_methV ?_
    refine rd_fld ?_
    refine rd_v rfl ?_
    refine fd_at (S.sub _ _ e2) T.c_Either T.na_Either_left (by rfl) ?_
    refine V.call (hr.mono (by omega)) S rl (kt := ?_)
    refine rd_nil ?_
    refine ⟨F0, _, _, _, rfl, S.sub, rl, rfl, patN_of hl.1 (by omega), fun v1 F1 H1 c1 f1 => ?_⟩
    have S1 := S.call0 c1
    have rr := qPat.mono c1.le rr
    refine rd_methV ?_
    refine rd_fld ?_
    refine rd_v rfl ?_
    refine fd_at (S1.sub _ _ (S1.le _ _ e2)) T.c_Either T.na_Either_right (by rfl) ?_
    refine V.call (hr.mono (by omega)) S1 rr (kt := ?_)
    refine rd_nil ?_
    refine ⟨F1, _, _, _, rfl, S1.sub, rr, rfl, patN_of hl.2 (by omega), fun v2 F2 H2 c2 f2 => ?_⟩
    have S2 := S1.call0 c2
    have f1 := (qL qForm).mono c2.le f1
    refine rd_cat (S2.l f1) (S2.l f2) (decide_eq_true (Nat.le_trans hf (by rw [sizeLine_eq]; decide))) ?_
    refine alL' S2 (fun v3 F3 H3 c3 f3 => ?_)
    exact hQ _ _ _ (S2.call0 c3) f3
theorem okv_void_forms {C : Str} (hC : C = "Both" ∨ C = "Either") : FnOk P w K mg base CX0 1 (He.fAd K (C, some "forms")) (fdOf K (C, some "forms")) ["self"] (sp_pat_forms 0 C K) := by
  have no : ∀ vs H Q E, ¬ sp_pat_forms 0 C K vs H Q E := by
    intro vs H Q E h
    obtain ⟨_, _, a, _, _, _, _, hc, hm, _⟩ := h
    obtain ⟨h1, _, _⟩ := patN_some hm
    cases a with
    | form _ =>
      subst hc
      rcases hC with h | h
      · exact absurd (show ("Form" : Str) = "Both" from h) (by decide)
      · exact absurd (show ("Form" : Str) = "Either" from h) (by decide)
    | both l r => exact absurd (show max l.ht r.ht + 1 ≤ 0 from h1) (by omega)
    | either l r => exact absurd (show max l.ht r.ht + 1 ≤ 0 from h1) (by omega)
  exact ⟨fun vs H Q E h => absurd h (no vs H Q E), fun A outer s H args us vs Q E hr he hb hv h => absurd h (no vs H Q E)⟩
theorem vm_forms (T : Tx P K mg) : ∀ n, VM P w K mg base (n + 1) "forms" ["self"] (fun x => sp_pat_forms n x K)
  | 0 => ⟨fun x hx => by
    rcases hx with rfl | rfl | rfl
    · exact ⟨T.c_Form, T.me_Form_forms, okv_Form_forms T 0, bn_Form_forms T⟩
    · exact ⟨T.c_Both, T.me_Both_forms, okv_void_forms (.inl rfl), bn_Both_forms T⟩
    · exact ⟨T.c_Either, T.me_Either_forms, okv_void_forms (.inr rfl), bn_Either_forms T⟩⟩
  | n + 1 => ⟨fun x hx => by
    have V := vm_forms T n
    rcases hx with rfl | rfl | rfl
    · exact ⟨T.c_Form, T.me_Form_forms, okv_Form_forms T (n + 1), bn_Form_forms T⟩
    · exact ⟨T.c_Both, T.me_Both_forms, okv_Both_forms T V, bn_Both_forms T⟩
    · exact ⟨T.c_Either, T.me_Either_forms, okv_Either_forms T V, bn_Either_forms T⟩⟩
def sp_Either___init__ (K : PySem.W.Frag) : Sp := fun vs H Q _ => ∃ (F : Hp) (p_self : Addr) (dx : Addr) (v_one : V) (a_one : Pat) (v_other : V) (a_other : Pat) (r : (Pat × Pat)), vs = [.ref p_self, v_one, v_other] ∧ Same F H ∧ Ow (fun a => a = p_self) H F H p_self (.ins (He.ga K "Either") dx []) ∧ qPat.r K F v_one a_one ∧ qPat.r K F v_other a_other ∧ m_Either___init__ a_one a_other = some r ∧ ∀ (F' H' : Hp) (u0 u1 : V), Sx (fun a => a = p_self) F H F' H' → Ow (fun a => a = p_self) H F' H' p_self (.ins (He.ga K "Either") dx [("left", u0), ("right", u1)]) → qPat.r K F' u0 r.1 → qPat.r K F' u1 r.2 → Q .non H'
theorem sc_Either___init__ : FnScope ["self", "one", "other"] ["self", "one", "other"] (defScope s_Either___init__) := ⟨rfl, rfl, rfl, by decide +kernel, rfl, by decide +kernel, by decide +kernel⟩
theorem bn_Either___init__ (T : Tx P K mg) : Binds K (fdOf K ("Either", some "__init__")) ["self", "one", "other"] [] := FunD.bindsN T.F_Either___init__ fun _ _ _ _ _ _ us hl => match us, hl with | [_, _, _], _ => rfl
theorem ok_Either___init__ (T : Tx P K mg) : FnOk P w K mg base CX0 5 (He.fAd K ("Either", some "__init__")) (fdOf K ("Either", some "__init__")) ["self", "one", "other"] (sp_Either___init__ K) := by
  refine FunD.ok T.F_Either___init__ sc_Either___init__ (fun vs H0 Q E h => ?_) (fun cdv A outer s H0 vs Q E hr h => ?_)
  · obtain ⟨_, _, _, _, _, _, _, _, rfl, _⟩ := h
    rfl
  · obtain ⟨F0, p_self, dx, v_one, a_one, v_other, a_other, r, rfl, hE, w_self, f_one, f_other, hm, hQ⟩ := h
    refine ⟨_, PSs.nox ((pss_cons (ps_if (pt_cmpR op_gt (pe_op op_add (pe_callB (r := rLenQ K) cr_lenQ (by rfl) T.n_len (by decide +kernel) (pa_cons (pe_methV0 (E := E0) (pv 1)) pa_nil)) (pe_callB (r := rLenQ K) cr_lenQ (by rfl) T.n_len (by decide +kernel) (pa_cons (pe_methV0 (E := E0) (pv 2)) pa_nil))) (pe_glob (v := V.int 3) (by rfl) (T.k_MOST_FORMS.choose_spec) ⟨_, rfl⟩) (nomark _)) (pss_one ps_dead) pss_nil) (pss_cons (ps_fld (pv 0) (pv 1) rfl) (pss_one (ps_fld (pv 0) (pv 2) rfl))))), ?_⟩
    have S : Sx (fun a => a = p_self) F0 H0 F0 H0 := Sx.refl hE (live1 w_self)
    unfold m_Either___init__ at hm
    refine rd_seq ?_
    refine rd_ifS ?_
    refine rd_test ?_
    refine rd_op ?_
    refine rd_op ?_
    refine rd_cb ?_
    refine rd_cons ?_
    refine rd_methV ?_
    refine rd_v rfl ?_
    refine VM.call (vm_forms T 3) (hr.mono (by decide)) S f_one ?_
    obtain ⟨t1, e2, hm⟩ := bd_some hm
    refine rd_nil ?_
    refine ⟨F0, _, _, t1, rfl, S.sub, f_one, rfl, e2, fun v6 F3 H4 c5 f7 => ?_⟩
    have S8 := S.call0 c5
    have f_one := qPat.mono c5.le f_one
    have f_other := qPat.mono c5.le f_other
    have w_self := w_self.call0 c5
    refine rd_nil ?_
    refine rd_lenQ (S8.l f7).r.q ?_
    refine rd_cb ?_
    refine rd_cons ?_
    refine rd_methV ?_
    refine rd_v rfl ?_
    refine VM.call (vm_forms T 3) (hr.mono (by decide)) S8 f_other ?_
    obtain ⟨t9, e10, hm⟩ := bd_some hm
    refine rd_nil ?_
    refine ⟨F3, _, _, t9, rfl, S8.sub, f_other, rfl, e10, fun v14 F11 H12 c13 f15 => ?_⟩
    have S16 := S8.call0 c13
    have f_one := qPat.mono c13.le f_one
    have f_other := qPat.mono c13.le f_other
    have w_self := w_self.call0 c13
    refine rd_nil ?_
    refine rd_lenQ (S16.l f15).r.q ?_
    refine rd_I0 ?_
    refine rd_c ?_
    refine rd_I0 ?_
    refine rd_b ?_
    refine if_b hm (fun b17 hm => ?_) (fun b17 hm => ?_)
    · skip
      cases hm
    · skip
      refine rd_next ?_
      refine rd_seq ?_
      refine rd_sfld ?_
      refine rd_v rfl ?_
      refine rd_v rfl ?_
      refine fset (fs' := [("left", v_one)]) S16 w_self T.c_Either T.na_Either_left (by rfl) (by rfl) (fun H18 c19 w20 => ?_)
      have f21 : qPat.r K F11 v_one a_one := f_one
      have S22 := S16.call1 c19 w_self
      have f_one := qPat.mono c19.le f_one
      have f_other := qPat.mono c19.le f_other
      have f21 := qPat.mono c19.le f21
      refine rd_sfld ?_
      refine rd_v rfl ?_
      refine rd_v rfl ?_
      refine fset (fs' := [("left", v_one), ("right", v_other)]) S22 w20 T.c_Either T.na_Either_right (by rfl) (by rfl) (fun H23 c24 w25 => ?_)
      have f26 : qPat.r K F11 v_other a_other := f_other
      have S27 := S22.call1 c24 w20
      have f_one := qPat.mono c24.le f_one
      have f_other := qPat.mono c24.le f_other
      have f21 := qPat.mono c24.le f21
      have f26 := qPat.mono c24.le f26
      cases hm
      exact hQ _ _ v_one v_other S27 w25 f21 f26
theorem new_Either {P0' : Addr → Prop} {F0 H0 F H : Hp} {Q : VK} {E : XK} {b0 : Pat} {v0 : V} {b1 : Pat} {v1 : V} {r : (Pat × Pat)} (S : Sx P0' F0 H0 F H) (f0 : qPat.r K F v0 b0) (f1 : qPat.r K F v1 b1) (hm : m_Either___init__ b0 b1 = some r) (k : ∀ v F' H', Sx P0 F H F' H' → qEither.r K F' v r → Q v H') : mkK (He.ga K "Either") (fun vs => sp_Either___init__ K (vs ++ [])) E Q [v0, v1] H := by
  refine mk_plain S fun x dx H1 hx c1 w => ?_
  refine ⟨F, x, dx, v0, b0, v1, b1, r, rfl, c1.sub, w, f0, f1, hm, fun F' H' u0 u1 c w' k0 k1 => ⟨rfl, ?_⟩⟩
  obtain ⟨F2, S2, le, h3⟩ := fzI c1 hx c w'
  exact k _ F2 H' S2 ⟨x, dx, u0, u1, rfl, h3, qPat.mono le k0, qPat.mono le k1⟩
def sp_Either___init___vx (K : PySem.W.Frag) : Sp := fun vs H Q E => ∃ (F : Hp) (p_self : Addr) (dx : Addr) (v_one : V) (a_one : Pat) (v_other : V) (a_other : Pat) (rr : (Except (Option Int) (Pat × Pat))), vs = [.ref p_self, v_one, v_other] ∧ Same F H ∧ Ow (fun a => a = p_self) H F H p_self (.ins (He.ga K "Either") dx []) ∧ qPat.r K F v_one a_one ∧ qPat.r K F v_other a_other ∧ m_Either___init___vx a_one a_other = some rr ∧ (∀ r, rr = .ok r → ∀ (F' H' : Hp) (u0 u1 : V), Sx (fun a => a = p_self) F H F' H' → Ow (fun a => a = p_self) H F' H' p_self (.ins (He.ga K "Either") dx [("left", u0), ("right", u1)]) → qPat.r K F' u0 r.1 → qPat.r K F' u1 r.2 → Q .non H') ∧ (∀ e cls d F' H', rr = .error e → Sx (fun a => a = p_self) F H F' H' → ErrAt K H' "NoForm" ["at"] [ovI e] cls d → E cls d H')
theorem sc_Either___init___vx : FnScope ["self", "one", "other"] ["self", "one", "other"] (defScope s_Either___init__) := ⟨rfl, rfl, rfl, by decide +kernel, rfl, by decide +kernel, by decide +kernel⟩
theorem bn_Either___init___vx (T : Tx P K mg) : Binds K (fdOf K ("Either", some "__init__")) ["self", "one", "other"] [] := FunD.bindsN T.F_Either___init__ fun _ _ _ _ _ _ us hl => match us, hl with | [_, _, _], _ => rfl
theorem ok_Either___init___vx (T : Tx P K mg) : FnOk P w K mg base (L2.CX P w) 5 (He.fAd K ("Either", some "__init__")) (fdOf K ("Either", some "__init__")) ["self", "one", "other"] (sp_Either___init___vx K) := by
  refine FunD.ok T.F_Either___init__ sc_Either___init___vx (fun vs H0 Q E h => ?_) (fun cdv A outer s H0 vs Q E hr h => ?_)
  · obtain ⟨_, _, _, _, _, _, _, _, rfl, _⟩ := h
    rfl
  · obtain ⟨F0, p_self, dx, v_one, a_one, v_other, a_other, rr, rfl, hE, w_self, f_one, f_other, hm, hQ, hX⟩ := h
    refine ⟨_, (pss_cons (ps_if (pt_cmpR op_gt (pe_op op_add (pe_callB (r := rLenQ K) cr_lenQ (by rfl) T.n_len (by decide +kernel) (pa_cons (pe_methV0 (E := E0) (pv 1)) pa_nil)) (pe_callB (r := rLenQ K) cr_lenQ (by rfl) T.n_len (by decide +kernel) (pa_cons (pe_methV0 (E := E0) (pv 2)) pa_nil))) (pe_glob (v := V.int 3) (by rfl) (T.k_MOST_FORMS.choose_spec) ⟨_, rfl⟩) (nomark _)) (pss_one (ps_rz (pmk_err (k := 0) T.er_NoForm.c is_NoForm T.er_NoForm.no T.er_NoForm.g T.er_NoForm.k (hr.mono (by decide)) (by rfl) (pa_cons (pe_glob (v := V.int 3) (by rfl) (T.k_MOST_FORMS.choose_spec) ⟨_, rfl⟩) pa_nil)))) pss_nil) (pss_cons (ps_fld (pv 0) (pv 1) rfl) (pss_one (ps_fld (pv 0) (pv 2) rfl)))), ?_⟩
    have S : Sx (fun a => a = p_self) F0 H0 F0 H0 := Sx.refl hE (live1 w_self)
    unfold m_Either___init___vx at hm
    refine rd_seq ?_
    refine rd_ifS ?_
    refine rd_test ?_
    refine rd_op ?_
    refine rd_op ?_
    refine rd_cb ?_
    refine rd_cons ?_
    refine rd_methV ?_
    refine rd_v rfl ?_
    refine VM.call (vm_forms T 3) (hr.mono (by decide)) S f_one ?_
    obtain ⟨t1, e2, hm⟩ := bd_some hm
    refine rd_nil ?_
    refine ⟨F0, _, _, t1, rfl, S.sub, f_one, rfl, e2, fun v6 F3 H4 c5 f7 => ?_⟩
    have S8 := S.call0 c5
    have f_one := qPat.mono c5.le f_one
    have f_other := qPat.mono c5.le f_other
    have w_self := w_self.call0 c5
    refine rd_nil ?_
    refine rd_lenQ (S8.l f7).r.q ?_
    refine rd_cb ?_
    refine rd_cons ?_
    refine rd_methV ?_
    refine rd_v rfl ?_
    refine VM.call (vm_forms T 3) (hr.mono (by decide)) S8 f_other ?_
    obtain ⟨t9, e10, hm⟩ := bd_some hm
    refine rd_nil ?_
    refine ⟨F3, _, _, t9, rfl, S8.sub, f_other, rfl, e10, fun v14 F11 H12 c13 f15 => ?_⟩
    have S16 := S8.call0 c13
    have f_one := qPat.mono c13.le f_one
    have f_other := qPat.mono c13.le f_other
    have w_self := w_self.call0 c13
    refine rd_nil ?_
    refine rd_lenQ (S16.l f15).r.q ?_
    refine rd_I0 ?_
    refine rd_c ?_
    refine rd_I0 ?_
    refine rd_b ?_
    refine if_b hm (fun b17 hm => ?_) (fun b17 hm => ?_)
    · skip
      cases hm
      refine rd_rz ?_
      refine rd_cons ?_
      refine rd_c ?_
      refine rd_nil ?_
      exact rd_eK (xs := [ovI (((some (3))) : (Option Int))]) S16 rfl rfl fun cls d H1 c er => hX _ _ _ _ _ rfl c er
    · skip
      refine rd_next ?_
      refine rd_seq ?_
      refine rd_sfld ?_
      refine rd_v rfl ?_
      refine rd_v rfl ?_
      refine fset (fs' := [("left", v_one)]) S16 w_self T.c_Either T.na_Either_left (by rfl) (by rfl) (fun H18 c19 w20 => ?_)
      have f21 : qPat.r K F11 v_one a_one := f_one
      have S22 := S16.call1 c19 w_self
      have f_one := qPat.mono c19.le f_one
      have f_other := qPat.mono c19.le f_other
      have f21 := qPat.mono c19.le f21
      refine rd_sfld ?_
      refine rd_v rfl ?_
      refine rd_v rfl ?_
      refine fset (fs' := [("left", v_one), ("right", v_other)]) S22 w20 T.c_Either T.na_Either_right (by rfl) (by rfl) (fun H23 c24 w25 => ?_)
      have f26 : qPat.r K F11 v_other a_other := f_other
      have S27 := S22.call1 c24 w20
      have f_one := qPat.mono c24.le f_one
      have f_other := qPat.mono c24.le f_other
      have f21 := qPat.mono c24.le f21
      have f26 := qPat.mono c24.le f26
      cases hm
      exact hQ _ rfl _ _ v_one v_other S27 w25 f21 f26
theorem newx_Either {P0' : Addr → Prop} {F0 H0 F H : Hp} {Q : VK} {E : XK} {b0 : Pat} {v0 : V} {b1 : Pat} {v1 : V} {rr : (Except (Option Int) (Pat × Pat))} (S : Sx P0' F0 H0 F H) (f0 : qPat.r K F v0 b0) (f1 : qPat.r K F v1 b1) (hm : m_Either___init___vx b0 b1 = some rr) (k : ∀ r, rr = .ok r → ∀ v F' H', Sx P0 F H F' H' → qEither.r K F' v r → Q v H') (kx : ∀ e cls d F' H', rr = .error e → Sx P0 F H F' H' → ErrAt K H' "NoForm" ["at"] [ovI e] cls d → E cls d H') : mkK (He.ga K "Either") (fun vs => sp_Either___init___vx K (vs ++ [])) E Q [v0, v1] H := by
  refine mk_plain S fun x dx H1 hx c1 w => ?_
  refine ⟨F, x, dx, v0, b0, v1, b1, rr, rfl, c1.sub, w, f0, f1, hm, fun r er F' H' u0 u1 c w' k0 k1 => ⟨rfl, ?_⟩, fun e cls d F' H' ee c ea => kx e cls d F' H' ee (c1.call c fun a z => .inr (by rw [z]; exact hx)) ea⟩
  obtain ⟨F2, S2, le, h3⟩ := fzI c1 hx c w'
  exact k r er _ F2 H' S2 ⟨x, dx, u0, u1, rfl, h3, qPat.mono le k0, qPat.mono le k1⟩
theorem newx_EitherS {P0' : Addr → Prop} {F0 H0 F H : Hp} {Q : VK} {E : XK} {b0 : Pat} {v0 : V} {b1 : Pat} {v1 : V} {rr : (Except (Option Int) (Pat × Pat))} (S : Sx P0' F0 H0 F H) (f0 : qPat.r K F v0 b0) (f1 : qPat.r K F v1 b1) (hm : m_Either___init___vx b0 b1 = some rr) (k : ∀ r, rr = .ok r → ∀ v F' H', Sx P0 F H F' H' → qEither.r K F' v r → Q v H') (kx : ∀ e cls d F' H', rr = .error e → Sx P0 F H F' H' → ErrAt K H' "NoForm" ["at"] [ovI e] cls d → E cls d H') : mkK (He.ga K "Either") (sp_Either___init___vx K) E Q [v0, v1] H := by
  refine mk_plain S fun x dx H1 hx c1 w => ?_
  refine ⟨F, x, dx, v0, b0, v1, b1, rr, rfl, c1.sub, w, f0, f1, hm, fun r er F' H' u0 u1 c w' k0 k1 => ⟨rfl, ?_⟩, fun e cls d F' H' ee c ea => kx e cls d F' H' ee (c1.call c fun a z => .inr (by rw [z]; exact hx)) ea⟩
  obtain ⟨F2, S2, le, h3⟩ := fzI c1 hx c w'
  exact k r er _ F2 H' S2 ⟨x, dx, u0, u1, rfl, h3, qPat.mono le k0, qPat.mono le k1⟩
def sp_Pattern___or__ (K : PySem.W.Frag) : Sp := fun vs H Q _ => ∃ (F : Hp) (v_self : V) (a_self : Pat) (v_other : V) (a_other : Pat) (r : Pat), vs = [v_self, v_other] ∧ Same F H ∧ qPat.r K F v_self a_self ∧ qPat.r K F v_other a_other ∧ m_Pattern___or__ a_self a_other = some r ∧ ∀ v F' H', Sx P0 F H F' H' → qPat.r K F' v r → Q v H'
theorem sc_Pattern___or__ : FnScope ["self", "other"] ["self", "other"] (defScope s_Pattern___or__) := ⟨rfl, rfl, rfl, by decide +kernel, rfl, by decide +kernel, by decide +kernel⟩
theorem bn_Pattern___or__ (T : Tx P K mg) : Binds K (fdOf K ("Pattern", some "__or__")) ["self", "other"] [] := FunD.bindsN T.F_Pattern___or__ fun _ _ _ _ _ _ us hl => match us, hl with | [_, _], _ => rfl
theorem ok_Pattern___or__ (T : Tx P K mg) : FnOk P w K mg base CX0 7 (He.fAd K ("Pattern", some "__or__")) (fdOf K ("Pattern", some "__or__")) ["self", "other"] (sp_Pattern___or__ K) := by
  refine FunD.ok T.F_Pattern___or__ sc_Pattern___or__ (fun vs H0 Q E h => ?_) (fun cdv A outer s H0 vs Q E hr h => ?_)
  · obtain ⟨_, _, _, _, _, _, rfl, _⟩ := h
    rfl
  · obtain ⟨F0, v_self, a_self, v_other, a_other, r, rfl, hE, f_self, f_other, hm, hQ⟩ := h
    refine ⟨_, PSs.nox ((pss_cons (ps_if (pt_not (pt_val (pe_callB (r := rIsi K) call_isi (by rfl) T.n_isinstance (by decide +kernel) (pa_cons (pv 1) (pa_cons (pe_glob (v := V.ref (He.ga K "Pattern")) (by rfl) T.gc_Pattern rfl) pa_nil))))) pss_dead pss_nil) (pss_one (ps_ret (pe_make T.mk_Either (ok_Either___init__ T) (hr.mono (by decide)) (by rfl) T.gc_Either (bn_Either___init__ T) .nil pass0 (pa_cons (pv 0) (pa_cons (pv 1) pa_nil))))))), ?_⟩
    have S : Sx P0 F0 H0 F0 H0 := Sx.refl0 hE
    unfold m_Pattern___or__ at hm
    obtain ⟨t1, e2, hm⟩ := bd_some hm
    refine rd_seq ?_
    refine rd_ifS ?_
    refine rd_not ?_
    refine rd_tB ?_
    refine rd_cb ?_
    refine rd_cons ?_
    refine rd_v rfl ?_
    refine rd_cons ?_
    refine rd_c ?_
    refine rd_nil ?_
    refine rd_isPat T.pf S f_other ?_
    refine rd_b ?_
    refine if_ff ?_
    refine rd_next ?_
    refine rd_ret ?_
    refine rd_make ?_
    refine rd_cons ?_
    refine rd_v rfl ?_
    refine rd_cons ?_
    refine rd_v rfl ?_
    refine rd_nil ?_
    refine new_Either S f_self f_other e2 (fun v3 F4 H5 c6 f7 => ?_)
    have S8 := S.call0 c6
    have f_self := qPat.mono c6.le f_self
    have f_other := qPat.mono c6.le f_other
    have f9 : qPat.r K F4 v3 (Pat.either (t1).1 (t1).2) := (show qPat.r K F4 v3 _ from f7)
    cases hm
    exact hQ _ _ _ S8 f9
def sp_Pattern___or___vx (K : PySem.W.Frag) : Sp := fun vs H Q E => ∃ (F : Hp) (v_self : V) (a_self : Pat) (v_other : V) (a_other : Pat) (rr : (Except (Option Int) Pat)), vs = [v_self, v_other] ∧ Same F H ∧ qPat.r K F v_self a_self ∧ qPat.r K F v_other a_other ∧ m_Pattern___or___vx a_self a_other = some rr ∧ (∀ r, rr = .ok r → ∀ v F' H', Sx P0 F H F' H' → qPat.r K F' v r → Q v H') ∧ (∀ e cls d F' H', rr = .error e → Sx P0 F H F' H' → ErrAt K H' "NoForm" ["at"] [ovI e] cls d → E cls d H')
theorem sc_Pattern___or___vx : FnScope ["self", "other"] ["self", "other"] (defScope s_Pattern___or__) := ⟨rfl, rfl, rfl, by decide +kernel, rfl, by decide +kernel, by decide +kernel⟩
theorem bn_Pattern___or___vx (T : Tx P K mg) : Binds K (fdOf K ("Pattern", some "__or__")) ["self", "other"] [] := FunD.bindsN T.F_Pattern___or__ fun _ _ _ _ _ _ us hl => match us, hl with | [_, _], _ => rfl
theorem ok_Pattern___or___vx (T : Tx P K mg) : FnOk P w K mg base (L2.CX P w) 7 (He.fAd K ("Pattern", some "__or__")) (fdOf K ("Pattern", some "__or__")) ["self", "other"] (sp_Pattern___or___vx K) := by
  refine FunD.ok T.F_Pattern___or__ sc_Pattern___or___vx (fun vs H0 Q E h => ?_) (fun cdv A outer s H0 vs Q E hr h => ?_)
  · obtain ⟨_, _, _, _, _, _, rfl, _⟩ := h
    rfl
  · obtain ⟨F0, v_self, a_self, v_other, a_other, rr, rfl, hE, f_self, f_other, hm, hQ, hX⟩ := h
    refine ⟨_, (pss_cons (ps_if (pt_not (pt_val (pe_callB (r := rIsi K) call_isi (by rfl) T.n_isinstance (by decide +kernel) (pa_cons (pv 1) (pa_cons (pe_glob (v := V.ref (He.ga K "Pattern")) (by rfl) T.gc_Pattern rfl) pa_nil))))) pss_dead pss_nil) (pss_one (ps_ret (pe_make T.mk_Either (ok_Either___init___vx T) (hr.mono (by decide)) (by rfl) T.gc_Either (bn_Either___init___vx T) .nil passes_cx (pa_cons (pv 0) (pa_cons (pv 1) pa_nil)))))), ?_⟩
    have S : Sx P0 F0 H0 F0 H0 := Sx.refl0 hE
    unfold m_Pattern___or___vx at hm
    obtain ⟨t1, e2, hm⟩ := bd_some hm
    refine rd_seq ?_
    refine rd_ifS ?_
    refine rd_not ?_
    refine rd_tB ?_
    refine rd_cb ?_
    refine rd_cons ?_
    refine rd_v rfl ?_
    refine rd_cons ?_
    refine rd_c ?_
    refine rd_nil ?_
    refine rd_isPat T.pf S f_other ?_
    refine rd_b ?_
    refine if_ff ?_
    refine rd_next ?_
    refine rd_ret ?_
    refine rd_make ?_
    refine rd_cons ?_
    refine rd_v rfl ?_
    refine rd_cons ?_
    refine rd_v rfl ?_
    refine rd_nil ?_
    refine newx_Either S f_self f_other e2 ?_ ?_
    rotate_left
    · skip
      intro x10 cls11 d12 F13 H14 ee15 c16 ea17
      exact hX _ _ _ _ _ (exB_err ee15 hm) (S.call0 c16) ea17
    intro t3 er4 v5 F6 H7 c8 f9
    subst er4
    have hm := exB_ok hm
    have S18 := S.call0 c8
    have f_self := qPat.mono c8.le f_self
    have f_other := qPat.mono c8.le f_other
    have f19 : qPat.r K F6 v5 (Pat.either (t3).1 (t3).2) := (show qPat.r K F6 v5 _ from f9)
    cases hm
    exact hQ _ rfl _ _ _ S18 f19
def sp_Both___init__ (K : PySem.W.Frag) : Sp := fun vs H Q _ => ∃ (F : Hp) (p_self : Addr) (dx : Addr) (v_one : V) (a_one : Pat) (v_other : V) (a_other : Pat) (r : (Pat × Pat)), vs = [.ref p_self, v_one, v_other] ∧ Same F H ∧ Ow (fun a => a = p_self) H F H p_self (.ins (He.ga K "Both") dx []) ∧ qPat.r K F v_one a_one ∧ qPat.r K F v_other a_other ∧ m_Both___init__ a_one a_other = some r ∧ ∀ (F' H' : Hp) (u0 u1 : V), Sx (fun a => a = p_self) F H F' H' → Ow (fun a => a = p_self) H F' H' p_self (.ins (He.ga K "Both") dx [("left", u0), ("right", u1)]) → qPat.r K F' u0 r.1 → qPat.r K F' u1 r.2 → Q .non H'
theorem sc_Both___init__ : FnScope ["self", "one", "other"] ["self", "one", "other"] (defScope s_Both___init__) := ⟨rfl, rfl, rfl, by decide +kernel, rfl, by decide +kernel, by decide +kernel⟩
theorem bn_Both___init__ (T : Tx P K mg) : Binds K (fdOf K ("Both", some "__init__")) ["self", "one", "other"] [] := FunD.bindsN T.F_Both___init__ fun _ _ _ _ _ _ us hl => match us, hl with | [_, _, _], _ => rfl
theorem ok_Both___init__ (T : Tx P K mg) : FnOk P w K mg base CX0 5 (He.fAd K ("Both", some "__init__")) (fdOf K ("Both", some "__init__")) ["self", "one", "other"] (sp_Both___init__ K) := by
  refine FunD.ok T.F_Both___init__ sc_Both___init__ (fun vs H0 Q E h => ?_) (fun cdv A outer s H0 vs Q E hr h => ?_)
  · obtain ⟨_, _, _, _, _, _, _, _, rfl, _⟩ := h
    rfl
  · obtain ⟨F0, p_self, dx, v_one, a_one, v_other, a_other, r, rfl, hE, w_self, f_one, f_other, hm, hQ⟩ := h
    refine ⟨_, PSs.nox ((pss_cons (ps_if (pt_cmpR op_gt (pe_op op_add (pe_callB (r := rLenQ K) cr_lenQ (by rfl) T.n_len (by decide +kernel) (pa_cons (pe_methV0 (E := E0) (pv 1)) pa_nil)) (pe_callB (r := rLenQ K) cr_lenQ (by rfl) T.n_len (by decide +kernel) (pa_cons (pe_methV0 (E := E0) (pv 2)) pa_nil))) (pe_glob (v := V.int 3) (by rfl) (T.k_MOST_FORMS.choose_spec) ⟨_, rfl⟩) (nomark _)) (pss_one ps_dead) pss_nil) (pss_cons (ps_fld (pv 0) (pv 1) rfl) (pss_one (ps_fld (pv 0) (pv 2) rfl))))), ?_⟩
    have S : Sx (fun a => a = p_self) F0 H0 F0 H0 := Sx.refl hE (live1 w_self)
    unfold m_Both___init__ at hm
    refine rd_seq ?_
    refine rd_ifS ?_
    refine rd_test ?_
    refine rd_op ?_
    refine rd_op ?_
    refine rd_cb ?_
    refine rd_cons ?_
    refine rd_methV ?_
    refine rd_v rfl ?_
    refine VM.call (vm_forms T 3) (hr.mono (by decide)) S f_one ?_
    obtain ⟨t1, e2, hm⟩ := bd_some hm
    refine rd_nil ?_
    refine ⟨F0, _, _, t1, rfl, S.sub, f_one, rfl, e2, fun v6 F3 H4 c5 f7 => ?_⟩
    have S8 := S.call0 c5
    have f_one := qPat.mono c5.le f_one
    have f_other := qPat.mono c5.le f_other
    have w_self := w_self.call0 c5
    refine rd_nil ?_
    refine rd_lenQ (S8.l f7).r.q ?_
    refine rd_cb ?_
    refine rd_cons ?_
    refine rd_methV ?_
    refine rd_v rfl ?_
    refine VM.call (vm_forms T 3) (hr.mono (by decide)) S8 f_other ?_
    obtain ⟨t9, e10, hm⟩ := bd_some hm
    refine rd_nil ?_
    refine ⟨F3, _, _, t9, rfl, S8.sub, f_other, rfl, e10, fun v14 F11 H12 c13 f15 => ?_⟩
    have S16 := S8.call0 c13
    have f_one := qPat.mono c13.le f_one
    have f_other := qPat.mono c13.le f_other
    have w_self := w_self.call0 c13
    refine rd_nil ?_
    refine rd_lenQ (S16.l f15).r.q ?_
    refine rd_I0 ?_
    refine rd_c ?_
    refine rd_I0 ?_
    refine rd_b ?_
    refine if_b hm (fun b17 hm => ?_) (fun b17 hm => ?_)
    · skip
      cases hm
    · skip
      refine rd_next ?_
      refine rd_seq ?_
      refine rd_sfld ?_
      refine rd_v rfl ?_
      refine rd_v rfl ?_
      refine fset (fs' := [("left", v_one)]) S16 w_self T.c_Both T.na_Both_left (by rfl) (by rfl) (fun H18 c19 w20 => ?_)
      have f21 : qPat.r K F11 v_one a_one := f_one
      have S22 := S16.call1 c19 w_self
      have f_one := qPat.mono c19.le f_one
      have f_other := qPat.mono c19.le f_other
      have f21 := qPat.mono c19.le f21
      refine rd_sfld ?_
      refine rd_v rfl ?_
      refine rd_v rfl ?_
      refine fset (fs' := [("left", v_one), ("right", v_other)]) S22 w20 T.c_Both T.na_Both_right (by rfl) (by rfl) (fun H23 c24 w25 => ?_)
      have f26 : qPat.r K F11 v_other a_other := f_other
      have S27 := S22.call1 c24 w20
      have f_one := qPat.mono c24.le f_one
      have f_other := qPat.mono c24.le f_other
      have f21 := qPat.mono c24.le f21
      have f26 := qPat.mono c24.le f26
      cases hm
      exact hQ _ _ v_one v_other S27 w25 f21 f26
theorem new_Both {P0' : Addr → Prop} {F0 H0 F H : Hp} {Q : VK} {E : XK} {b0 : Pat} {v0 : V} {b1 : Pat} {v1 : V} {r : (Pat × Pat)} (S : Sx P0' F0 H0 F H) (f0 : qPat.r K F v0 b0) (f1 : qPat.r K F v1 b1) (hm : m_Both___init__ b0 b1 = some r) (k : ∀ v F' H', Sx P0 F H F' H' → qBoth.r K F' v r → Q v H') : mkK (He.ga K "Both") (fun vs => sp_Both___init__ K (vs ++ [])) E Q [v0, v1] H := by
  refine mk_plain S fun x dx H1 hx c1 w => ?_
  refine ⟨F, x, dx, v0, b0, v1, b1, r, rfl, c1.sub, w, f0, f1, hm, fun F' H' u0 u1 c w' k0 k1 => ⟨rfl, ?_⟩⟩
  obtain ⟨F2, S2, le, h3⟩ := fzI c1 hx c w'
  exact k _ F2 H' S2 ⟨x, dx, u0, u1, rfl, h3, qPat.mono le k0, qPat.mono le k1⟩
def sp_Both___init___vx (K : PySem.W.Frag) : Sp := fun vs H Q E => ∃ (F : Hp) (p_self : Addr) (dx : Addr) (v_one : V) (a_one : Pat) (v_other : V) (a_other : Pat) (rr : (Except (Option Int) (Pat × Pat))), vs = [.ref p_self, v_one, v_other] ∧ Same F H ∧ Ow (fun a => a = p_self) H F H p_self (.ins (He.ga K "Both") dx []) ∧ qPat.r K F v_one a_one ∧ qPat.r K F v_other a_other ∧ m_Both___init___vx a_one a_other = some rr ∧ (∀ r, rr = .ok r → ∀ (F' H' : Hp) (u0 u1 : V), Sx (fun a => a = p_self) F H F' H' → Ow (fun a => a = p_self) H F' H' p_self (.ins (He.ga K "Both") dx [("left", u0), ("right", u1)]) → qPat.r K F' u0 r.1 → qPat.r K F' u1 r.2 → Q .non H') ∧ (∀ e cls d F' H', rr = .error e → Sx (fun a => a = p_self) F H F' H' → ErrAt K H' "NoForm" ["at"] [ovI e] cls d → E cls d H')
theorem sc_Both___init___vx : FnScope ["self", "one", "other"] ["self", "one", "other"] (defScope s_Both___init__) := ⟨rfl, rfl, rfl, by decide +kernel, rfl, by decide +kernel, by decide +kernel⟩
theorem bn_Both___init___vx (T : Tx P K mg) : Binds K (fdOf K ("Both", some "__init__")) ["self", "one", "other"] [] := FunD.bindsN T.F_Both___init__ fun _ _ _ _ _ _ us hl => match us, hl with | [_, _, _], _ => rfl
theorem ok_Both___init___vx (T : Tx P K mg) : FnOk P w K mg base (L2.CX P w) 5 (He.fAd K ("Both", some "__init__")) (fdOf K ("Both", some "__init__")) ["self", "one", "other"] (sp_Both___init___vx K) := by
  refine FunD.ok T.F_Both___init__ sc_Both___init___vx (fun vs H0 Q E h => ?_) (fun cdv A outer s H0 vs Q E hr h => ?_)
  · obtain ⟨_, _, _, _, _, _, _, _, rfl, _⟩ := h
    rfl
  · obtain ⟨F0, p_self, dx, v_one, a_one, v_other, a_other, rr, rfl, hE, w_self, f_one, f_other, hm, hQ, hX⟩ := h
    refine ⟨_, (pss_cons (ps_if (pt_cmpR op_gt (pe_op op_add (pe_callB (r := rLenQ K) cr_lenQ (by rfl) T.n_len (by decide +kernel) (pa_cons (pe_methV0 (E := E0) (pv 1)) pa_nil)) (pe_callB (r := rLenQ K) cr_lenQ (by rfl) T.n_len (by decide +kernel) (pa_cons (pe_methV0 (E := E0) (pv 2)) pa_nil))) (pe_glob (v := V.int 3) (by rfl) (T.k_MOST_FORMS.choose_spec) ⟨_, rfl⟩) (nomark _)) (pss_one (ps_rz (pmk_err (k := 0) T.er_NoForm.c is_NoForm T.er_NoForm.no T.er_NoForm.g T.er_NoForm.k (hr.mono (by decide)) (by rfl) (pa_cons (pe_glob (v := V.int 3) (by rfl) (T.k_MOST_FORMS.choose_spec) ⟨_, rfl⟩) pa_nil)))) pss_nil) (pss_cons (ps_fld (pv 0) (pv 1) rfl) (pss_one (ps_fld (pv 0) (pv 2) rfl)))), ?_⟩
    have S : Sx (fun a => a = p_self) F0 H0 F0 H0 := Sx.refl hE (live1 w_self)
    unfold m_Both___init___vx at hm
    refine rd_seq ?_
    refine rd_ifS ?_
    refine rd_test ?_
    refine rd_op ?_
    refine rd_op ?_
    refine rd_cb ?_
    refine rd_cons ?_
    refine rd_methV ?_
    refine rd_v rfl ?_
    refine VM.call (vm_forms T 3) (hr.mono (by decide)) S f_one ?_
    obtain ⟨t1, e2, hm⟩ := bd_some hm
    refine rd_nil ?_
    refine ⟨F0, _, _, t1, rfl, S.sub, f_one, rfl, e2, fun v6 F3 H4 c5 f7 => ?_⟩
    have S8 := S.call0 c5
    have f_one := qPat.mono c5.le f_one
    have f_other := qPat.mono c5.le f_other
    have w_self := w_self.call0 c5
    refine rd_nil ?_
    refine rd_lenQ (S8.l f7).r.q ?_
    refine rd_cb ?_
    refine rd_cons ?_
    refine rd_methV ?_
    refine rd_v rfl ?_
    refine VM.call (vm_forms T 3) (hr.mono (by decide)) S8 f_other ?_
    obtain ⟨t9, e10, hm⟩ := bd_some hm
    refine rd_nil ?_
    refine ⟨F3, _, _, t9, rfl, S8.sub, f_other, rfl, e10, fun v14 F11 H12 c13 f15 => ?_⟩
    have S16 := S8.call0 c13
    have f_one := qPat.mono c13.le f_one
    have f_other := qPat.mono c13.le f_other
    have w_self := w_self.call0 c13
    refine rd_nil ?_
    refine rd_lenQ (S16.l f15).r.q ?_
    refine rd_I0 ?_
    refine rd_c ?_
    refine rd_I0 ?_
    refine rd_b ?_
    refine if_b hm (fun b17 hm => ?_) (fun b17 hm => ?_)
    · skip
      cases hm
      refine rd_rz ?_
      refine rd_cons ?_
      refine rd_c ?_
      refine rd_nil ?_
      exact rd_eK (xs := [ovI (((some (3))) : (Option Int))]) S16 rfl rfl fun cls d H1 c er => hX _ _ _ _ _ rfl c er
    · skip
      refine rd_next ?_
      refine rd_seq ?_
      refine rd_sfld ?_
      refine rd_v rfl ?_
      refine rd_v rfl ?_
      refine fset (fs' := [("left", v_one)]) S16 w_self T.c_Both T.na_Both_left (by rfl) (by rfl) (fun H18 c19 w20 => ?_)
      have f21 : qPat.r K F11 v_one a_one := f_one
      have S22 := S16.call1 c19 w_self
      have f_one := qPat.mono c19.le f_one
      have f_other := qPat.mono c19.le f_other
      have f21 := qPat.mono c19.le f21
      refine rd_sfld ?_
      refine rd_v rfl ?_
      refine rd_v rfl ?_
      refine fset (fs' := [("left", v_one), ("right", v_other)]) S22 w20 T.c_Both T.na_Both_right (by rfl) (by rfl) (fun H23 c24 w25 => ?_)
      have f26 : qPat.r K F11 v_other a_other := f_other
      have S27 := S22.call1 c24 w20
      have f_one := qPat.mono c24.le f_one
      have f_other := qPat.mono c24.le f_other
      have f21 := qPat.mono c24.le f21
      have f26 := qPat.mono c24.le f26
      cases hm
      exact hQ _ rfl _ _ v_one v_other S27 w25 f21 f26
theorem newx_Both {P0' : Addr → Prop} {F0 H0 F H : Hp} {Q : VK} {E : XK} {b0 : Pat} {v0 : V} {b1 : Pat} {v1 : V} {rr : (Except (Option Int) (Pat × Pat))} (S : Sx P0' F0 H0 F H) (f0 : qPat.r K F v0 b0) (f1 : qPat.r K F v1 b1) (hm : m_Both___init___vx b0 b1 = some rr) (k : ∀ r, rr = .ok r → ∀ v F' H', Sx P0 F H F' H' → qBoth.r K F' v r → Q v H') (kx : ∀ e cls d F' H', rr = .error e → Sx P0 F H F' H' → ErrAt K H' "NoForm" ["at"] [ovI e] cls d → E cls d H') : mkK (He.ga K "Both") (fun vs => sp_Both___init___vx K (vs ++ [])) E Q [v0, v1] H := by
  refine mk_plain S fun x dx H1 hx c1 w => ?_
  refine ⟨F, x, dx, v0, b0, v1, b1, rr, rfl, c1.sub, w, f0, f1, hm, fun r er F' H' u0 u1 c w' k0 k1 => ⟨rfl, ?_⟩, fun e cls d F' H' ee c ea => kx e cls d F' H' ee (c1.call c fun a z => .inr (by rw [z]; exact hx)) ea⟩
  obtain ⟨F2, S2, le, h3⟩ := fzI c1 hx c w'
  exact k r er _ F2 H' S2 ⟨x, dx, u0, u1, rfl, h3, qPat.mono le k0, qPat.mono le k1⟩
theorem newx_BothS {P0' : Addr → Prop} {F0 H0 F H : Hp} {Q : VK} {E : XK} {b0 : Pat} {v0 : V} {b1 : Pat} {v1 : V} {rr : (Except (Option Int) (Pat × Pat))} (S : Sx P0' F0 H0 F H) (f0 : qPat.r K F v0 b0) (f1 : qPat.r K F v1 b1) (hm : m_Both___init___vx b0 b1 = some rr) (k : ∀ r, rr = .ok r → ∀ v F' H', Sx P0 F H F' H' → qBoth.r K F' v r → Q v H') (kx : ∀ e cls d F' H', rr = .error e → Sx P0 F H F' H' → ErrAt K H' "NoForm" ["at"] [ovI e] cls d → E cls d H') : mkK (He.ga K "Both") (sp_Both___init___vx K) E Q [v0, v1] H := by
  refine mk_plain S fun x dx H1 hx c1 w => ?_
  refine ⟨F, x, dx, v0, b0, v1, b1, rr, rfl, c1.sub, w, f0, f1, hm, fun r er F' H' u0 u1 c w' k0 k1 => ⟨rfl, ?_⟩, fun e cls d F' H' ee c ea => kx e cls d F' H' ee (c1.call c fun a z => .inr (by rw [z]; exact hx)) ea⟩
  obtain ⟨F2, S2, le, h3⟩ := fzI c1 hx c w'
  exact k r er _ F2 H' S2 ⟨x, dx, u0, u1, rfl, h3, qPat.mono le k0, qPat.mono le k1⟩
def sp_Pattern___and__ (K : PySem.W.Frag) : Sp := fun vs H Q _ => ∃ (F : Hp) (v_self : V) (a_self : Pat) (v_other : V) (a_other : Pat) (r : Pat), vs = [v_self, v_other] ∧ Same F H ∧ qPat.r K F v_self a_self ∧ qPat.r K F v_other a_other ∧ m_Pattern___and__ a_self a_other = some r ∧ ∀ v F' H', Sx P0 F H F' H' → qPat.r K F' v r → Q v H'
theorem sc_Pattern___and__ : FnScope ["self", "other"] ["self", "other"] (defScope s_Pattern___and__) := ⟨rfl, rfl, rfl, by decide +kernel, rfl, by decide +kernel, by decide +kernel⟩
theorem bn_Pattern___and__ (T : Tx P K mg) : Binds K (fdOf K ("Pattern", some "__and__")) ["self", "other"] [] := FunD.bindsN T.F_Pattern___and__ fun _ _ _ _ _ _ us hl => match us, hl with | [_, _], _ => rfl
theorem ok_Pattern___and__ (T : Tx P K mg) : FnOk P w K mg base CX0 7 (He.fAd K ("Pattern", some "__and__")) (fdOf K ("Pattern", some "__and__")) ["self", "other"] (sp_Pattern___and__ K) := by
  refine FunD.ok T.F_Pattern___and__ sc_Pattern___and__ (fun vs H0 Q E h => ?_) (fun cdv A outer s H0 vs Q E hr h => ?_)
  · obtain ⟨_, _, _, _, _, _, rfl, _⟩ := h
    rfl
  · obtain ⟨F0, v_self, a_self, v_other, a_other, r, rfl, hE, f_self, f_other, hm, hQ⟩ := h
    refine ⟨_, PSs.nox ((pss_cons (ps_if (pt_not (pt_val (pe_callB (r := rIsi K) call_isi (by rfl) T.n_isinstance (by decide +kernel) (pa_cons (pv 1) (pa_cons (pe_glob (v := V.ref (He.ga K "Pattern")) (by rfl) T.gc_Pattern rfl) pa_nil))))) pss_dead pss_nil) (pss_one (ps_ret (pe_make T.mk_Both (ok_Both___init__ T) (hr.mono (by decide)) (by rfl) T.gc_Both (bn_Both___init__ T) .nil pass0 (pa_cons (pv 0) (pa_cons (pv 1) pa_nil))))))), ?_⟩
    have S : Sx P0 F0 H0 F0 H0 := Sx.refl0 hE
    unfold m_Pattern___and__ at hm
    obtain ⟨t1, e2, hm⟩ := bd_some hm
    refine rd_seq ?_
    refine rd_ifS ?_
    refine rd_not ?_
    refine rd_tB ?_
    refine rd_cb ?_
    refine rd_cons ?_
    refine rd_v rfl ?_
    refine rd_cons ?_
    refine rd_c ?_
    refine rd_nil ?_
    refine rd_isPat T.pf S f_other ?_
    refine rd_b ?_
    refine if_ff ?_
    refine rd_next ?_
    refine rd_ret ?_
    refine rd_make ?_
    refine rd_cons ?_
    refine rd_v rfl ?_
    refine rd_cons ?_
    refine rd_v rfl ?_
    refine rd_nil ?_
    refine new_Both S f_self f_other e2 (fun v3 F4 H5 c6 f7 => ?_)
    have S8 := S.call0 c6
    have f_self := qPat.mono c6.le f_self
    have f_other := qPat.mono c6.le f_other
    have f9 : qPat.r K F4 v3 (Pat.both (t1).1 (t1).2) := (show qPat.r K F4 v3 _ from f7)
    cases hm
    exact hQ _ _ _ S8 f9
def sp_Pattern___and___vx (K : PySem.W.Frag) : Sp := fun vs H Q E => ∃ (F : Hp) (v_self : V) (a_self : Pat) (v_other : V) (a_other : Pat) (rr : (Except (Option Int) Pat)), vs = [v_self, v_other] ∧ Same F H ∧ qPat.r K F v_self a_self ∧ qPat.r K F v_other a_other ∧ m_Pattern___and___vx a_self a_other = some rr ∧ (∀ r, rr = .ok r → ∀ v F' H', Sx P0 F H F' H' → qPat.r K F' v r → Q v H') ∧ (∀ e cls d F' H', rr = .error e → Sx P0 F H F' H' → ErrAt K H' "NoForm" ["at"] [ovI e] cls d → E cls d H')
theorem sc_Pattern___and___vx : FnScope ["self", "other"] ["self", "other"] (defScope s_Pattern___and__) := ⟨rfl, rfl, rfl, by decide +kernel, rfl, by decide +kernel, by decide +kernel⟩
theorem bn_Pattern___and___vx (T : Tx P K mg) : Binds K (fdOf K ("Pattern", some "__and__")) ["self", "other"] [] := FunD.bindsN T.F_Pattern___and__ fun _ _ _ _ _ _ us hl => match us, hl with | [_, _], _ => rfl
theorem ok_Pattern___and___vx (T : Tx P K mg) : FnOk P w K mg base (L2.CX P w) 7 (He.fAd K ("Pattern", some "__and__")) (fdOf K ("Pattern", some "__and__")) ["self", "other"] (sp_Pattern___and___vx K) := by
  refine FunD.ok T.F_Pattern___and__ sc_Pattern___and___vx (fun vs H0 Q E h => ?_) (fun cdv A outer s H0 vs Q E hr h => ?_)
  · obtain ⟨_, _, _, _, _, _, rfl, _⟩ := h
    rfl
  · obtain ⟨F0, v_self, a_self, v_other, a_other, rr, rfl, hE, f_self, f_other, hm, hQ, hX⟩ := h
    refine ⟨_, (pss_cons (ps_if (pt_not (pt_val (pe_callB (r := rIsi K) call_isi (by rfl) T.n_isinstance (by decide +kernel) (pa_cons (pv 1) (pa_cons (pe_glob (v := V.ref (He.ga K "Pattern")) (by rfl) T.gc_Pattern rfl) pa_nil))))) pss_dead pss_nil) (pss_one (ps_ret (pe_make T.mk_Both (ok_Both___init___vx T) (hr.mono (by decide)) (by rfl) T.gc_Both (bn_Both___init___vx T) .nil passes_cx (pa_cons (pv 0) (pa_cons (pv 1) pa_nil)))))), ?_⟩
    have S : Sx P0 F0 H0 F0 H0 := Sx.refl0 hE
    unfold m_Pattern___and___vx at hm
    obtain ⟨t1, e2, hm⟩ := bd_some hm
    refine rd_seq ?_
    refine rd_ifS ?_
    refine rd_not ?_
    refine rd_tB ?_
    refine rd_cb ?_
    refine rd_cons ?_
    refine rd_v rfl ?_
    refine rd_cons ?_
    refine rd_c ?_
    refine rd_nil ?_
    refine rd_isPat T.pf S f_other ?_
    refine rd_b ?_
    refine if_ff ?_
    refine rd_next ?_
    refine rd_ret ?_
    refine rd_make ?_
    refine rd_cons ?_
    refine rd_v rfl ?_
    refine rd_cons ?_
    refine rd_v rfl ?_
    refine rd_nil ?_
    refine newx_Both S f_self f_other e2 ?_ ?_
    rotate_left
    · skip
      intro x10 cls11 d12 F13 H14 ee15 c16 ea17
      exact hX _ _ _ _ _ (exB_err ee15 hm) (S.call0 c16) ea17
    intro t3 er4 v5 F6 H7 c8 f9
    subst er4
    have hm := exB_ok hm
    have S18 := S.call0 c8
    have f_self := qPat.mono c8.le f_self
    have f_other := qPat.mono c8.le f_other
    have f19 : qPat.r K F6 v5 (Pat.both (t3).1 (t3).2) := (show qPat.r K F6 v5 _ from f9)
    cases hm
    exact hQ _ rfl _ _ _ S18 f19
def sp_law_built (n : Nat) (K : PySem.W.Frag) : Sp := fun vs H Q _ => ∃ (F : Hp) (v__law_shape_here : V) (a__law_shape_here : Shp) (v__law_forms : V) (a__law_forms : (List (List Str))) (r : Pat), vs = [v__law_shape_here, v__law_forms] ∧ Same F H ∧ qSh.r K F v__law_shape_here a__law_shape_here ∧ (qL qForm).r K F v__law_forms a__law_forms ∧ m_law_built n a__law_shape_here a__law_forms = some r ∧ ∀ v F' H', Sx P0 F H F' H' → qPat.r K F' v r → Q v H'
theorem sc_law_built : FnScope ["_law_shape_here", "_law_forms", "_law_one", "_law_other"] ["_law_shape_here", "_law_forms"] (defScope s_law_built) := ⟨rfl, rfl, rfl, by decide +kernel, rfl, by decide +kernel, by decide +kernel⟩
theorem bn_law_built (T : Tx P K mg) : Binds K (fdOf K ("_law_built", none)) ["_law_shape_here", "_law_forms"] [] := FunD.bindsN T.F_law_built fun _ _ _ _ _ _ us hl => match us, hl with | [_, _], _ => rfl
theorem ok_law_built (T : Tx P K mg) : ∀ n : Nat, FnOk P w K mg base CX0 (n + 7 + 1) (He.ga K "_law_built") (fdOf K ("_law_built", none)) ["_law_shape_here", "_law_forms"] (sp_law_built n K) := by
  intro n
  induction n with
  | zero =>
    refine FunD.ok T.F_law_built sc_law_built (fun vs H0 Q E h => ?_) (fun cdv A outer s H0 vs Q E hr h => ?_)
    · obtain ⟨_, _, _, _, _, _, rfl, _⟩ := h
      rfl
    · obtain ⟨F0, v__law_shape_here, a__law_shape_here, v__law_forms, a__law_forms, r, rfl, hE, f__law_shape_here, f__law_forms, hm, hQ⟩ := h
      unfold m_law_built at hm
      cases hm
  | succ n ih =>
    refine FunD.ok T.F_law_built sc_law_built (fun vs H0 Q E h => ?_) (fun cdv A outer s H0 vs Q E hr h => ?_)
    · obtain ⟨_, _, _, _, _, _, rfl, _⟩ := h
      rfl
    · obtain ⟨F0, v__law_shape_here, a__law_shape_here, v__law_forms, a__law_forms, r, rfl, hE, f__law_shape_here, f__law_forms, hm, hQ⟩ := h
      refine ⟨_, PSs.nox ((pss_cons (ps_if (pt_cmpR op_eqI (pe_callB (r := rLenQ K) cr_lenQ (by rfl) T.n_len (by decide +kernel) (pa_cons (pv 0) pa_nil)) pe_int (nomark _)) (pss_one (ps_ret (pe_ix (r := rIxL K) ix_list (pv 1) (pe_ix (r := rIxL K) ix_list (pv 0) pe_int (fun _ _ => rfl)) (fun _ _ => rfl)))) pss_nil) (pss_cons (ps_set (i := 2) sc_law_built.nd rfl (by first | exact Or.inl rfl | exact Or.inr rfl) (pe_call ih (hr.mono (by omega)) (by rfl) T.g_law_built T.F_law_built.kp (bn_law_built T) .nil pass0 (pa_cons (pe_ix (r := rIxL K) ix_list (pv 0) pe_int (fun _ _ => rfl)) (pa_cons (pv 1) pa_nil)))) (pss_cons (ps_set (i := 3) sc_law_built.nd rfl (by first | exact Or.inl rfl | exact Or.inr rfl) (pe_call ih (hr.mono (by omega)) (by rfl) T.g_law_built T.F_law_built.kp (bn_law_built T) .nil pass0 (pa_cons (pe_ix (r := rIxL K) ix_list (pv 0) pe_int (fun _ _ => rfl)) (pa_cons (pv 1) pa_nil)))) (pss_cons (ps_if (pt_cmpR op_eqS (pe_ix (r := rIxL K) ix_list (pv 0) pe_int (fun _ _ => rfl)) pe_str (nomark _)) (pss_one (ps_ret (pe_op (r := rBinO K "and" _ (sp_Pattern___and__ K) _) (op_binO (op := .BitAnd) (ok_Pattern___and__ T) (hr.mono (by omega)) (bn_Pattern___and__ T) pass0) (pv 2) (pv 3)))) pss_nil) (pss_one (ps_ret (pe_op (r := rBinO K "or" _ (sp_Pattern___or__ K) _) (op_binO (op := .BitOr) (ok_Pattern___or__ T) (hr.mono (by omega)) (bn_Pattern___or__ T) pass0) (pv 2) (pv 3))))))))), ?_⟩
      have S : Sx P0 F0 H0 F0 H0 := Sx.refl0 hE
      unfold m_law_built at hm
      refine rd_seq ?_
      refine rd_ifS ?_
      refine rd_test ?_
      refine rd_op ?_
      refine rd_cb ?_
      refine rd_cons ?_
      refine rd_v rfl ?_
      refine rd_nil ?_
      refine rd_lenSh S f__law_shape_here ?_
      refine rd_c ?_
      refine rd_I0 ?_
      refine rd_b ?_
      refine if_b hm (fun b1 hm => ?_) (fun b1 hm => ?_)
      · skip
        obtain ⟨t2, e3, hm⟩ := bd_some hm
        obtain ⟨t4, e5, hm⟩ := bd_some hm
        refine rd_ret ?_
        refine rd_op ?_
        refine rd_v rfl ?_
        refine rd_op ?_
        refine rd_v rfl ?_
        refine rd_c ?_
        refine rd_shN S f__law_shape_here e3 ?_
        refine rd_ixL (S.l f__law_forms).r e5 (fun u6 f7 => ?_)
        have f8 : qPat.r K F0 u6 (Pat.form t4) := (show qPat.r K F0 u6 _ from f7)
        cases hm
        exact hQ _ _ _ S f8
      · skip
        obtain ⟨t9, e10, hm⟩ := bd_some hm
        refine rd_next ?_
        refine rd_seq ?_
        refine rd_asg ?_
        refine rd_call ?_
        refine rd_cons ?_
        refine rd_op ?_
        refine rd_v rfl ?_
        refine rd_c ?_
        refine rd_shL S f__law_shape_here e10 (fun u11 f12 => ?_)
        obtain ⟨t13, e14, hm⟩ := bd_some hm
        refine rd_cons ?_
        refine rd_v rfl ?_
        refine rd_nil ?_
        refine ⟨F0, _, _, _, _, t13, rfl, S.sub, f12, f__law_forms, e14, fun v18 F15 H16 c17 f19 => ?_⟩
        have S20 := S.call0 c17
        have f__law_shape_here := qSh.mono c17.le f__law_shape_here
        have f__law_forms := (qL qForm).mono c17.le f__law_forms
        obtain ⟨t21, e22, hm⟩ := bd_some hm
        refine rd_gn ?_
        refine rd_seq ?_
        refine rd_asg ?_
        refine rd_call ?_
        refine rd_cons ?_
        refine rd_op ?_
        refine rd_v rfl ?_
        refine rd_c ?_
        refine rd_shR S20 f__law_shape_here e22 (fun u23 f24 => ?_)
        obtain ⟨t25, e26, hm⟩ := bd_some hm
        refine rd_cons ?_
        refine rd_v rfl ?_
        refine rd_nil ?_
        refine ⟨F15, _, _, _, _, t25, rfl, S20.sub, f24, f__law_forms, e26, fun v30 F27 H28 c29 f31 => ?_⟩
        have S32 := S20.call0 c29
        have f__law_shape_here := qSh.mono c29.le f__law_shape_here
        have f__law_forms := (qL qForm).mono c29.le f__law_forms
        have f19 := qPat.mono c29.le f19
        obtain ⟨t33, e34, hm⟩ := bd_some hm
        refine rd_gn ?_
        refine rd_seq ?_
        refine rd_ifS ?_
        refine rd_test ?_
        refine rd_op ?_
        refine rd_op ?_
        refine rd_v rfl ?_
        refine rd_c ?_
        refine rd_shO S32 f__law_shape_here e34 ?_
        refine rd_c ?_
        refine rd_S0 ?_
        refine rd_b ?_
        refine if_b hm (fun b35 hm => ?_) (fun b35 hm => ?_)
        · skip
          obtain ⟨t36, e37, hm⟩ := bd_some hm
          refine rd_ret ?_
          refine rd_op ?_
          refine rd_v rfl ?_
          refine rd_v rfl ?_
          refine pat_and T.pf S32 f19 f31 ?_
          refine ⟨F27, _, _, _, _, t36, rfl, S32.sub, f19, f31, e37, fun v41 F38 H39 c40 f42 => ?_⟩
          have S43 := S32.call0 c40
          have f__law_shape_here := qSh.mono c40.le f__law_shape_here
          have f__law_forms := (qL qForm).mono c40.le f__law_forms
          have f19 := qPat.mono c40.le f19
          have f31 := qPat.mono c40.le f31
          cases hm
          exact hQ _ _ _ S43 f42
        · skip
          obtain ⟨t44, e45, hm⟩ := bd_some hm
          refine rd_next ?_
          refine rd_ret ?_
          refine rd_op ?_
          refine rd_v rfl ?_
          refine rd_v rfl ?_
          refine pat_or T.pf S32 f19 f31 ?_
          refine ⟨F27, _, _, _, _, t44, rfl, S32.sub, f19, f31, e45, fun v49 F46 H47 c48 f50 => ?_⟩
          have S51 := S32.call0 c48
          have f__law_shape_here := qSh.mono c48.le f__law_shape_here
          have f__law_forms := (qL qForm).mono c48.le f__law_forms
          have f19 := qPat.mono c48.le f19
          have f31 := qPat.mono c48.le f31
          cases hm
          exact hQ _ _ _ S51 f50
def sp_law_built_vx (n : Nat) (K : PySem.W.Frag) : Sp := fun vs H Q E => ∃ (F : Hp) (v__law_shape_here : V) (a__law_shape_here : Shp) (v__law_forms : V) (a__law_forms : (List (List Str))) (rr : (Except (Option Int) Pat)), vs = [v__law_shape_here, v__law_forms] ∧ Same F H ∧ qSh.r K F v__law_shape_here a__law_shape_here ∧ (qL qForm).r K F v__law_forms a__law_forms ∧ m_law_built_vx n a__law_shape_here a__law_forms = some rr ∧ (∀ r, rr = .ok r → ∀ v F' H', Sx P0 F H F' H' → qPat.r K F' v r → Q v H') ∧ (∀ e cls d F' H', rr = .error e → Sx P0 F H F' H' → ErrAt K H' "NoForm" ["at"] [ovI e] cls d → E cls d H')
theorem sc_law_built_vx : FnScope ["_law_shape_here", "_law_forms", "_law_one", "_law_other"] ["_law_shape_here", "_law_forms"] (defScope s_law_built) := ⟨rfl, rfl, rfl, by decide +kernel, rfl, by decide +kernel, by decide +kernel⟩
theorem bn_law_built_vx (T : Tx P K mg) : Binds K (fdOf K ("_law_built", none)) ["_law_shape_here", "_law_forms"] [] := FunD.bindsN T.F_law_built fun _ _ _ _ _ _ us hl => match us, hl with | [_, _], _ => rfl
theorem ok_law_built_vx (T : Tx P K mg) : ∀ n : Nat, FnOk P w K mg base (L2.CX P w) (n + 7 + 1) (He.ga K "_law_built") (fdOf K ("_law_built", none)) ["_law_shape_here", "_law_forms"] (sp_law_built_vx n K) := by
  intro n
  induction n with
  | zero =>
    refine FunD.ok T.F_law_built sc_law_built_vx (fun vs H0 Q E h => ?_) (fun cdv A outer s H0 vs Q E hr h => ?_)
    · obtain ⟨_, _, _, _, _, _, rfl, _⟩ := h
      rfl
    · obtain ⟨F0, v__law_shape_here, a__law_shape_here, v__law_forms, a__law_forms, rr, rfl, hE, f__law_shape_here, f__law_forms, hm, hQ, hX⟩ := h
      unfold m_law_built_vx at hm
      cases hm
  | succ n ih =>
    refine FunD.ok T.F_law_built sc_law_built_vx (fun vs H0 Q E h => ?_) (fun cdv A outer s H0 vs Q E hr h => ?_)
    · obtain ⟨_, _, _, _, _, _, rfl, _⟩ := h
      rfl
    · obtain ⟨F0, v__law_shape_here, a__law_shape_here, v__law_forms, a__law_forms, rr, rfl, hE, f__law_shape_here, f__law_forms, hm, hQ, hX⟩ := h
      refine ⟨_, (pss_cons (ps_if (pt_cmpR op_eqI (pe_callB (r := rLenQ K) cr_lenQ (by rfl) T.n_len (by decide +kernel) (pa_cons (pv 0) pa_nil)) pe_int (nomark _)) (pss_one (ps_ret (pe_ix (r := rIxL K) ix_list (pv 1) (pe_ix (r := rIxL K) ix_list (pv 0) pe_int (fun _ _ => rfl)) (fun _ _ => rfl)))) pss_nil) (pss_cons (ps_set (i := 2) sc_law_built_vx.nd rfl (by first | exact Or.inl rfl | exact Or.inr rfl) (pe_call ih (hr.mono (by omega)) (by rfl) T.g_law_built T.F_law_built.kp (bn_law_built_vx T) .nil passes_cx (pa_cons (pe_ix (r := rIxL K) ix_list (pv 0) pe_int (fun _ _ => rfl)) (pa_cons (pv 1) pa_nil)))) (pss_cons (ps_set (i := 3) sc_law_built_vx.nd rfl (by first | exact Or.inl rfl | exact Or.inr rfl) (pe_call ih (hr.mono (by omega)) (by rfl) T.g_law_built T.F_law_built.kp (bn_law_built_vx T) .nil passes_cx (pa_cons (pe_ix (r := rIxL K) ix_list (pv 0) pe_int (fun _ _ => rfl)) (pa_cons (pv 1) pa_nil)))) (pss_cons (ps_if (pt_cmpR op_eqS (pe_ix (r := rIxL K) ix_list (pv 0) pe_int (fun _ _ => rfl)) pe_str (nomark _)) (pss_one (ps_ret (pe_op (r := rBinO K "and" _ (sp_Pattern___and___vx K) _) (op_binO (op := .BitAnd) (ok_Pattern___and___vx T) (hr.mono (by omega)) (bn_Pattern___and___vx T) passes_cx) (pv 2) (pv 3)))) pss_nil) (pss_one (ps_ret (pe_op (r := rBinO K "or" _ (sp_Pattern___or___vx K) _) (op_binO (op := .BitOr) (ok_Pattern___or___vx T) (hr.mono (by omega)) (bn_Pattern___or___vx T) passes_cx) (pv 2) (pv 3)))))))), ?_⟩
      have S : Sx P0 F0 H0 F0 H0 := Sx.refl0 hE
      unfold m_law_built_vx at hm
      refine rd_seq ?_
      refine rd_ifS ?_
      refine rd_test ?_
      refine rd_op ?_
      refine rd_cb ?_
      refine rd_cons ?_
      refine rd_v rfl ?_
      refine rd_nil ?_
      refine rd_lenSh S f__law_shape_here ?_
      refine rd_c ?_
      refine rd_I0 ?_
      refine rd_b ?_
      refine if_b hm (fun b1 hm => ?_) (fun b1 hm => ?_)
      · skip
        obtain ⟨t2, e3, hm⟩ := bd_some hm
        obtain ⟨t4, e5, hm⟩ := bd_some hm
        refine rd_ret ?_
        refine rd_op ?_
        refine rd_v rfl ?_
        refine rd_op ?_
        refine rd_v rfl ?_
        refine rd_c ?_
        refine rd_shN S f__law_shape_here e3 ?_
        refine rd_ixL (S.l f__law_forms).r e5 (fun u6 f7 => ?_)
        have f8 : qPat.r K F0 u6 (Pat.form t4) := (show qPat.r K F0 u6 _ from f7)
        cases hm
        exact hQ _ rfl _ _ _ S f8
      · skip
        obtain ⟨t9, e10, hm⟩ := bd_some hm
        refine rd_next ?_
        refine rd_seq ?_
        refine rd_asg ?_
        refine rd_call ?_
        refine rd_cons ?_
        refine rd_op ?_
        refine rd_v rfl ?_
        refine rd_c ?_
        refine rd_shL S f__law_shape_here e10 (fun u11 f12 => ?_)
        obtain ⟨t13, e14, hm⟩ := bd_some hm
        refine rd_cons ?_
        refine rd_v rfl ?_
        refine rd_nil ?_
        refine ⟨F0, _, _, _, _, t13, rfl, S.sub, f12, f__law_forms, e14, ?_, ?_⟩
        rotate_left
        · skip
          intro x22 cls23 d24 F25 H26 ee27 c28 ea29
          exact hX _ _ _ _ _ (exB_err ee27 hm) (S.call0 c28) ea29
        intro t15 er21 v19 F16 H17 c18 f20
        subst er21
        have hm := exB_ok hm
        have S30 := S.call0 c18
        have f__law_shape_here := qSh.mono c18.le f__law_shape_here
        have f__law_forms := (qL qForm).mono c18.le f__law_forms
        obtain ⟨t31, e32, hm⟩ := bd_some hm
        refine rd_gn ?_
        refine rd_seq ?_
        refine rd_asg ?_
        refine rd_call ?_
        refine rd_cons ?_
        refine rd_op ?_
        refine rd_v rfl ?_
        refine rd_c ?_
        refine rd_shR S30 f__law_shape_here e32 (fun u33 f34 => ?_)
        obtain ⟨t35, e36, hm⟩ := bd_some hm
        refine rd_cons ?_
        refine rd_v rfl ?_
        refine rd_nil ?_
        refine ⟨F16, _, _, _, _, t35, rfl, S30.sub, f34, f__law_forms, e36, ?_, ?_⟩
        rotate_left
        · skip
          intro x44 cls45 d46 F47 H48 ee49 c50 ea51
          exact hX _ _ _ _ _ (exB_err ee49 hm) (S30.call0 c50) ea51
        intro t37 er43 v41 F38 H39 c40 f42
        subst er43
        have hm := exB_ok hm
        have S52 := S30.call0 c40
        have f__law_shape_here := qSh.mono c40.le f__law_shape_here
        have f__law_forms := (qL qForm).mono c40.le f__law_forms
        have f20 := qPat.mono c40.le f20
        obtain ⟨t53, e54, hm⟩ := bd_some hm
        refine rd_gn ?_
        refine rd_seq ?_
        refine rd_ifS ?_
        refine rd_test ?_
        refine rd_op ?_
        refine rd_op ?_
        refine rd_v rfl ?_
        refine rd_c ?_
        refine rd_shO S52 f__law_shape_here e54 ?_
        refine rd_c ?_
        refine rd_S0 ?_
        refine rd_b ?_
        refine if_b hm (fun b55 hm => ?_) (fun b55 hm => ?_)
        · skip
          obtain ⟨t56, e57, hm⟩ := bd_some hm
          refine rd_ret ?_
          refine rd_op ?_
          refine rd_v rfl ?_
          refine rd_v rfl ?_
          refine pat_and T.pf S52 f20 f42 ?_
          refine ⟨F38, _, _, _, _, t56, rfl, S52.sub, f20, f42, e57, ?_, ?_⟩
          rotate_left
          · skip
            intro x65 cls66 d67 F68 H69 ee70 c71 ea72
            exact hX _ _ _ _ _ (exB_err ee70 hm) (S52.call0 c71) ea72
          intro t58 er64 v62 F59 H60 c61 f63
          subst er64
          have hm := exB_ok hm
          have S73 := S52.call0 c61
          have f__law_shape_here := qSh.mono c61.le f__law_shape_here
          have f__law_forms := (qL qForm).mono c61.le f__law_forms
          have f20 := qPat.mono c61.le f20
          have f42 := qPat.mono c61.le f42
          cases hm
          exact hQ _ rfl _ _ _ S73 f63
        · skip
          obtain ⟨t74, e75, hm⟩ := bd_some hm
          refine rd_next ?_
          refine rd_ret ?_
          refine rd_op ?_
          refine rd_v rfl ?_
          refine rd_v rfl ?_
          refine pat_or T.pf S52 f20 f42 ?_
          refine ⟨F38, _, _, _, _, t74, rfl, S52.sub, f20, f42, e75, ?_, ?_⟩
          rotate_left
          · skip
            intro x83 cls84 d85 F86 H87 ee88 c89 ea90
            exact hX _ _ _ _ _ (exB_err ee88 hm) (S52.call0 c89) ea90
          intro t76 er82 v80 F77 H78 c79 f81
          subst er82
          have hm := exB_ok hm
          have S91 := S52.call0 c79
          have f__law_shape_here := qSh.mono c79.le f__law_shape_here
          have f__law_forms := (qL qForm).mono c79.le f__law_forms
          have f20 := qPat.mono c79.le f20
          have f42 := qPat.mono c79.le f42
          cases hm
          exact hQ _ rfl _ _ _ S91 f81
def sp_law_form (K : PySem.W.Frag) : Sp := fun vs H Q _ => ∃ (F : Hp) (v__law_parts : V) (a__law_parts : (List Str)) (r : (List Str)), vs = [v__law_parts] ∧ Same F H ∧ (qL qS).r K F v__law_parts a__law_parts ∧ m_law_form a__law_parts = some r ∧ ∀ v F' H', Sx P0 F H F' H' → qForm.r K F' v r → Q v H'
theorem sc_law_form : FnScope ["_law_parts"] ["_law_parts"] (defScope s_law_form) := ⟨rfl, rfl, rfl, by decide +kernel, rfl, by decide +kernel, by decide +kernel⟩
theorem bn_law_form (T : Tx P K mg) : Binds K (fdOf K ("_law_form", none)) ["_law_parts"] [] := FunD.bindsN T.F_law_form fun _ _ _ _ _ _ us hl => match us, hl with | [_], _ => rfl
theorem ok_law_form (T : Tx P K mg) : FnOk P w K mg base CX0 5 (He.ga K "_law_form") (fdOf K ("_law_form", none)) ["_law_parts"] (sp_law_form K) := by
  refine FunD.ok T.F_law_form sc_law_form (fun vs H0 Q E h => ?_) (fun cdv A outer s H0 vs Q E hr h => ?_)
  · obtain ⟨_, _, _, _, rfl, _⟩ := h
    rfl
  · obtain ⟨F0, v__law_parts, a__law_parts, r, rfl, hE, f__law_parts, hm, hQ⟩ := h
    refine ⟨_, PSs.nox ((pss_cons (ps_if (pt_cmpR op_eqI (pe_callB (r := rLenQ K) cr_lenQ (by rfl) T.n_len (by decide +kernel) (pa_cons (pv 0) pa_nil)) pe_int (nomark _)) (pss_one (ps_ret (StX.pe_makeR T.mk_Form (ok_Form___init__ T) (hr.mono (by decide)) (by rfl) T.gc_Form pass0 (pa_cons (pe_ix (r := rIxL K) ix_list (pv 0) pe_int (fun _ _ => rfl)) pa_nil)))) pss_nil) (pss_cons (ps_if (pt_cmpR op_eqI (pe_callB (r := rLenQ K) cr_lenQ (by rfl) T.n_len (by decide +kernel) (pa_cons (pv 0) pa_nil)) pe_int (nomark _)) (pss_one (ps_ret (StX.pe_makeR T.mk_Form (ok_Form___init__ T) (hr.mono (by decide)) (by rfl) T.gc_Form pass0 (pa_cons (pe_ix (r := rIxL K) ix_list (pv 0) pe_int (fun _ _ => rfl)) (pa_cons (pe_ix (r := rIxL K) ix_list (pv 0) pe_int (fun _ _ => rfl)) pa_nil))))) pss_nil) (pss_cons (ps_if (pt_cmpR op_eqI (pe_callB (r := rLenQ K) cr_lenQ (by rfl) T.n_len (by decide +kernel) (pa_cons (pv 0) pa_nil)) pe_int (nomark _)) (pss_one (ps_ret (StX.pe_makeR T.mk_Form (ok_Form___init__ T) (hr.mono (by decide)) (by rfl) T.gc_Form pass0 (pa_cons (pe_ix (r := rIxL K) ix_list (pv 0) pe_int (fun _ _ => rfl)) (pa_cons (pe_ix (r := rIxL K) ix_list (pv 0) pe_int (fun _ _ => rfl)) (pa_cons (pe_ix (r := rIxL K) ix_list (pv 0) pe_int (fun _ _ => rfl)) pa_nil)))))) pss_nil) (pss_one (ps_ret (StX.pe_makeR T.mk_Form (ok_Form___init__ T) (hr.mono (by decide)) (by rfl) T.gc_Form pass0 (pa_cons (pe_ix (r := rIxL K) ix_list (pv 0) pe_int (fun _ _ => rfl)) (pa_cons (pe_ix (r := rIxL K) ix_list (pv 0) pe_int (fun _ _ => rfl)) (pa_cons (pe_ix (r := rIxL K) ix_list (pv 0) pe_int (fun _ _ => rfl)) (pa_cons (pe_ix (r := rIxL K) ix_list (pv 0) pe_int (fun _ _ => rfl)) pa_nil))))))))))), ?_⟩
    have S : Sx P0 F0 H0 F0 H0 := Sx.refl0 hE
    unfold m_law_form at hm
    refine rd_seq ?_
    refine rd_ifS ?_
    refine rd_test ?_
    refine rd_op ?_
    refine rd_cb ?_
    refine rd_cons ?_
    refine rd_v rfl ?_
    refine rd_nil ?_
    refine rd_lenQ (S.l f__law_parts).r.q ?_
    refine rd_c ?_
    refine rd_I0 ?_
    refine rd_b ?_
    refine if_b hm (fun b1 hm => ?_) (fun b1 hm => ?_)
    · skip
      obtain ⟨t2, e3, hm⟩ := bd_some hm
      refine rd_ret ?_
      refine rd_makeR ?_
      refine rd_cons ?_
      refine rd_op ?_
      refine rd_v rfl ?_
      refine rd_c ?_
      refine rd_ixL (S.l f__law_parts).r e3 (fun u4 f5 => ?_)
      cases (show u4 = (V.str (t2)) from f5)
      obtain ⟨t6, e7, hm⟩ := bd_some hm
      refine rd_nil ?_
      refine new_Form S (.cons rfl .nil) rfl e7 (fun v8 F9 H10 c11 f12 => ?_)
      have S13 := S.call0 c11
      have f__law_parts := (qL qS).mono c11.le f__law_parts
      cases hm
      exact hQ _ _ _ S13 f12
    · skip
      refine rd_next ?_
      refine rd_seq ?_
      refine rd_ifS ?_
      refine rd_test ?_
      refine rd_op ?_
      refine rd_cb ?_
      refine rd_cons ?_
      refine rd_v rfl ?_
      refine rd_nil ?_
      refine rd_lenQ (S.l f__law_parts).r.q ?_
      refine rd_c ?_
      refine rd_I0 ?_
      refine rd_b ?_
      refine if_b hm (fun b14 hm => ?_) (fun b14 hm => ?_)
      · skip
        obtain ⟨t15, e16, hm⟩ := bd_some hm
        refine rd_ret ?_
        refine rd_makeR ?_
        refine rd_cons ?_
        refine rd_op ?_
        refine rd_v rfl ?_
        refine rd_c ?_
        refine rd_ixL (S.l f__law_parts).r e16 (fun u17 f18 => ?_)
        cases (show u17 = (V.str (t15)) from f18)
        obtain ⟨t19, e20, hm⟩ := bd_some hm
        refine rd_cons ?_
        refine rd_op ?_
        refine rd_v rfl ?_
        refine rd_c ?_
        refine rd_ixL (S.l f__law_parts).r e20 (fun u21 f22 => ?_)
        cases (show u21 = (V.str (t19)) from f22)
        obtain ⟨t23, e24, hm⟩ := bd_some hm
        refine rd_nil ?_
        refine new_Form S (.cons rfl (.cons rfl .nil)) rfl e24 (fun v25 F26 H27 c28 f29 => ?_)
        have S30 := S.call0 c28
        have f__law_parts := (qL qS).mono c28.le f__law_parts
        cases hm
        exact hQ _ _ _ S30 f29
      · skip
        refine rd_next ?_
        refine rd_seq ?_
        refine rd_ifS ?_
        refine rd_test ?_
        refine rd_op ?_
        refine rd_cb ?_
        refine rd_cons ?_
        refine rd_v rfl ?_
        refine rd_nil ?_
        refine rd_lenQ (S.l f__law_parts).r.q ?_
        refine rd_c ?_
        refine rd_I0 ?_
        refine rd_b ?_
        refine if_b hm (fun b31 hm => ?_) (fun b31 hm => ?_)
        · skip
          obtain ⟨t32, e33, hm⟩ := bd_some hm
          refine rd_ret ?_
          refine rd_makeR ?_
          refine rd_cons ?_
          refine rd_op ?_
          refine rd_v rfl ?_
          refine rd_c ?_
          refine rd_ixL (S.l f__law_parts).r e33 (fun u34 f35 => ?_)
          cases (show u34 = (V.str (t32)) from f35)
          obtain ⟨t36, e37, hm⟩ := bd_some hm
          refine rd_cons ?_
          refine rd_op ?_
          refine rd_v rfl ?_
          refine rd_c ?_
          refine rd_ixL (S.l f__law_parts).r e37 (fun u38 f39 => ?_)
          cases (show u38 = (V.str (t36)) from f39)
          obtain ⟨t40, e41, hm⟩ := bd_some hm
          refine rd_cons ?_
          refine rd_op ?_
          refine rd_v rfl ?_
          refine rd_c ?_
          refine rd_ixL (S.l f__law_parts).r e41 (fun u42 f43 => ?_)
          cases (show u42 = (V.str (t40)) from f43)
          obtain ⟨t44, e45, hm⟩ := bd_some hm
          refine rd_nil ?_
          refine new_Form S (.cons rfl (.cons rfl (.cons rfl .nil))) rfl e45 (fun v46 F47 H48 c49 f50 => ?_)
          have S51 := S.call0 c49
          have f__law_parts := (qL qS).mono c49.le f__law_parts
          cases hm
          exact hQ _ _ _ S51 f50
        · skip
          obtain ⟨t52, e53, hm⟩ := bd_some hm
          refine rd_next ?_
          refine rd_ret ?_
          refine rd_makeR ?_
          refine rd_cons ?_
          refine rd_op ?_
          refine rd_v rfl ?_
          refine rd_c ?_
          refine rd_ixL (S.l f__law_parts).r e53 (fun u54 f55 => ?_)
          cases (show u54 = (V.str (t52)) from f55)
          obtain ⟨t56, e57, hm⟩ := bd_some hm
          refine rd_cons ?_
          refine rd_op ?_
          refine rd_v rfl ?_
          refine rd_c ?_
          refine rd_ixL (S.l f__law_parts).r e57 (fun u58 f59 => ?_)
          cases (show u58 = (V.str (t56)) from f59)
          obtain ⟨t60, e61, hm⟩ := bd_some hm
          refine rd_cons ?_
          refine rd_op ?_
          refine rd_v rfl ?_
          refine rd_c ?_
          refine rd_ixL (S.l f__law_parts).r e61 (fun u62 f63 => ?_)
          cases (show u62 = (V.str (t60)) from f63)
          obtain ⟨t64, e65, hm⟩ := bd_some hm
          refine rd_cons ?_
          refine rd_op ?_
          refine rd_v rfl ?_
          refine rd_c ?_
          refine rd_ixL (S.l f__law_parts).r e65 (fun u66 f67 => ?_)
          cases (show u66 = (V.str (t64)) from f67)
          obtain ⟨t68, e69, hm⟩ := bd_some hm
          refine rd_nil ?_
          refine new_Form S (.cons rfl (.cons rfl (.cons rfl (.cons rfl .nil)))) rfl e69 (fun v70 F71 H72 c73 f74 => ?_)
          have S75 := S.call0 c73
          have f__law_parts := (qL qS).mono c73.le f__law_parts
          cases hm
          exact hQ _ _ _ S75 f74
def sp_law_shown (n : Nat) (K : PySem.W.Frag) : Sp := fun vs H Q _ => ∃ (F : Hp) (v__law_shape_here : V) (a__law_shape_here : Shp) (v__law_drawn : V) (a__law_drawn : (List (List Str))) (r : Str), vs = [v__law_shape_here, v__law_drawn] ∧ Same F H ∧ qSh.r K F v__law_shape_here a__law_shape_here ∧ (qL (qL qS)).r K F v__law_drawn a__law_drawn ∧ m_law_shown n a__law_shape_here a__law_drawn = some r ∧ ∀ v F' H', Sx P0 F H F' H' → qS.r K F' v r → Q v H'
theorem sc_law_shown : FnScope ["_law_shape_here", "_law_drawn"] ["_law_shape_here", "_law_drawn"] (defScope s_law_shown) := ⟨rfl, rfl, rfl, by decide +kernel, rfl, by decide +kernel, by decide +kernel⟩
theorem bn_law_shown (T : Tx P K mg) : Binds K (fdOf K ("_law_shown", none)) ["_law_shape_here", "_law_drawn"] [] := FunD.bindsN T.F_law_shown fun _ _ _ _ _ _ us hl => match us, hl with | [_, _], _ => rfl
theorem ok_law_shown (T : Tx P K mg) : ∀ n : Nat, FnOk P w K mg base CX0 (n + 0 + 1) (He.ga K "_law_shown") (fdOf K ("_law_shown", none)) ["_law_shape_here", "_law_drawn"] (sp_law_shown n K) := by
  intro n
  induction n with
  | zero =>
    refine FunD.ok T.F_law_shown sc_law_shown (fun vs H0 Q E h => ?_) (fun cdv A outer s H0 vs Q E hr h => ?_)
    · obtain ⟨_, _, _, _, _, _, rfl, _⟩ := h
      rfl
    · obtain ⟨F0, v__law_shape_here, a__law_shape_here, v__law_drawn, a__law_drawn, r, rfl, hE, f__law_shape_here, f__law_drawn, hm, hQ⟩ := h
      unfold m_law_shown at hm
      cases hm
  | succ n ih =>
    refine FunD.ok T.F_law_shown sc_law_shown (fun vs H0 Q E h => ?_) (fun cdv A outer s H0 vs Q E hr h => ?_)
    · obtain ⟨_, _, _, _, _, _, rfl, _⟩ := h
      rfl
    · obtain ⟨F0, v__law_shape_here, a__law_shape_here, v__law_drawn, a__law_drawn, r, rfl, hE, f__law_shape_here, f__law_drawn, hm, hQ⟩ := h
      refine ⟨_, PSs.nox ((pss_cons (ps_if (pt_cmpR op_eqI (pe_callB (r := rLenQ K) cr_lenQ (by rfl) T.n_len (by decide +kernel) (pa_cons (pv 0) pa_nil)) pe_int (nomark _)) (pss_one (ps_ret (pe_bmK (K := K) PySem.F.plainAttrs_str PySem.F.slot_str_join PySem.F.type_str_join (mt_joinKK (K := K)) pe_str (pa_cons (pe_ix (r := rIxL K) ix_list (pv 1) (pe_ix (r := rIxL K) ix_list (pv 0) pe_int (fun _ _ => rfl)) (fun _ _ => rfl)) pa_nil)))) pss_nil) (pss_one (ps_ret (pe_op op_catS (pe_op op_catS (pe_op op_catS (pe_op op_catS (pe_op op_catS (pe_op op_catS pe_str (pe_call ih (hr.mono (by omega)) (by rfl) T.g_law_shown T.F_law_shown.kp (bn_law_shown T) .nil pass0 (pa_cons (pe_ix (r := rIxL K) ix_list (pv 0) pe_int (fun _ _ => rfl)) (pa_cons (pv 1) pa_nil)))) pe_str) (pe_ix (r := rIxL K) ix_list (pv 0) pe_int (fun _ _ => rfl))) pe_str) (pe_call ih (hr.mono (by omega)) (by rfl) T.g_law_shown T.F_law_shown.kp (bn_law_shown T) .nil pass0 (pa_cons (pe_ix (r := rIxL K) ix_list (pv 0) pe_int (fun _ _ => rfl)) (pa_cons (pv 1) pa_nil)))) pe_str))))), ?_⟩
      have S : Sx P0 F0 H0 F0 H0 := Sx.refl0 hE
      unfold m_law_shown at hm
      refine rd_seq ?_
      refine rd_ifS ?_
      refine rd_test ?_
      refine rd_op ?_
      refine rd_cb ?_
      refine rd_cons ?_
      refine rd_v rfl ?_
      refine rd_nil ?_
      refine rd_lenSh S f__law_shape_here ?_
      refine rd_c ?_
      refine rd_I0 ?_
      refine rd_b ?_
      refine if_b hm (fun b1 hm => ?_) (fun b1 hm => ?_)
      · skip
        obtain ⟨t2, e3, hm⟩ := bd_some hm
        obtain ⟨t4, e5, hm⟩ := bd_some hm
        refine rd_ret ?_
        refine rd_bm ?_
        refine rd_c ?_
        refine rd_ty (tyS_str) ?_
        refine rd_cons ?_
        refine rd_op ?_
        refine rd_v rfl ?_
        refine rd_op ?_
        refine rd_v rfl ?_
        refine rd_c ?_
        refine rd_shN S f__law_shape_here e3 ?_
        refine rd_ixL (S.l f__law_drawn).r e5 (fun u6 f7 => ?_)
        obtain ⟨g8, hm⟩ := gd_some hm
        cases hm
        refine rd_nil ?_
        refine rd_join (S.l f7).r.q g8 ?_
        exact hQ _ _ _ S rfl
      · skip
        obtain ⟨t9, e10, hm⟩ := bd_some hm
        refine rd_next ?_
        refine rd_ret ?_
        refine rd_op ?_
        refine rd_op ?_
        refine rd_op ?_
        refine rd_op ?_
        refine rd_op ?_
        refine rd_op ?_
        refine rd_c ?_
        refine rd_call ?_
        refine rd_cons ?_
        refine rd_op ?_
        refine rd_v rfl ?_
        refine rd_c ?_
        refine rd_shL S f__law_shape_here e10 (fun u11 f12 => ?_)
        obtain ⟨t13, e14, hm⟩ := bd_some hm
        refine rd_cons ?_
        refine rd_v rfl ?_
        refine rd_nil ?_
        refine ⟨F0, _, _, _, _, t13, rfl, S.sub, f12, f__law_drawn, e14, fun v18 F15 H16 c17 f19 => ?_⟩
        have S20 := S.call0 c17
        have f__law_shape_here := qSh.mono c17.le f__law_shape_here
        have f__law_drawn := (qL (qL qS)).mono c17.le f__law_drawn
        cases (show v18 = (V.str (t13)) from f19)
        obtain ⟨g21, hm⟩ := gd_some hm
        obtain ⟨g22, hm⟩ := gd_some hm
        obtain ⟨t23, e24, hm⟩ := bd_some hm
        obtain ⟨g25, hm⟩ := gd_some hm
        obtain ⟨g26, hm⟩ := gd_some hm
        obtain ⟨t27, e28, hm⟩ := bd_some hm
        refine rd_catS g21 ?_
        refine rd_c ?_
        refine rd_catS g22 ?_
        refine rd_op ?_
        refine rd_v rfl ?_
        refine rd_c ?_
        refine rd_shO S20 f__law_shape_here e24 ?_
        refine rd_catS g25 ?_
        refine rd_c ?_
        refine rd_catS g26 ?_
        refine rd_call ?_
        refine rd_cons ?_
        refine rd_op ?_
        refine rd_v rfl ?_
        refine rd_c ?_
        refine rd_shR S20 f__law_shape_here e28 (fun u29 f30 => ?_)
        obtain ⟨t31, e32, hm⟩ := bd_some hm
        refine rd_cons ?_
        refine rd_v rfl ?_
        refine rd_nil ?_
        refine ⟨F15, _, _, _, _, t31, rfl, S20.sub, f30, f__law_drawn, e32, fun v36 F33 H34 c35 f37 => ?_⟩
        have S38 := S20.call0 c35
        have f__law_shape_here := qSh.mono c35.le f__law_shape_here
        have f__law_drawn := (qL (qL qS)).mono c35.le f__law_drawn
        cases (show v36 = (V.str (t31)) from f37)
        obtain ⟨g39, hm⟩ := gd_some hm
        obtain ⟨g40, hm⟩ := gd_some hm
        cases hm
        refine rd_catS g39 ?_
        refine rd_c ?_
        refine rd_catS g40 ?_
        exact hQ _ _ _ S38 rfl
def sp_law_spoiled (K : PySem.W.Frag) : Sp := fun vs H Q _ => ∃ (F : Hp) (p__law_pool_here : Addr) (a__law_pool_here : Int × Int) (a__law_line_here : Str) (r : (Str × (Int × Int))), vs = [.ref p__law_pool_here, (V.str (a__law_line_here))] ∧ Same F H ∧ Ow (fun a => a = p__law_pool_here) H F H p__law_pool_here (.lst [.int a__law_pool_here.1, .int a__law_pool_here.2]) ∧ m_law_spoiled a__law_pool_here a__law_line_here = some r ∧ ∀ v F' H', Sx (fun a => a = p__law_pool_here) F H F' H' → Ow (fun a => a = p__law_pool_here) H F' H' p__law_pool_here (.lst [.int r.2.1, .int r.2.2]) → qS.r K F' v r.1 → Q v H'
theorem sc_law_spoiled : FnScope ["_law_pool_here", "_law_line_here", "_law_at", "_law_sign", "_law_way"] ["_law_pool_here", "_law_line_here"] (defScope s_law_spoiled) := ⟨rfl, rfl, rfl, by decide +kernel, rfl, by decide +kernel, by decide +kernel⟩
theorem bn_law_spoiled (T : Tx P K mg) : Binds K (fdOf K ("_law_spoiled", none)) ["_law_pool_here", "_law_line_here"] [] := FunD.bindsN T.F_law_spoiled fun _ _ _ _ _ _ us hl => match us, hl with | [_, _], _ => rfl
theorem ok_law_spoiled (T : Tx P K mg) : FnOk P w K mg base CX0 2 (He.ga K "_law_spoiled") (fdOf K ("_law_spoiled", none)) ["_law_pool_here", "_law_line_here"] (sp_law_spoiled K) := by
  refine FunD.ok T.F_law_spoiled sc_law_spoiled (fun vs H0 Q E h => ?_) (fun cdv A outer s H0 vs Q E hr h => ?_)
  · obtain ⟨_, _, _, _, _, rfl, _⟩ := h
    rfl
  · obtain ⟨F0, p__law_pool_here, a__law_pool_here, a__law_line_here, r, rfl, hE, w__law_pool_here, hm, hQ⟩ := h
    refine ⟨_, PSs.nox ((pss_cons (ps_set (i := 2) sc_law_spoiled.nd rfl (by first | exact Or.inl rfl | exact Or.inr rfl) (pe_call (ok_law_take T) (hr.mono (by decide)) (by rfl) T.g_law_take T.F_law_take.kp (bn_law_take T) .nil pass0 (pa_cons (pv 0) (pa_cons (pe_op op_add (pe_callB cr_lenS (by rfl) T.n_len (by decide +kernel) (pa_cons (pv 1) pa_nil)) pe_int) pa_nil)))) (pss_cons (ps_set (i := 3) sc_law_spoiled.nd rfl (by first | exact Or.inl rfl | exact Or.inr rfl) (pe_ix ix_str (pe_call0 (ok_law_all_signs T) (hr.mono (by decide)) (by rfl) T.g_law_all_signs T.F_law_all_signs.kp (bn_law_all_signs T) .nil pass0) (pe_call (ok_law_take T) (hr.mono (by decide)) (by rfl) T.g_law_take T.F_law_take.kp (bn_law_take T) .nil pass0 (pa_cons (pv 0) (pa_cons pe_int pa_nil))) (fun _ _ => rfl))) (pss_cons (ps_set (i := 4) sc_law_spoiled.nd rfl (by first | exact Or.inl rfl | exact Or.inr rfl) (pe_call (ok_law_take T) (hr.mono (by decide)) (by rfl) T.g_law_take T.F_law_take.kp (bn_law_take T) .nil pass0 (pa_cons (pv 0) (pa_cons pe_int pa_nil)))) (pss_cons (ps_if (pt_cmpR op_eqI (pv 4) pe_int (nomark _)) (pss_one (ps_ret (pe_op op_catS (pe_op op_catS (pe_slice sl_str (pv 1) po_none (po_some (pv 2))) (pv 3)) (pe_slice sl_str (pv 1) (po_some (pv 2)) po_none)))) pss_nil) (pss_cons (ps_if (pt_cmpR op_eqI (pv 4) pe_int (nomark _)) (pss_one (ps_ret (pe_op op_catS (pe_slice sl_str (pv 1) po_none (po_some (pv 2))) (pe_slice sl_str (pv 1) (po_some (pe_op op_add (pv 2) pe_int)) po_none)))) pss_nil) (pss_cons (ps_if (pt_cmpR op_eqI (pv 4) pe_int (nomark _)) (pss_one (ps_ret (pe_op op_catS (pe_op op_catS (pe_slice sl_str (pv 1) po_none (po_some (pv 2))) (pv 3)) (pe_slice sl_str (pv 1) (po_some (pe_op op_add (pv 2) pe_int)) po_none)))) pss_nil) (pss_one (ps_ret (pv 1)))))))))), ?_⟩
    have S : Sx (fun a => a = p__law_pool_here) F0 H0 F0 H0 := Sx.refl hE (live1 w__law_pool_here)
    unfold m_law_spoiled at hm
    obtain ⟨g1, hm⟩ := gd_some hm
    obtain ⟨t2, e3, hm⟩ := bd_some hm
    refine rd_seq ?_
    refine rd_asg ?_
    refine rd_call ?_
    refine rd_cons ?_
    refine rd_v rfl ?_
    refine rd_cons ?_
    refine rd_op ?_
    refine rd_cb ?_
    refine rd_cons ?_
    refine rd_v rfl ?_
    refine rd_nil ?_
    refine rd_lenS g1 ?_
    refine rd_c ?_
    refine rd_I0 ?_
    refine rd_nil ?_
    refine ⟨F0, _, _, _, t2, rfl, S.sub, w__law_pool_here.arg, e3, fun v7 F4 H5 c6 w9 f8 => ?_⟩
    have S10 := S.call1 c6 w__law_pool_here
    have w11 := w__law_pool_here.back w9
    cases (show v7 = (V.int (t2.1)) from f8)
    obtain ⟨t12, e13, hm⟩ := bd_some hm
    refine rd_gn ?_
    refine rd_seq ?_
    refine rd_asg ?_
    refine rd_op ?_
    refine rd_call ?_
    refine rd_nil ?_
    refine ⟨F4, t12, rfl, S10.sub, e13, fun v17 F14 H15 c16 f18 => ?_⟩
    have S19 := S10.call0 c16
    have w11 := w11.call0 c16
    cases (show v17 = (V.str (t12)) from f18)
    obtain ⟨t20, e21, hm⟩ := bd_some hm
    refine rd_call ?_
    refine rd_cons ?_
    refine rd_v rfl ?_
    refine rd_cons ?_
    refine rd_c ?_
    refine rd_nil ?_
    refine ⟨F14, _, _, _, t20, rfl, S19.sub, w11.arg, e21, fun v25 F22 H23 c24 w27 f26 => ?_⟩
    have S28 := S19.call1 c24 w11
    have w29 := w11.back w27
    cases (show v25 = (V.int (t20.1)) from f26)
    obtain ⟨t30, e31, hm⟩ := bd_some hm
    obtain ⟨t32, e33, hm⟩ := bd_some hm
    refine rd_ixS e31 ?_
    refine rd_gn ?_
    refine rd_seq ?_
    refine rd_asg ?_
    refine rd_call ?_
    refine rd_cons ?_
    refine rd_v rfl ?_
    refine rd_cons ?_
    refine rd_c ?_
    refine rd_nil ?_
    refine ⟨F22, _, _, _, t32, rfl, S28.sub, w29.arg, e33, fun v37 F34 H35 c36 w39 f38 => ?_⟩
    have S40 := S28.call1 c36 w29
    have w41 := w29.back w39
    cases (show v37 = (V.int (t32.1)) from f38)
    refine rd_gn ?_
    refine rd_seq ?_
    refine rd_ifS ?_
    refine rd_test ?_
    refine rd_op ?_
    refine rd_v rfl ?_
    refine rd_c ?_
    refine rd_I0 ?_
    refine rd_b ?_
    refine if_b hm (fun b42 hm => ?_) (fun b42 hm => ?_)
    · skip
      obtain ⟨g43, hm⟩ := gd_some hm
      obtain ⟨g44, hm⟩ := gd_some hm
      obtain ⟨g45, hm⟩ := gd_some hm
      obtain ⟨g46, hm⟩ := gd_some hm
      cases hm
      refine rd_ret ?_
      refine rd_op ?_
      refine rd_op ?_
      refine rd_sl ?_
      refine rd_v rfl ?_
      refine rd_np ?_
      refine rd_pt ?_
      refine rd_v rfl ?_
      refine rd_i ?_
      refine rd_slS g43 ?_
      refine rd_v rfl ?_
      refine rd_catS g44 ?_
      refine rd_sl ?_
      refine rd_v rfl ?_
      refine rd_pt ?_
      refine rd_v rfl ?_
      refine rd_i ?_
      refine rd_np ?_
      refine rd_slS g45 ?_
      refine rd_catS g46 ?_
      exact hQ _ _ _ S40 w41 rfl
    · skip
      refine rd_next ?_
      refine rd_seq ?_
      refine rd_ifS ?_
      refine rd_test ?_
      refine rd_op ?_
      refine rd_v rfl ?_
      refine rd_c ?_
      refine rd_I0 ?_
      refine rd_b ?_
      refine if_b hm (fun b47 hm => ?_) (fun b47 hm => ?_)
      · skip
        obtain ⟨g48, hm⟩ := gd_some hm
        obtain ⟨g49, hm⟩ := gd_some hm
        obtain ⟨g50, hm⟩ := gd_some hm
        cases hm
        refine rd_ret ?_
        refine rd_op ?_
        refine rd_sl ?_
        refine rd_v rfl ?_
        refine rd_np ?_
        refine rd_pt ?_
        refine rd_v rfl ?_
        refine rd_i ?_
        refine rd_slS g48 ?_
        refine rd_sl ?_
        refine rd_v rfl ?_
        refine rd_pt ?_
        refine rd_op ?_
        refine rd_v rfl ?_
        refine rd_c ?_
        refine rd_I0 ?_
        refine rd_i ?_
        refine rd_np ?_
        refine rd_slS g49 ?_
        refine rd_catS g50 ?_
        exact hQ _ _ _ S40 w41 rfl
      · skip
        refine rd_next ?_
        refine rd_seq ?_
        refine rd_ifS ?_
        refine rd_test ?_
        refine rd_op ?_
        refine rd_v rfl ?_
        refine rd_c ?_
        refine rd_I0 ?_
        refine rd_b ?_
        refine if_b hm (fun b51 hm => ?_) (fun b51 hm => ?_)
        · skip
          obtain ⟨g52, hm⟩ := gd_some hm
          obtain ⟨g53, hm⟩ := gd_some hm
          obtain ⟨g54, hm⟩ := gd_some hm
          obtain ⟨g55, hm⟩ := gd_some hm
          cases hm
          refine rd_ret ?_
          refine rd_op ?_
          refine rd_op ?_
          refine rd_sl ?_
          refine rd_v rfl ?_
          refine rd_np ?_
          refine rd_pt ?_
          refine rd_v rfl ?_
          refine rd_i ?_
          refine rd_slS g52 ?_
          refine rd_v rfl ?_
          refine rd_catS g53 ?_
          refine rd_sl ?_
          refine rd_v rfl ?_
          refine rd_pt ?_
          refine rd_op ?_
          refine rd_v rfl ?_
          refine rd_c ?_
          refine rd_I0 ?_
          refine rd_i ?_
          refine rd_np ?_
          refine rd_slS g54 ?_
          refine rd_catS g55 ?_
          exact hQ _ _ _ S40 w41 rfl
        · skip
          cases hm
          refine rd_next ?_
          refine rd_ret ?_
          refine rd_v rfl ?_
          exact hQ _ _ _ S40 w41 rfl
def sp_Form_holds (K : PySem.W.Frag) : Sp := fun vs H Q _ => ∃ (F : Hp) (v_self : V) (a_self : (List Str)) (v_truths : V) (a_truths : (List Bool)) (r : Bool), vs = [v_self, v_truths] ∧ Same F H ∧ qForm.r K F v_self a_self ∧ (qL qB).r K F v_truths a_truths ∧ m_Form_holds a_self a_truths = some r ∧ ∀ v F' H', Sx P0 F H F' H' → qB.r K F' v r → Q v H'
theorem sc_Form_holds : FnScope ["self", "truths"] ["self", "truths"] (defScope s_Form_holds) := ⟨rfl, rfl, rfl, by decide +kernel, rfl, by decide +kernel, by decide +kernel⟩
theorem bn_Form_holds (T : Tx P K mg) : Binds K (fdOf K ("Form", some "holds")) ["self", "truths"] [] := FunD.bindsN T.F_Form_holds fun _ _ _ _ _ _ us hl => match us, hl with | [_, _], _ => rfl
theorem ok_Form_holds (T : Tx P K mg) : FnOk P w K mg base CX0 1 (He.fAd K ("Form", some "holds")) (fdOf K ("Form", some "holds")) ["self", "truths"] (sp_Form_holds K) := by
  refine FunD.ok T.F_Form_holds sc_Form_holds (fun vs H0 Q E h => ?_) (fun cdv A outer s H0 vs Q E hr h => ?_)
  · obtain ⟨_, _, _, _, _, _, rfl, _⟩ := h
    rfl
  · obtain ⟨F0, v_self, a_self, v_truths, a_truths, r, rfl, hE, f_self, f_truths, hm, hQ⟩ := h
    refine ⟨_, PSs.nox ((pss_one (ps_ret (pe_ix (r := rIxL K) ix_list (pv 1) pe_int (fun _ _ => rfl))))), ?_⟩
    have S : Sx P0 F0 H0 F0 H0 := Sx.refl0 hE
    unfold m_Form_holds at hm
    obtain ⟨t1, e2, hm⟩ := bd_some hm
    refine rd_ret ?_
    refine rd_op ?_
    refine rd_v rfl ?_
    refine rd_c ?_
    refine rd_ixL (S.l f_truths).r e2 (fun u3 f4 => ?_)
    cases (show u3 = (V.bl (t1)) from f4)
    cases hm
    exact hQ _ _ _ S rfl
theorem okv_Form_holds (T : Tx P K mg) (n : Nat) : FnOk P w K mg base CX0 (n + 1) (He.fAd K ("Form", some "holds")) (fdOf K ("Form", some "holds")) ["self", "truths"] (sp_pat_holds n "Form" K) := by
  refine ((ok_Form_holds T).mono (by omega)).imp fun vs H0 Q E h => ?_
  obtain ⟨F0, v, a, vt, t, r, rfl, hE, f, hc, ft, hm, hQ⟩ := h
  obtain ⟨h1, h2, h3⟩ := patN_some hm
  cases a with
    | both _ _ => exact absurd (show ("Both" : Str) = "Form" from hc) (by decide)
    | either _ _ => exact absurd (show ("Either" : Str) = "Form" from hc) (by decide)
    | form a =>
    exact ⟨F0, v, a, vt, t, r, rfl, hE, f, ft, (show ((atI t 0).bind fun t1 => some t1) = some r by rw [show atI t 0 = some r from h3]; rfl), hQ⟩
theorem sc_Both_holds : FnScope ["self", "truths", "middle"] ["self", "truths"] (defScope s_Both_holds) := ⟨rfl, rfl, rfl, by decide +kernel, rfl, by decide +kernel, by decide +kernel⟩
theorem bn_Both_holds (T : Tx P K mg) : Binds K (fdOf K ("Both", some "holds")) ["self", "truths"] [] := FunD.bindsN T.F_Both_holds fun _ _ _ _ _ _ us hl => match us, hl with | [_, _], _ => rfl
theorem okv_Both_holds (T : Tx P K mg) {n : Nat} (V : VM P w K mg base (n + 1) "holds" ["self", "truths"] (fun x => sp_pat_holds n x K)) : FnOk P w K mg base CX0 (n + 2) (He.fAd K ("Both", some "holds")) (fdOf K ("Both", some "holds")) ["self", "truths"] (sp_pat_holds (n + 1) "Both" K) := by
  have VF : VM P w K mg base (n + 1) "forms" ["self"] (fun x => sp_pat_forms n x K) := vm_forms T n
  refine FunD.ok T.F_Both_holds sc_Both_holds (fun vs H0 Q E h => ?_) (fun cdv A outer s H0 vs Q E hr h => ?_)
  · obtain ⟨_, _, _, _, _, _, rfl, _⟩ := h
    rfl
  · obtain ⟨F0, v, a, vt, t, r, rfl, hE, f, hc, ft, hm, hQ⟩ := h
    obtain ⟨h1, h2, h3⟩ := patN_some hm
    cases a with
    | form _ => exact absurd (show ("Form" : Str) = "Both" from hc) (by decide)
    | either _ _ => exact absurd (show ("Either" : Str) = "Both" from hc) (by decide)
    | both l r' =>
    obtain ⟨p, dx, u, w', rfl, e2, rl, rr⟩ := (show qPatR K F0 v (.both l r') from f)
    replace rl : qPat.r K F0 u l := rl
    replace rr : qPat.r K F0 w' r' := rr
    have hl : l.ht ≤ n ∧ r'.ht ≤ n := by
      have h1 : max l.ht r'.ht + 1 ≤ n + 1 := h1
      omega
    have hf : l.forms.length + r'.forms.length ≤ 16 := by
      have h2 : (l.forms ++ r'.forms).length ≤ 16 := h2
      rw [List.length_append] at h2
      exact h2
    obtain ⟨b, eb, h3⟩ := bd_some (show ((l.holds (cut t none (some (l.forms.length : Int)))).bind fun b => if b = true then r'.holds (cut t (some (l.forms.length : Int)) none) else some false) = some r from h3)
    refine ⟨_, PSs.nox (pss_cons (ps_set (i := 2) sc_Both_holds.nd rfl (by first | exact Or.inl rfl | exact Or.inr rfl) (pe_callB (r := rLenQ K) cr_lenQ (by rfl) T.n_len (by decide +kernel) (pa_cons (pe_methV0 (E := E0) (pe_fldK (pv 0) rfl)) pa_nil))) (pss_one (ps_ret (pe_and (pe_methV (E := E0) (pe_fldK (pv 0) rfl) (pa_cons (pe_slice (r := rSlL K) sl_list (pv 1) po_none (po_some (pv 2))) pa_nil)) (pe_one (pe_methV (E := E0) (pe_fldK (pv 0) rfl) (pa_cons (pe_slice (r := rSlL K) sl_list (pv 1) (po_some (pv 2)) po_none) pa_nil))))))), ?_⟩
    have S : Sx P0 F0 H0 F0 H0 := Sx.refl0 hE
    refine rd_seq ?_
    refine rd_asg ?_
    refine rd_cb ?_
    refine rd_cons ?_
    refine rd_methV ?_
    refine rd_fld ?_
    refine rd_v rfl ?_
    refine fd_at (S.sub _ _ e2) T.c_Both T.na_Both_left (by rfl) ?_
    refine VF.call (hr.mono (by omega)) S rl (kt := ?_)
    refine rd_nil ?_
    refine ⟨F0, _, _, _, rfl, S.sub, rl, rfl, patN_of hl.1 (by omega), fun v1 F1 H1 c1 f1 => ?_⟩
    have S1 := S.call0 c1
    have rr := qPat.mono c1.le rr
    have rl := qPat.mono c1.le rl
    have ft := (qL qB).mono c1.le ft
    refine rd_nil ?_
    refine rd_lenQ (S1.l f1).r.q ?_
    refine rd_gn ?_
    refine rd_ret ?_
    refine rd_andV ?_
    refine rd_methV ?_
    refine rd_fld ?_
    refine rd_v rfl ?_
    refine fd_at (S1.sub _ _ (S1.le _ _ e2)) T.c_Both T.na_Both_left (by rfl) ?_
    refine V.call (hr.mono (by omega)) S1 rl (kt := ?_)
    refine rd_cons ?_
    refine rd_sl ?_
    refine rd_v rfl ?_
    refine rd_np ?_
    refine rd_pt ?_
    refine rd_v rfl ?_
    refine rd_i ?_
    refine rd_slL (S1.l ft).r ?_
    refine alL' S1 (fun v2 F2 H2 c2 f2 => ?_)
    have S2 := S1.call0 c2
    have rl := qPat.mono c2.le rl
    have rr := qPat.mono c2.le rr
    have ft := (qL qB).mono c2.le ft
    refine rd_nil ?_
    refine ⟨F2, _, _, _, _, _, rfl, S2.sub, rl, rfl, f2, (patN_of hl.1 (by omega)).trans eb, fun v4 F4 H4 c4 f4 => ?_⟩
    cases (show v4 = .bl b from f4)
    have S4 := S2.call0 c4
    have rr := qPat.mono c4.le rr
    have ft := (qL qB).mono c4.le ft
    refine rd_b ?_
    cases b with
    | true =>
      refine if_tt ?_
      refine rd_methV ?_
      refine rd_fld ?_
      refine rd_v rfl ?_
      refine fd_at (S4.sub _ _ (S4.le _ _ e2)) T.c_Both T.na_Both_right (by rfl) ?_
      refine V.call (hr.mono (by omega)) S4 rr (kt := ?_)
      refine rd_cons ?_
      refine rd_sl ?_
      refine rd_v rfl ?_
      refine rd_pt ?_
      refine rd_v rfl ?_
      refine rd_i ?_
      refine rd_np ?_
      refine rd_slL (S4.l ft).r ?_
      refine alL' S4 (fun v5 F5 H5 c5 f5 => ?_)
      have S5 := S4.call0 c5
      have rr := qPat.mono c5.le rr
      refine rd_nil ?_
      refine ⟨F5, _, _, _, _, _, rfl, S5.sub, rr, rfl, f5, (patN_of hl.2 (by omega)).trans h3, fun v6 F6 H6 c6 f6 => ?_⟩
      cases (show v6 = .bl r from f6)
      exact hQ _ _ _ (S5.call0 c6) rfl
    | false =>
      cases (show some false = some r from h3)
      exact hQ _ _ _ S4 rfl
theorem sc_Either_holds : FnScope ["self", "truths", "middle"] ["self", "truths"] (defScope s_Either_holds) := ⟨rfl, rfl, rfl, by decide +kernel, rfl, by decide +kernel, by decide +kernel⟩
theorem bn_Either_holds (T : Tx P K mg) : Binds K (fdOf K ("Either", some "holds")) ["self", "truths"] [] := FunD.bindsN T.F_Either_holds fun _ _ _ _ _ _ us hl => match us, hl with | [_, _], _ => rfl
theorem okv_Either_holds (T : Tx P K mg) {n : Nat} (V : VM P w K mg base (n + 1) "holds" ["self", "truths"] (fun x => sp_pat_holds n x K)) : FnOk P w K mg base CX0 (n + 2) (He.fAd K ("Either", some "holds")) (fdOf K ("Either", some "holds")) ["self", "truths"] (sp_pat_holds (n + 1) "Either" K) := by
  have VF : VM P w K mg base (n + 1) "forms" ["self"] (fun x => sp_pat_forms n x K) := vm_forms T n
  refine FunD.ok T.F_Either_holds sc_Either_holds (fun vs H0 Q E h => ?_) (fun cdv A outer s H0 vs Q E hr h => ?_)
  · obtain ⟨_, _, _, _, _, _, rfl, _⟩ := h
    rfl
  · obtain ⟨F0, v, a, vt, t, r, rfl, hE, f, hc, ft, hm, hQ⟩ := h
    obtain ⟨h1, h2, h3⟩ := patN_some hm
    cases a with
    | form _ => exact absurd (show ("Form" : Str) = "Either" from hc) (by decide)
    | both _ _ => exact absurd (show ("Both" : Str) = "Either" from hc) (by decide)
    | either l r' =>
    obtain ⟨p, dx, u, w', rfl, e2, rl, rr⟩ := (show qPatR K F0 v (.either l r') from f)
    replace rl : qPat.r K F0 u l := rl
    replace rr : qPat.r K F0 w' r' := rr
    have hl : l.ht ≤ n ∧ r'.ht ≤ n := by
      have h1 : max l.ht r'.ht + 1 ≤ n + 1 := h1
      omega
    have hf : l.forms.length + r'.forms.length ≤ 16 := by
      have h2 : (l.forms ++ r'.forms).length ≤ 16 := h2
      rw [List.length_append] at h2
      exact h2
    obtain ⟨b, eb, h3⟩ := bd_some (show ((l.holds (cut t none (some (l.forms.length : Int)))).bind fun b => if b = true then some true else r'.holds (cut t (some (l.forms.length : Int)) none)) = some r from h3)
    refine ⟨_, PSs.nox (pss_cons (ps_set (i := 2) sc_Either_holds.nd rfl (by first | exact Or.inl rfl | exact Or.inr rfl) (pe_callB (r := rLenQ K) cr_lenQ (by rfl) T.n_len (by decide +kernel) (pa_cons (pe_methV0 (E := E0) (pe_fldK (pv 0) rfl)) pa_nil))) (pss_one (ps_ret (pe_or (pe_methV (E := E0) (pe_fldK (pv 0) rfl) (pa_cons (pe_slice (r := rSlL K) sl_list (pv 1) po_none (po_some (pv 2))) pa_nil)) (pe_one (pe_methV (E := E0) (pe_fldK (pv 0) rfl) (pa_cons (pe_slice (r := rSlL K) sl_list (pv 1) (po_some (pv 2)) po_none) pa_nil))))))), ?_⟩
    have S : Sx P0 F0 H0 F0 H0 := Sx.refl0 hE
    refine rd_seq ?_
    refine rd_asg ?_
    refine rd_cb ?_
    refine rd_cons ?_
    refine rd_methV ?_
    refine rd_fld ?_
    refine rd_v rfl ?_
    refine fd_at (S.sub _ _ e2) T.c_Either T.na_Either_left (by rfl) ?_
    refine VF.call (hr.mono (by omega)) S rl (kt := ?_)
    refine rd_nil ?_
    refine ⟨F0, _, _, _, rfl, S.sub, rl, rfl, patN_of hl.1 (by omega), fun v1 F1 H1 c1 f1 => ?_⟩
    have S1 := S.call0 c1
    have rr := qPat.mono c1.le rr
    have rl := qPat.mono c1.le rl
    have ft := (qL qB).mono c1.le ft
    refine rd_nil ?_
    refine rd_lenQ (S1.l f1).r.q ?_
    refine rd_gn ?_
    refine rd_ret ?_
    refine rd_orV ?_
    refine rd_methV ?_
    refine rd_fld ?_
    refine rd_v rfl ?_
    refine fd_at (S1.sub _ _ (S1.le _ _ e2)) T.c_Either T.na_Either_left (by rfl) ?_
    refine V.call (hr.mono (by omega)) S1 rl (kt := ?_)
    refine rd_cons ?_
    refine rd_sl ?_
    refine rd_v rfl ?_
    refine rd_np ?_
    refine rd_pt ?_
    refine rd_v rfl ?_
    refine rd_i ?_
    refine rd_slL (S1.l ft).r ?_
    refine alL' S1 (fun v2 F2 H2 c2 f2 => ?_)
    have S2 := S1.call0 c2
    have rl := qPat.mono c2.le rl
    have rr := qPat.mono c2.le rr
    have ft := (qL qB).mono c2.le ft
    refine rd_nil ?_
    refine ⟨F2, _, _, _, _, _, rfl, S2.sub, rl, rfl, f2, (patN_of hl.1 (by omega)).trans eb, fun v4 F4 H4 c4 f4 => ?_⟩
    cases (show v4 = .bl b from f4)
    have S4 := S2.call0 c4
    have rr := qPat.mono c4.le rr
    have ft := (qL qB).mono c4.le ft
    refine rd_b ?_
    cases b with
    | true =>
      cases (show some true = some r from h3)
      exact hQ _ _ _ S4 rfl
    | false =>
      refine if_ff ?_
      refine rd_methV ?_
      refine rd_fld ?_
      refine rd_v rfl ?_
      refine fd_at (S4.sub _ _ (S4.le _ _ e2)) T.c_Either T.na_Either_right (by rfl) ?_
      refine V.call (hr.mono (by omega)) S4 rr (kt := ?_)
      refine rd_cons ?_
      refine rd_sl ?_
      refine rd_v rfl ?_
      refine rd_pt ?_
      refine rd_v rfl ?_
      refine rd_i ?_
      refine rd_np ?_
      refine rd_slL (S4.l ft).r ?_
      refine alL' S4 (fun v5 F5 H5 c5 f5 => ?_)
      have S5 := S4.call0 c5
      have rr := qPat.mono c5.le rr
      refine rd_nil ?_
      refine ⟨F5, _, _, _, _, _, rfl, S5.sub, rr, rfl, f5, (patN_of hl.2 (by omega)).trans h3, fun v6 F6 H6 c6 f6 => ?_⟩
      cases (show v6 = .bl r from f6)
      exact hQ _ _ _ (S5.call0 c6) rfl
theorem okv_void_holds {C : Str} (hC : C = "Both" ∨ C = "Either") : FnOk P w K mg base CX0 1 (He.fAd K (C, some "holds")) (fdOf K (C, some "holds")) ["self", "truths"] (sp_pat_holds 0 C K) := by
  have no : ∀ vs H Q E, ¬ sp_pat_holds 0 C K vs H Q E := by
    intro vs H Q E h
    obtain ⟨_, _, a, _, _, _, _, _, _, hc, _, hm, _⟩ := h
    obtain ⟨h1, _, _⟩ := patN_some hm
    cases a with
    | form _ =>
      subst hc
      rcases hC with h | h
      · exact absurd (show ("Form" : Str) = "Both" from h) (by decide)
      · exact absurd (show ("Form" : Str) = "Either" from h) (by decide)
    | both l r => exact absurd (show max l.ht r.ht + 1 ≤ 0 from h1) (by omega)
    | either l r => exact absurd (show max l.ht r.ht + 1 ≤ 0 from h1) (by omega)
  exact ⟨fun vs H Q E h => absurd h (no vs H Q E), fun A outer s H args us vs Q E hr he hb hv h => absurd h (no vs H Q E)⟩
theorem vm_holds (T : Tx P K mg) : ∀ n, VM P w K mg base (n + 1) "holds" ["self", "truths"] (fun x => sp_pat_holds n x K)
  | 0 => ⟨fun x hx => by
    rcases hx with rfl | rfl | rfl
    · exact ⟨T.c_Form, T.me_Form_holds, okv_Form_holds T 0, bn_Form_holds T⟩
    · exact ⟨T.c_Both, T.me_Both_holds, okv_void_holds (.inl rfl), bn_Both_holds T⟩
    · exact ⟨T.c_Either, T.me_Either_holds, okv_void_holds (.inr rfl), bn_Either_holds T⟩⟩
  | n + 1 => ⟨fun x hx => by
    have V := vm_holds T n
    rcases hx with rfl | rfl | rfl
    · exact ⟨T.c_Form, T.me_Form_holds, okv_Form_holds T (n + 1), bn_Form_holds T⟩
    · exact ⟨T.c_Both, T.me_Both_holds, okv_Both_holds T V, bn_Both_holds T⟩
    · exact ⟨T.c_Either, T.me_Either_holds, okv_Either_holds T V, bn_Either_holds T⟩⟩
def sp_cells_of (K : PySem.W.Frag) : Sp := fun vs H Q _ => ∃ (F : Hp) (v_parts : V) (a_parts : (List Str)) (r : (List Str)), vs = [v_parts] ∧ Same F H ∧ (qQ qS).r K F v_parts a_parts ∧ m_cells_of a_parts = some r ∧ ∀ v F' H', Sx P0 F H F' H' → (qL qS).r K F' v r → Q v H'
theorem sc_cells_of : FnScope ["parts", "cells", "part"] ["parts"] (defScope s_cells_of) := ⟨rfl, rfl, rfl, by decide +kernel, rfl, by decide +kernel, by decide +kernel⟩
theorem bn_cells_of (T : Tx P K mg) : Binds K (fdOf K ("cells_of", none)) ["parts"] [] := FunD.bindsN T.F_cells_of fun _ _ _ _ _ _ us hl => match us, hl with | [_], _ => rfl
theorem ok_cells_of (T : Tx P K mg) : FnOk P w K mg base CX0 1 (He.ga K "cells_of") (fdOf K ("cells_of", none)) ["parts"] (sp_cells_of K) := by
  refine FunD.ok T.F_cells_of sc_cells_of (fun vs H0 Q E h => ?_) (fun cdv A outer s H0 vs Q E hr h => ?_)
  · obtain ⟨_, _, _, _, rfl, _⟩ := h
    rfl
  · obtain ⟨F0, v_parts, a_parts, r, rfl, hE, f_parts, hm, hQ⟩ := h
    refine ⟨_, PSs.nox ((pss_cons (ps_set (i := 1) sc_cells_of.nd rfl (by first | exact Or.inl rfl | exact Or.inr rfl) (pe_lst pa_nil)) (pss_cons (ps_for PassesOwn.never rfl (pi_seq (pv 0)) (pg_name (i := 2) sc_cells_of.nd rfl (by first | exact Or.inl rfl | exact Or.inr rfl)) (pss_one (ps_if (pt_cmpR (r := rIn K false) op_in_seq (pv 2) (pe_glob (v := V.ref (He.ga K "FREE_CELLS")) (by rfl) T.g_FREE_CELLS rfl) rfl) (pss_one (ps_expr (pe_bmK (K := K) PySem.F.plainAttrs_list PySem.F.slot_list_append PySem.F.type_list_append mt_append (pv 1) (pa_cons (pv 2) pa_nil)))) (pss_one (ps_expr (pe_bmK (K := K) PySem.F.plainAttrs_list PySem.F.slot_list_extend PySem.F.type_list_extend mt_extend (pv 1) (pa_cons (pe_callTy (cr_listS rfl) (by rfl) T.n_list (by decide +kernel) (pa_cons (pv 2) pa_nil)) pa_nil))))))) (pss_one (ps_ret (pv 1)))))), ?_⟩
    have S : Sx P0 F0 H0 F0 H0 := Sx.refl0 hE
    unfold m_cells_of at hm
    refine rd_seq ?_
    refine rd_asg ?_
    refine rd_lst ?_
    refine rd_nil ?_
    refine rd_lK rfl ?_
    refine al S (fun p1 H2 np3 c4 w5 => ?_)
    have z7 := S.free0 np3
    have S8 := S.call0 c4
    have f_parts := (qQ qS).mono c4.le f_parts
    refine rd_gn ?_
    refine rd_seq ?_
    refine rd_for ?_
    refine rd_wSeq S8 f_parts (by intro _ k; exact rd_v rfl k) (fun J9 n10 G11 it12 fd13 ty14 hg15 => ?_)
    have r16 : Row qS K F0 [] ([] : List Str) := .nil
    obtain ⟨t17, e18, hm⟩ := bd_some hm
    refine rd_forS fd13 ty14 e18 (fun (s19 : (List Str)) σ H => ∃ (F : Hp) (o2 : Option V) (vs0 : List V), σ = [some v_parts, some (V.ref p1), o2] ∧ Sx (fun a => a = p1) F0 H2 F H ∧ Ow (fun a => a = p1) H2 F H p1 (.lst vs0) ∧ Row qS K F vs0 s19) ?_ ?_ ?_ ?_
    · rintro _ _ _ ⟨_, _, _, _, S20, _, _⟩
      exact (hg15 _ _ S20.le S20.sub)
    · skip
      have S21 : Sx (fun a => a = p1) _ _ _ _ := Sx.refl S8.sub (fun a z => by rw [z, w5.at_]; exact (fun h => nomatch h))
      have w22 : Ow (fun a => a = p1) H2 _ _ _ _ := ⟨w5.fr, w5.at_, .inr (rfl)⟩
      exact ⟨F0, _, _, rfl, S21, w22, r16⟩
    · skip
      rintro x23 v24 s25 c29 σ26 H27 f28 ⟨F30, o32, v33, rfl, S31, w34, r35⟩ hm38
      have f_parts := (qQ qS).mono S31.le f_parts
      unfold m_cells_of_b1 at hm38
      cases (show v24 = (V.str (x23)) from f28)
      have f39 : (qT qS).r K F30 (.ref (He.ga K "FREE_CELLS")) (["<digits>", "<word>", "<any>"] : List Str) := T.q_FREE_CELLS _
      refine rd_gn ?_
      refine rd_ifS ?_
      refine rd_test ?_
      refine rd_op ?_
      refine rd_v rfl ?_
      refine rd_c ?_
      refine rd_inS (S31.t f39).q ?_
      refine rd_b ?_
      refine if_b hm38 (fun b40 hm38 => ?_) (fun b40 hm38 => ?_)
      · skip
        obtain ⟨g41, hm38⟩ := gd_some hm38
        refine rd_drop ?_
        refine rd_bm ?_
        refine rd_v rfl ?_
        refine rd_ty w34.ty ?_
        refine rd_cons ?_
        refine rd_v rfl ?_
        refine rd_nil ?_
        refine ap S31 w34 r35 g41 (fun H42 c43 w44 => ?_)
        have r45 := r35.snoc (show qS.r K F30 _ x23 from rfl)
        have S46 := S31.call1 c43 w34
        have f_parts := (qQ qS).mono c43.le f_parts
        have r45 := Row.mono c43.le r45
        cases hm38
        exact ⟨F30, _, _, rfl, S46, w44, r45⟩
      · skip
        obtain ⟨g47, hm38⟩ := gd_some hm38
        refine rd_drop ?_
        refine rd_bm ?_
        refine rd_v rfl ?_
        refine rd_ty w34.ty ?_
        refine rd_cons ?_
        refine rd_cb ?_
        refine rd_cons ?_
        refine rd_v rfl ?_
        refine rd_nil ?_
        refine rd_listS (K := K) (F := F30) g47 ?_
        refine alL' S31 (fun v48 F49 H50 c51 f52 => ?_)
        have S53 := S31.call0 c51
        have f_parts := (qQ qS).mono c51.le f_parts
        have r35 := Row.mono c51.le r35
        have w34 := w34.call0 c51
        obtain ⟨g54, hm38⟩ := gd_some hm38
        refine rd_nil ?_
        refine ex' S53 w34 r35 (S53.l f52) g54 (fun us55 H56 c57 w58 r59 => ?_)
        have S60 := S53.call1 c57 w34
        have f_parts := (qQ qS).mono c57.le f_parts
        have r59 := Row.mono c57.le r59
        cases hm38
        exact ⟨F49, _, _, rfl, S60, w58, r59⟩
    · skip
      rintro σ61 H62 ⟨F63, o65, v66, rfl, S64, w67, r68⟩
      have S69 := S8.call1 S64 w5
      have f_parts := (qQ qS).mono S64.le f_parts
      have w70 : Ow P0 H0 _ _ _ _ := ⟨w67.fr, w67.at_, w5.mine⟩
      obtain ⟨F71, S72, le73, f74, _, eq75⟩ := fz S69 w70 z7 r68
      have f_parts := (qQ qS).mono le73 f_parts
      cases hm
      refine rd_ret ?_
      refine rd_v rfl ?_
      exact hQ _ _ _ S72 f74
def sp_closed (K : PySem.W.Frag) : Sp := fun vs H Q _ => ∃ (F : Hp) (v_cells : V) (a_cells : (List Str)) (v_positions : V) (a_positions : (List Int)) (r : (List Int)), vs = [v_cells, v_positions] ∧ Same F H ∧ (qL qS).r K F v_cells a_cells ∧ (qQ qI).r K F v_positions a_positions ∧ m_closed a_cells a_positions = some r ∧ ∀ v F' H', Sx P0 F H F' H' → (qT qI).r K F' v r → Q v H'
theorem sc_closed : FnScope ["cells", "positions", "found", "at"] ["cells", "positions"] (defScope s_closed) := ⟨rfl, rfl, rfl, by decide +kernel, rfl, by decide +kernel, by decide +kernel⟩
theorem bn_closed (T : Tx P K mg) : Binds K (fdOf K ("closed", none)) ["cells", "positions"] [] := FunD.bindsN T.F_closed fun _ _ _ _ _ _ us hl => match us, hl with | [_, _], _ => rfl
theorem ok_closed (T : Tx P K mg) : FnOk P w K mg base CX0 1 (He.ga K "closed") (fdOf K ("closed", none)) ["cells", "positions"] (sp_closed K) := by
  refine FunD.ok T.F_closed sc_closed (fun vs H0 Q E h => ?_) (fun cdv A outer s H0 vs Q E hr h => ?_)
  · obtain ⟨_, _, _, _, _, _, rfl, _⟩ := h
    rfl
  · obtain ⟨F0, v_cells, a_cells, v_positions, a_positions, r, rfl, hE, f_cells, f_positions, hm, hQ⟩ := h
    refine ⟨_, PSs.nox ((pss_cons (ps_set (i := 2) sc_closed.nd rfl (by first | exact Or.inl rfl | exact Or.inr rfl) (pe_lst pa_nil)) (pss_cons (ps_for PassesOwn.never rfl (pi_range1 (by rfl) T.n_range (pa_cons (pe_op op_add (pe_callB (r := rLenQ K) cr_lenQ (by rfl) T.n_len (by decide +kernel) (pa_cons (pv 0) pa_nil)) pe_int) pa_nil)) (pg_name (i := 3) sc_closed.nd rfl (by first | exact Or.inl rfl | exact Or.inr rfl)) (pss_one (ps_if (PW.pt (pw_or (pt_cmpR (r := rIn K false) op_in_seq (pv 3) (pv 1) rfl) (pw_or1 (PW.pt (pw_and (pt_cmpR op_gt (pv 3) pe_int (nomark _)) (pw_and (pt_cmpR op_eqS (pe_ix (r := rIxL K) ix_list (pv 0) (pe_op op_sub (pv 3) pe_int) (fun _ _ => rfl)) (pe_glob (v := V.str "<any>") (by rfl) (T.k_ANY_CELL.choose_spec) ⟨_, rfl⟩) (nomark _)) (pw_and1 (pt_cmpR (r := rIn K false) op_in_seq (pe_op op_sub (pv 3) pe_int) (pv 2) rfl)))))))) (pss_one (ps_expr (pe_bmK (K := K) PySem.F.plainAttrs_list PySem.F.slot_list_append PySem.F.type_list_append mt_append (pv 2) (pa_cons (pv 3) pa_nil)))) pss_nil))) (pss_one (ps_ret (pe_tupleOf (by rfl) T.n_tuple (pv 2))))))), ?_⟩
    have S : Sx P0 F0 H0 F0 H0 := Sx.refl0 hE
    unfold m_closed at hm
    refine rd_seq ?_
    refine rd_asg ?_
    refine rd_lst ?_
    refine rd_nil ?_
    refine rd_lK rfl ?_
    refine al S (fun p1 H2 np3 c4 w5 => ?_)
    have z7 := S.free0 np3
    have S8 := S.call0 c4
    have f_cells := (qL qS).mono c4.le f_cells
    have f_positions := (qQ qI).mono c4.le f_positions
    obtain ⟨g9, hm⟩ := gd_some hm
    refine rd_gn ?_
    refine rd_seq ?_
    refine rd_for ?_
    refine rd_iR1 ?_
    refine rd_cons ?_
    refine rd_op ?_
    refine rd_cb ?_
    refine rd_cons ?_
    refine rd_v rfl ?_
    refine rd_nil ?_
    refine rd_lenQ (S8.l f_cells).r.q ?_
    refine rd_c ?_
    refine rd_I0 ?_
    refine rd_nil ?_
    refine rd_r1 g9 ?_
    have r10 : Row qI K F0 [] ([] : List Int) := .nil
    obtain ⟨t11, e12, hm⟩ := bd_some hm
    refine rd_forS feedsRg (typedR (K := K) (F := F0)) e12 (fun (s13 : (List Int)) σ H => ∃ (F : Hp) (o3 : Option V) (vs0 : List V), σ = [some v_cells, some v_positions, some (V.ref p1), o3] ∧ Sx (fun a => a = p1) F0 H2 F H ∧ Ow (fun a => a = p1) H2 F H p1 (.lst vs0) ∧ Row qI K F vs0 s13) ?_ ?_ ?_ ?_
    · intro _ _ _ _; trivial
    · skip
      have S15 : Sx (fun a => a = p1) _ _ _ _ := Sx.refl S8.sub (fun a z => by rw [z, w5.at_]; exact (fun h => nomatch h))
      have w16 : Ow (fun a => a = p1) H2 _ _ _ _ := ⟨w5.fr, w5.at_, .inr (rfl)⟩
      exact ⟨F0, _, _, rfl, S15, w16, r10⟩
    · skip
      rintro x17 v18 s19 c23 σ20 H21 f22 ⟨F24, o26, v27, rfl, S25, w28, r29⟩ hm32
      have f_cells := (qL qS).mono S25.le f_cells
      have f_positions := (qQ qI).mono S25.le f_positions
      unfold m_closed_b1 at hm32
      cases (show v18 = (V.int (x17)) from f22)
      obtain ⟨t53, e54, hm32⟩ := bd_some hm32
      refine rd_gn ?_
      refine rd_ifS ?_
      refine rd_or ?_
      refine rd_test ?_
      refine rd_op ?_
      refine rd_v rfl ?_
      refine rd_v rfl ?_
      refine rd_inI (S25.q f_positions) ?_
      refine rd_b ?_
      refine or_j (fun c H' => c = t53 ∧ ∃ F', Sx P0 F24 H21 F' H') ?_ ?_ ?_
      · intro b55 Q56 q57
        have e54 := if_f e54 b55
        have S58 := Sx.refl0 S25.sub
        obtain ⟨t63, e64, e54⟩ := bd_some e54
        refine rd_and ?_
        refine rd_test ?_
        refine rd_op ?_
        refine rd_v rfl ?_
        refine rd_c ?_
        refine rd_I0 ?_
        refine rd_b ?_
        refine and_j (fun c H' => c = t63 ∧ ∃ F', Sx P0 F24 H21 F' H') ?_ ?_ ?_
        · intro b65 Q66 q67
          have e64 := if_t e64 b65
          have S68 := Sx.refl0 S58.sub
          obtain ⟨t69, e70, e64⟩ := bd_some e64
          refine rd_and ?_
          refine rd_test ?_
          refine rd_op ?_
          refine rd_op ?_
          refine rd_v rfl ?_
          refine rd_op ?_
          refine rd_v rfl ?_
          refine rd_c ?_
          refine rd_I0 ?_
          refine rd_ixL (S68.l f_cells).r e70 (fun u71 f72 => ?_)
          cases (show u71 = (V.str (t69)) from f72)
          cases e64
          refine rd_c ?_
          refine rd_S0 ?_
          refine rd_b ?_
          refine and_p (by intro _ Q' q; refine rd_test ?_; refine rd_op ?_; refine rd_op ?_; refine rd_v rfl ?_; refine rd_c ?_; refine rd_I0 ?_; refine rd_v rfl ?_; refine rd_inI (w28.l r29).r.q ?_; refine rd_b ?_; exact q) ?_
          exact q67 _ _ ⟨rfl, F24, S68⟩
        · intro b65
          have e64 := if_f e64 b65
          cases e64
          have S73 := Sx.refl0 S58.sub
          exact ⟨rfl, F24, S73⟩
        rintro b77 H75 ⟨rfl, F74, c76⟩
        have S78 := S58.call0 c76
        have f_cells := (qL qS).mono c76.le f_cells
        have f_positions := (qQ qI).mono c76.le f_positions
        have r29 := Row.mono c76.le r29
        have w28 := w28.call0 c76
        cases e54
        exact q57 _ _ ⟨rfl, F74, S78⟩
      · intro b55
        have e54 := if_t e54 b55
        cases e54
        have S79 := Sx.refl0 S25.sub
        exact ⟨rfl, F24, S79⟩
      rintro b83 H81 ⟨rfl, F80, c82⟩
      have S84 := S25.call0 c82
      have f_cells := (qL qS).mono c82.le f_cells
      have f_positions := (qQ qI).mono c82.le f_positions
      have r29 := Row.mono c82.le r29
      have w28 := w28.call0 c82
      refine if_b hm32 (fun b85 hm32 => ?_) (fun b85 hm32 => ?_)
      · skip
        obtain ⟨g86, hm32⟩ := gd_some hm32
        refine rd_drop ?_
        refine rd_bm ?_
        refine rd_v rfl ?_
        refine rd_ty w28.ty ?_
        refine rd_cons ?_
        refine rd_v rfl ?_
        refine rd_nil ?_
        refine ap S84 w28 r29 g86 (fun H87 c88 w89 => ?_)
        have r90 := r29.snoc (show qI.r K F80 _ x17 from rfl)
        have S91 := S84.call1 c88 w28
        have f_cells := (qL qS).mono c88.le f_cells
        have f_positions := (qQ qI).mono c88.le f_positions
        have r90 := Row.mono c88.le r90
        cases hm32
        exact ⟨F80, _, _, rfl, S91, w89, r90⟩
      · skip
        cases hm32
        refine rd_next ?_
        exact ⟨F80, _, _, rfl, S84, w28, r29⟩
    · skip
      rintro σ92 H93 ⟨F94, o96, v97, rfl, S95, w98, r99⟩
      have S100 := S8.call1 S95 w5
      have f_cells := (qL qS).mono S95.le f_cells
      have f_positions := (qQ qI).mono S95.le f_positions
      have w101 : Ow P0 H0 _ _ _ _ := ⟨w98.fr, w98.at_, w5.mine⟩
      refine rd_ret ?_
      refine rd_thn ?_
      refine rd_v rfl ?_
      refine rd_tuple (w101.l r99).r ?_
      refine alT' S100 (fun v102 F103 H104 c105 f106 => ?_)
      have S107 := S100.call0 c105
      have f_cells := (qL qS).mono c105.le f_cells
      have f_positions := (qQ qI).mono c105.le f_positions
      have r99 := Row.mono c105.le r99
      have w101 := w101.call0 c105
      cases hm
      exact hQ _ _ _ S107 f106
def sp_started (K : PySem.W.Frag) : Sp := fun vs H Q _ => ∃ (F : Hp) (v_cells : V) (a_cells : (List Str)) (r : (List Int)), vs = [v_cells] ∧ Same F H ∧ (qL qS).r K F v_cells a_cells ∧ m_started a_cells = some r ∧ ∀ v F' H', Sx P0 F H F' H' → (qT qI).r K F' v r → Q v H'
theorem sc_started : FnScope ["cells"] ["cells"] (defScope s_started) := ⟨rfl, rfl, rfl, by decide +kernel, rfl, by decide +kernel, by decide +kernel⟩
theorem bn_started (T : Tx P K mg) : Binds K (fdOf K ("started", none)) ["cells"] [] := FunD.bindsN T.F_started fun _ _ _ _ _ _ us hl => match us, hl with | [_], _ => rfl
theorem ok_started (T : Tx P K mg) : FnOk P w K mg base CX0 2 (He.ga K "started") (fdOf K ("started", none)) ["cells"] (sp_started K) := by
  refine FunD.ok T.F_started sc_started (fun vs H0 Q E h => ?_) (fun cdv A outer s H0 vs Q E hr h => ?_)
  · obtain ⟨_, _, _, _, rfl, _⟩ := h
    rfl
  · obtain ⟨F0, v_cells, a_cells, r, rfl, hE, f_cells, hm, hQ⟩ := h
    refine ⟨_, PSs.nox ((pss_one (ps_ret (pe_call (ok_closed T) (hr.mono (by decide)) (by rfl) T.g_closed T.F_closed.kp (bn_closed T) .nil pass0 (pa_cons (pv 0) (pa_cons (pe_lst (pa_cons pe_int pa_nil)) pa_nil)))))), ?_⟩
    have S : Sx P0 F0 H0 F0 H0 := Sx.refl0 hE
    unfold m_started at hm
    refine rd_ret ?_
    refine rd_call ?_
    refine rd_cons ?_
    refine rd_v rfl ?_
    refine rd_cons ?_
    refine rd_lst ?_
    refine rd_cons ?_
    refine rd_c ?_
    refine rd_nil ?_
    refine rd_lK rfl ?_
    refine alL (K := K) (A := qI) (xs := ([0] : List Int)) S (.cons rfl .nil) (fun v1 F2 H3 c4 f5 => ?_)
    have S6 := S.call0 c4
    have f_cells := (qL qS).mono c4.le f_cells
    have f7 : (qQ qI).r K F2 v1 ([0] : List Int) := (.inl f5)
    obtain ⟨t8, e9, hm⟩ := bd_some hm
    refine rd_nil ?_
    refine ⟨F2, _, _, _, _, t8, rfl, S6.sub, f_cells, f7, e9, fun v13 F10 H11 c12 f14 => ?_⟩
    have S15 := S6.call0 c12
    have f_cells := (qL qS).mono c12.le f_cells
    cases hm
    exact hQ _ _ _ S15 f14
def sp_Form_parts (K : PySem.W.Frag) : Sp := fun vs H Q _ => ∃ (F : Hp) (v_self : V) (a_self : (List Str)) (r : (List Str)), vs = [v_self] ∧ Same F H ∧ qForm.r K F v_self a_self ∧ m_Form_parts a_self = some r ∧ ∀ v F' H', Sx P0 F H F' H' → (qT qS).r K F' v r → Q v H'
theorem sc_Form_parts : FnScope ["self"] ["self"] (defScope s_Form_parts) := ⟨rfl, rfl, rfl, by decide +kernel, rfl, by decide +kernel, by decide +kernel⟩
theorem bn_Form_parts (T : Tx P K mg) : Binds K (fdOf K ("Form", some "parts")) ["self"] [] := FunD.bindsN T.F_Form_parts fun _ _ _ _ _ _ us hl => match us, hl with | [_], _ => rfl
theorem ok_Form_parts (T : Tx P K mg) : FnOk P w K mg base CX0 1 (He.fAd K ("Form", some "parts")) (fdOf K ("Form", some "parts")) ["self"] (sp_Form_parts K) := by
  refine FunD.ok T.F_Form_parts sc_Form_parts (fun vs H0 Q E h => ?_) (fun cdv A outer s H0 vs Q E hr h => ?_)
  · obtain ⟨_, _, _, _, rfl, _⟩ := h
    rfl
  · obtain ⟨F0, v_self, a_self, r, rfl, hE, f_self, hm, hQ⟩ := h
    refine ⟨_, PSs.nox ((pss_one (ps_ret (pe_fldK (pv 0) rfl)))), ?_⟩
    have S : Sx P0 F0 H0 F0 H0 := Sx.refl0 hE
    unfold m_Form_parts at hm
    refine rd_ret ?_
    refine rd_fld ?_
    refine rd_v rfl ?_
    refine fld_Form_pieces T S f_self (fun u1 f2 => ?_)
    cases hm
    exact hQ _ _ _ S f2
def sp_takes (K : PySem.W.Frag) : Sp := fun vs H Q _ => ∃ (F : Hp) (a_cell : Str) (a_sign : Str) (r : Bool), vs = [(V.str (a_cell)), (V.str (a_sign))] ∧ Same F H ∧ m_takes a_cell a_sign = some r ∧ ∀ v F' H', Sx P0 F H F' H' → qB.r K F' v r → Q v H'
theorem sc_takes : FnScope ["cell", "sign"] ["cell", "sign"] (defScope s_takes) := ⟨rfl, rfl, rfl, by decide +kernel, rfl, by decide +kernel, by decide +kernel⟩
theorem bn_takes (T : Tx P K mg) : Binds K (fdOf K ("takes", none)) ["cell", "sign"] [] := FunD.bindsN T.F_takes fun _ _ _ _ _ _ us hl => match us, hl with | [_, _], _ => rfl
theorem ok_takes (T : Tx P K mg) : FnOk P w K mg base CX0 1 (He.ga K "takes") (fdOf K ("takes", none)) ["cell", "sign"] (sp_takes K) := by
  refine FunD.ok T.F_takes sc_takes (fun vs H0 Q E h => ?_) (fun cdv A outer s H0 vs Q E hr h => ?_)
  · obtain ⟨_, _, _, _, rfl, _⟩ := h
    rfl
  · obtain ⟨F0, a_cell, a_sign, r, rfl, hE, hm, hQ⟩ := h
    refine ⟨_, PSs.nox ((pss_cons (ps_if (pt_cmpR op_eqS (pv 0) (pe_glob (v := V.str "<any>") (by rfl) (T.k_ANY_CELL.choose_spec) ⟨_, rfl⟩) (nomark _)) (pss_one (ps_ret pe_bl)) pss_nil) (pss_cons (ps_if (pt_cmpR op_eqS (pv 0) (pe_glob (v := V.str "<digits>") (by rfl) (T.k_DIGITS_CELL.choose_spec) ⟨_, rfl⟩) (nomark _)) (pss_one (ps_ret (pe_cmpR op_inS (pv 1) (pe_glob (v := V.str "0123456789") (by rfl) (T.k_DIGIT_SIGNS.choose_spec) ⟨_, rfl⟩) rfl))) pss_nil) (pss_cons (ps_if (pt_cmpR op_eqS (pv 0) (pe_glob (v := V.str "<word>") (by rfl) (T.k_WORD_CELL.choose_spec) ⟨_, rfl⟩) (nomark _)) (pss_one (ps_ret (pe_cmpR op_inS (pv 1) (pe_glob (v := V.str "ABCDEFGHIJKLMNOPQRSTUVWXYZabcdefghijklmnopqrstuvwxyz") (by rfl) (T.k_LETTER_SIGNS.choose_spec) ⟨_, rfl⟩) rfl))) pss_nil) (pss_one (ps_ret (pe_cmpR op_eqS (pv 0) (pv 1) (nomark _)))))))), ?_⟩
    have S : Sx P0 F0 H0 F0 H0 := Sx.refl0 hE
    unfold m_takes at hm
    refine rd_seq ?_
    refine rd_ifS ?_
    refine rd_test ?_
    refine rd_op ?_
    refine rd_v rfl ?_
    refine rd_c ?_
    refine rd_S0 ?_
    refine rd_b ?_
    refine if_b hm (fun b1 hm => ?_) (fun b1 hm => ?_)
    · skip
      cases hm
      refine rd_ret ?_
      refine rd_c ?_
      exact hQ _ _ _ S rfl
    · skip
      refine rd_next ?_
      refine rd_seq ?_
      refine rd_ifS ?_
      refine rd_test ?_
      refine rd_op ?_
      refine rd_v rfl ?_
      refine rd_c ?_
      refine rd_S0 ?_
      refine rd_b ?_
      refine if_b hm (fun b2 hm => ?_) (fun b2 hm => ?_)
      · skip
        cases hm
        refine rd_ret ?_
        refine rd_op ?_
        refine rd_v rfl ?_
        refine rd_c ?_
        refine rd_inSS ?_
        exact hQ _ _ _ S rfl
      · skip
        refine rd_next ?_
        refine rd_seq ?_
        refine rd_ifS ?_
        refine rd_test ?_
        refine rd_op ?_
        refine rd_v rfl ?_
        refine rd_c ?_
        refine rd_S0 ?_
        refine rd_b ?_
        refine if_b hm (fun b3 hm => ?_) (fun b3 hm => ?_)
        · skip
          cases hm
          refine rd_ret ?_
          refine rd_op ?_
          refine rd_v rfl ?_
          refine rd_c ?_
          refine rd_inSS ?_
          exact hQ _ _ _ S rfl
        · skip
          cases hm
          refine rd_next ?_
          refine rd_ret ?_
          refine rd_op ?_
          refine rd_v rfl ?_
          refine rd_v rfl ?_
          refine rd_S0 ?_
          exact hQ _ _ _ S rfl
def sp_moved (K : PySem.W.Frag) : Sp := fun vs H Q _ => ∃ (F : Hp) (v_cells : V) (a_cells : (List Str)) (v_positions : V) (a_positions : (List Int)) (a_sign : Str) (r : (List Int)), vs = [v_cells, v_positions, (V.str (a_sign))] ∧ Same F H ∧ (qL qS).r K F v_cells a_cells ∧ (qQ qI).r K F v_positions a_positions ∧ m_moved a_cells a_positions a_sign = some r ∧ ∀ v F' H', Sx P0 F H F' H' → (qT qI).r K F' v r → Q v H'
theorem sc_moved : FnScope ["cells", "positions", "sign", "found", "at"] ["cells", "positions", "sign"] (defScope s_moved) := ⟨rfl, rfl, rfl, by decide +kernel, rfl, by decide +kernel, by decide +kernel⟩
theorem bn_moved (T : Tx P K mg) : Binds K (fdOf K ("moved", none)) ["cells", "positions", "sign"] [] := FunD.bindsN T.F_moved fun _ _ _ _ _ _ us hl => match us, hl with | [_, _, _], _ => rfl
theorem ok_moved (T : Tx P K mg) : FnOk P w K mg base CX0 2 (He.ga K "moved") (fdOf K ("moved", none)) ["cells", "positions", "sign"] (sp_moved K) := by
  refine FunD.ok T.F_moved sc_moved (fun vs H0 Q E h => ?_) (fun cdv A outer s H0 vs Q E hr h => ?_)
  · obtain ⟨_, _, _, _, _, _, _, rfl, _⟩ := h
    rfl
  · obtain ⟨F0, v_cells, a_cells, v_positions, a_positions, a_sign, r, rfl, hE, f_cells, f_positions, hm, hQ⟩ := h
    refine ⟨_, PSs.nox ((pss_cons (ps_set (i := 3) sc_moved.nd rfl (by first | exact Or.inl rfl | exact Or.inr rfl) (pe_lst pa_nil)) (pss_cons (ps_for PassesOwn.never rfl (pi_seq (pv 1)) (pg_name (i := 4) sc_moved.nd rfl (by first | exact Or.inl rfl | exact Or.inr rfl)) (C8.pss_cut (ps_if (PW.pt (pw_and (pt_cmpR op_lt (pv 4) (pe_callB (r := rLenQ K) cr_lenQ (by rfl) T.n_len (by decide +kernel) (pa_cons (pv 0) pa_nil)) (nomark _)) (pw_and1 (pt_val (pe_call (ok_takes T) (hr.mono (by decide)) (by rfl) T.g_takes T.F_takes.kp (bn_takes T) .nil pass0 (pa_cons (pe_ix (r := rIxL K) ix_list (pv 0) (pv 4) (fun _ _ => rfl)) (pa_cons (pv 2) pa_nil))))))) (pss_one (ps_expr (pe_bmK (K := K) PySem.F.plainAttrs_list PySem.F.slot_list_append PySem.F.type_list_append mt_append (pv 3) (pa_cons (pe_ifExp (pt_cmpR op_eqS (pe_ix (r := rIxL K) ix_list (pv 0) (pv 4) (fun _ _ => rfl)) (pe_glob (v := V.str "<any>") (by rfl) (T.k_ANY_CELL.choose_spec) ⟨_, rfl⟩) (nomark _)) (pv 4) (pe_op op_add (pv 4) pe_int)) pa_nil)))) pss_nil) (pss_one (ps_if (PW.pt (pw_and (pt_cmpR op_gt (pv 4) pe_int (nomark _)) (pw_and (pt_cmpR (r := rIn K false) op_in_seq (pe_ix (r := rIxL K) ix_list (pv 0) (pe_op op_sub (pv 4) pe_int) (fun _ _ => rfl)) (pe_tup (pa_cons (pe_glob (v := V.str "<digits>") (by rfl) (T.k_DIGITS_CELL.choose_spec) ⟨_, rfl⟩) (pa_cons (pe_glob (v := V.str "<word>") (by rfl) (T.k_WORD_CELL.choose_spec) ⟨_, rfl⟩) pa_nil))) rfl) (pw_and1 (pt_val (pe_call (ok_takes T) (hr.mono (by decide)) (by rfl) T.g_takes T.F_takes.kp (bn_takes T) .nil pass0 (pa_cons (pe_ix (r := rIxL K) ix_list (pv 0) (pe_op op_sub (pv 4) pe_int) (fun _ _ => rfl)) (pa_cons (pv 2) pa_nil)))))))) (pss_one (ps_expr (pe_bmK (K := K) PySem.F.plainAttrs_list PySem.F.slot_list_append PySem.F.type_list_append mt_append (pv 3) (pa_cons (pv 4) pa_nil)))) pss_nil)))) (pss_one (ps_ret (pe_call (ok_closed T) (hr.mono (by decide)) (by rfl) T.g_closed T.F_closed.kp (bn_closed T) .nil pass0 (pa_cons (pv 0) (pa_cons (pv 3) pa_nil)))))))), ?_⟩
    have S : Sx P0 F0 H0 F0 H0 := Sx.refl0 hE
    unfold m_moved at hm
    refine rd_seq ?_
    refine rd_asg ?_
    refine rd_lst ?_
    refine rd_nil ?_
    refine rd_lK rfl ?_
    refine al S (fun p1 H2 np3 c4 w5 => ?_)
    have z7 := S.free0 np3
    have S8 := S.call0 c4
    have f_cells := (qL qS).mono c4.le f_cells
    have f_positions := (qQ qI).mono c4.le f_positions
    refine rd_gn ?_
    refine rd_seq ?_
    refine rd_for ?_
    refine rd_wSeq S8 f_positions (by intro _ k; exact rd_v rfl k) (fun J9 n10 G11 it12 fd13 ty14 hg15 => ?_)
    have r16 : Row qI K F0 [] ([] : List Int) := .nil
    obtain ⟨t17, e18, hm⟩ := bd_some hm
    refine rd_forS fd13 ty14 e18 (fun (s19 : (List Int)) σ H => ∃ (F : Hp) (o4 : Option V) (vs0 : List V), σ = [some v_cells, some v_positions, some (V.str (a_sign)), some (V.ref p1), o4] ∧ Sx (fun a => a = p1) F0 H2 F H ∧ Ow (fun a => a = p1) H2 F H p1 (.lst vs0) ∧ Row qI K F vs0 s19) ?_ ?_ ?_ ?_
    · rintro _ _ _ ⟨_, _, _, _, S20, _, _⟩
      exact (hg15 _ _ S20.le S20.sub)
    · skip
      have S21 : Sx (fun a => a = p1) _ _ _ _ := Sx.refl S8.sub (fun a z => by rw [z, w5.at_]; exact (fun h => nomatch h))
      have w22 : Ow (fun a => a = p1) H2 _ _ _ _ := ⟨w5.fr, w5.at_, .inr (rfl)⟩
      exact ⟨F0, _, _, rfl, S21, w22, r16⟩
    · skip
      rintro x23 v24 s25 c29 σ26 H27 f28 ⟨F30, o32, v33, rfl, S31, w34, r35⟩ hm38
      have f_cells := (qL qS).mono S31.le f_cells
      have f_positions := (qQ qI).mono S31.le f_positions
      unfold m_moved_b1 at hm38
      cases (show v24 = (V.int (x23)) from f28)
      obtain ⟨t39, e40, hm38⟩ := bd_some hm38
      refine rd_gn ?_
      refine rd_cut (fun σ' H' => ∃ (F : Hp) (vs0 : List V), σ' = [some v_cells, some v_positions, some (V.str (a_sign)), some (V.ref p1), some (V.int (x23))] ∧ Sx (fun a => a = p1) F30 H27 F H' ∧ Ow (fun a => a = p1) H27 F H' p1 (.lst vs0) ∧ Row qI K F vs0 t39) ?_ ?_
      · skip
        have S41 : Sx (fun a => a = p1) _ _ _ _ := Sx.refl S31.sub (fun a z => by rw [z, w34.at_]; exact (fun h => nomatch h))
        have w42 : Ow (fun a => a = p1) H27 _ _ _ _ := ⟨w34.fr, w34.at_, .inr (rfl)⟩
        obtain ⟨t55, e56, e40⟩ := bd_some e40
        refine rd_ifS ?_
        refine rd_and ?_
        refine rd_test ?_
        refine rd_op ?_
        refine rd_v rfl ?_
        refine rd_cb ?_
        refine rd_cons ?_
        refine rd_v rfl ?_
        refine rd_nil ?_
        refine rd_lenQ (S41.l f_cells).r.q ?_
        refine rd_I0 ?_
        refine rd_b ?_
        refine and_j (fun c H' => c = t55 ∧ ∃ F', Sx P0 F30 H27 F' H') ?_ ?_ ?_
        · intro b57 Q58 q59
          have e56 := if_t e56 b57
          have S60 := Sx.refl0 S41.sub
          obtain ⟨t61, e62, e56⟩ := bd_some e56
          refine rd_tB ?_
          refine rd_call ?_
          refine rd_cons ?_
          refine rd_op ?_
          refine rd_v rfl ?_
          refine rd_v rfl ?_
          refine rd_ixL (S60.l f_cells).r e62 (fun u63 f64 => ?_)
          cases (show u63 = (V.str (t61)) from f64)
          obtain ⟨t65, e66, e56⟩ := bd_some e56
          refine rd_cons ?_
          refine rd_v rfl ?_
          refine rd_nil ?_
          refine ⟨F30, _, _, t65, rfl, S60.sub, e66, fun v70 F67 H68 c69 f71 => ?_⟩
          have S72 := S60.call0 c69
          have f_cells := (qL qS).mono c69.le f_cells
          have f_positions := (qQ qI).mono c69.le f_positions
          have r35 := Row.mono c69.le r35
          have w42 := w42.call0 c69
          cases (show v70 = (V.bl (t65)) from f71)
          cases e56
          refine rd_b ?_
          exact q59 _ _ ⟨rfl, F67, S72⟩
        · intro b57
          have e56 := if_f e56 b57
          cases e56
          have S73 := Sx.refl0 S41.sub
          exact ⟨rfl, F30, S73⟩
        rintro b77 H75 ⟨rfl, F74, c76⟩
        have S78 := S41.call0 c76
        have f_cells := (qL qS).mono c76.le f_cells
        have f_positions := (qQ qI).mono c76.le f_positions
        have r35 := Row.mono c76.le r35
        have w42 := w42.call0 c76
        refine if_b e40 (fun b79 e40 => ?_) (fun b79 e40 => ?_)
        · skip
          obtain ⟨t80, e81, e40⟩ := bd_some e40
          refine rd_drop ?_
          refine rd_bm ?_
          refine rd_v rfl ?_
          refine rd_ty w42.ty ?_
          refine rd_cons ?_
          refine rd_ifE ?_
          refine rd_test ?_
          refine rd_op ?_
          refine rd_op ?_
          refine rd_v rfl ?_
          refine rd_v rfl ?_
          refine rd_ixL (S78.l f_cells).r e81 (fun u82 f83 => ?_)
          cases (show u82 = (V.str (t80)) from f83)
          obtain ⟨t84, e85, e40⟩ := bd_some e40
          refine rd_c ?_
          refine rd_S0 ?_
          refine rd_b ?_
          refine ifE_j (fun c H' => ∃ F', c = (V.int (t84)) ∧ Sx P0 F74 H75 F' H') ?_ ?_ ?_
          · intro b86 Q87 q88
            have hm89 := if_t e85 b86
            have S90 := Sx.refl0 S78.sub
            cases hm89
            refine rd_v rfl ?_
            exact q88 _ _ ⟨F74, rfl, S90⟩
          · intro b91 Q92 q93
            have hm94 := if_f e85 b91
            have S95 := Sx.refl0 S78.sub
            cases hm94
            refine rd_op ?_
            refine rd_v rfl ?_
            refine rd_c ?_
            refine rd_I0 ?_
            exact q93 _ _ ⟨F74, rfl, S95⟩
          rintro v99 H97 ⟨F96, f100, c98⟩
          have S101 := S78.call0 c98
          have f_cells := (qL qS).mono c98.le f_cells
          have f_positions := (qQ qI).mono c98.le f_positions
          have r35 := Row.mono c98.le r35
          have w42 := w42.call0 c98
          cases (show v99 = (V.int (t84)) from f100)
          obtain ⟨g102, e40⟩ := gd_some e40
          refine rd_nil ?_
          refine ap S101 w42 r35 g102 (fun H103 c104 w105 => ?_)
          have r106 := r35.snoc (show qI.r K F96 _ t84 from rfl)
          have S107 := S101.call1 c104 w42
          have f_cells := (qL qS).mono c104.le f_cells
          have f_positions := (qQ qI).mono c104.le f_positions
          have r106 := Row.mono c104.le r106
          cases e40
          exact ⟨F96, _, rfl, S107, w105, r106⟩
        · skip
          cases e40
          refine rd_next ?_
          exact ⟨F74, _, rfl, S78, w42, r35⟩
      · skip
        rintro σ109 H108 ⟨F110, v112, rfl, S111, w113, r114⟩
        have S115 := S31.call1 S111 w34
        have f_cells := (qL qS).mono S111.le f_cells
        have f_positions := (qQ qI).mono S111.le f_positions
        have w116 : Ow (fun a => a = p1) H2 _ _ _ _ := ⟨w113.fr, w113.at_, w34.mine⟩
        obtain ⟨t163, e164, hm38⟩ := bd_some hm38
        refine rd_ifS ?_
        refine rd_and ?_
        refine rd_test ?_
        refine rd_op ?_
        refine rd_v rfl ?_
        refine rd_c ?_
        refine rd_I0 ?_
        refine rd_b ?_
        refine and_j (fun c H' => c = t163 ∧ ∃ F', Sx P0 F110 H108 F' H') ?_ ?_ ?_
        · intro b165 Q166 q167
          have e164 := if_t e164 b165
          have S168 := Sx.refl0 S115.sub
          obtain ⟨t169, e170, e164⟩ := bd_some e164
          refine rd_and ?_
          refine rd_test ?_
          refine rd_op ?_
          refine rd_op ?_
          refine rd_v rfl ?_
          refine rd_op ?_
          refine rd_v rfl ?_
          refine rd_c ?_
          refine rd_I0 ?_
          refine rd_ixL (S168.l f_cells).r e170 (fun u171 f172 => ?_)
          cases (show u171 = (V.str (t169)) from f172)
          refine rd_tup ?_
          refine rd_cons ?_
          refine rd_c ?_
          refine rd_cons ?_
          refine rd_c ?_
          refine rd_nil ?_
          refine rd_uK rfl ?_
          refine alT (K := K) (A := qS) (xs := [("<digits>" : Str), ("<word>" : Str)]) S168 (.cons rfl (.cons rfl .nil)) (fun v173 F174 H175 c176 f177 => ?_)
          have S178 := S168.call0 c176
          have f_cells := (qL qS).mono c176.le f_cells
          have f_positions := (qQ qI).mono c176.le f_positions
          have r114 := Row.mono c176.le r114
          have w116 := w116.call0 c176
          obtain ⟨t191, e192, e164⟩ := bd_some e164
          refine rd_inS (S178.t f177).q ?_
          refine rd_b ?_
          refine and_j (fun c H' => c = t191 ∧ ∃ F', Sx P0 F174 H175 F' H') ?_ ?_ ?_
          · intro b193 Q194 q195
            have e192 := if_t e192 b193
            have S196 := Sx.refl0 S178.sub
            obtain ⟨t197, e198, e192⟩ := bd_some e192
            refine rd_tB ?_
            refine rd_call ?_
            refine rd_cons ?_
            refine rd_op ?_
            refine rd_v rfl ?_
            refine rd_op ?_
            refine rd_v rfl ?_
            refine rd_c ?_
            refine rd_I0 ?_
            refine rd_ixL (S196.l f_cells).r e198 (fun u199 f200 => ?_)
            cases (show u199 = (V.str (t197)) from f200)
            obtain ⟨t201, e202, e192⟩ := bd_some e192
            refine rd_cons ?_
            refine rd_v rfl ?_
            refine rd_nil ?_
            refine ⟨F174, _, _, t201, rfl, S196.sub, e202, fun v206 F203 H204 c205 f207 => ?_⟩
            have S208 := S196.call0 c205
            have f_cells := (qL qS).mono c205.le f_cells
            have f_positions := (qQ qI).mono c205.le f_positions
            have r114 := Row.mono c205.le r114
            have w116 := w116.call0 c205
            cases (show v206 = (V.bl (t201)) from f207)
            cases e192
            refine rd_b ?_
            exact q195 _ _ ⟨rfl, F203, S208⟩
          · intro b193
            have e192 := if_f e192 b193
            cases e192
            have S209 := Sx.refl0 S178.sub
            exact ⟨rfl, F174, S209⟩
          rintro b213 H211 ⟨rfl, F210, c212⟩
          have S214 := S178.call0 c212
          have f_cells := (qL qS).mono c212.le f_cells
          have f_positions := (qQ qI).mono c212.le f_positions
          have r114 := Row.mono c212.le r114
          have w116 := w116.call0 c212
          cases e164
          exact q167 _ _ ⟨rfl, F210, S214⟩
        · intro b165
          have e164 := if_f e164 b165
          cases e164
          have S215 := Sx.refl0 S115.sub
          exact ⟨rfl, F110, S215⟩
        rintro b219 H217 ⟨rfl, F216, c218⟩
        have S220 := S115.call0 c218
        have f_cells := (qL qS).mono c218.le f_cells
        have f_positions := (qQ qI).mono c218.le f_positions
        have r114 := Row.mono c218.le r114
        have w116 := w116.call0 c218
        refine if_b hm38 (fun b221 hm38 => ?_) (fun b221 hm38 => ?_)
        · skip
          obtain ⟨g222, hm38⟩ := gd_some hm38
          refine rd_drop ?_
          refine rd_bm ?_
          refine rd_v rfl ?_
          refine rd_ty w116.ty ?_
          refine rd_cons ?_
          refine rd_v rfl ?_
          refine rd_nil ?_
          refine ap S220 w116 r114 g222 (fun H223 c224 w225 => ?_)
          have r226 := r114.snoc (show qI.r K F216 _ x23 from rfl)
          have S227 := S220.call1 c224 w116
          have f_cells := (qL qS).mono c224.le f_cells
          have f_positions := (qQ qI).mono c224.le f_positions
          have r226 := Row.mono c224.le r226
          cases hm38
          exact ⟨F216, _, _, rfl, S227, w225, r226⟩
        · skip
          cases hm38
          refine rd_next ?_
          exact ⟨F216, _, _, rfl, S220, w116, r114⟩
    · skip
      rintro σ228 H229 ⟨F230, o232, v233, rfl, S231, w234, r235⟩
      have S236 := S8.call1 S231 w5
      have f_cells := (qL qS).mono S231.le f_cells
      have f_positions := (qQ qI).mono S231.le f_positions
      have w237 : Ow P0 H0 _ _ _ _ := ⟨w234.fr, w234.at_, w5.mine⟩
      obtain ⟨F238, S239, le240, f241, _, eq242⟩ := fz S236 w237 z7 r235
      have f_cells := (qL qS).mono le240 f_cells
      have f_positions := (qQ qI).mono le240 f_positions
      have f243 : (qQ qI).r K F238 (V.ref p1) t17 := (.inl f241)
      obtain ⟨t244, e245, hm⟩ := bd_some hm
      refine rd_ret ?_
      refine rd_call ?_
      refine rd_cons ?_
      refine rd_v rfl ?_
      refine rd_cons ?_
      refine rd_v rfl ?_
      refine rd_nil ?_
      refine ⟨F238, _, _, _, _, t244, rfl, S239.sub, f_cells, f243, e245, fun v249 F246 H247 c248 f250 => ?_⟩
      have S251 := S239.call0 c248
      have f_cells := (qL qS).mono c248.le f_cells
      have f_positions := (qQ qI).mono c248.le f_positions
      have f241 := (qL qI).mono c248.le f241
      cases hm
      exact hQ _ _ _ S251 f250
def sp_is_done (K : PySem.W.Frag) : Sp := fun vs H Q _ => ∃ (F : Hp) (v_cells : V) (a_cells : (List Str)) (v_positions : V) (a_positions : (List Int)) (r : Bool), vs = [v_cells, v_positions] ∧ Same F H ∧ (qL qS).r K F v_cells a_cells ∧ (qQ qI).r K F v_positions a_positions ∧ m_is_done a_cells a_positions = some r ∧ ∀ v F' H', Sx P0 F H F' H' → qB.r K F' v r → Q v H'
theorem sc_is_done : FnScope ["cells", "positions"] ["cells", "positions"] (defScope s_is_done) := ⟨rfl, rfl, rfl, by decide +kernel, rfl, by decide +kernel, by decide +kernel⟩
theorem bn_is_done (T : Tx P K mg) : Binds K (fdOf K ("is_done", none)) ["cells", "positions"] [] := FunD.bindsN T.F_is_done fun _ _ _ _ _ _ us hl => match us, hl with | [_, _], _ => rfl
theorem ok_is_done (T : Tx P K mg) : FnOk P w K mg base CX0 1 (He.ga K "is_done") (fdOf K ("is_done", none)) ["cells", "positions"] (sp_is_done K) := by
  refine FunD.ok T.F_is_done sc_is_done (fun vs H0 Q E h => ?_) (fun cdv A outer s H0 vs Q E hr h => ?_)
  · obtain ⟨_, _, _, _, _, _, rfl, _⟩ := h
    rfl
  · obtain ⟨F0, v_cells, a_cells, v_positions, a_positions, r, rfl, hE, f_cells, f_positions, hm, hQ⟩ := h
    refine ⟨_, PSs.nox ((pss_one (ps_ret (pe_cmpR (r := rIn K false) op_in_seq (pe_callB (r := rLenQ K) cr_lenQ (by rfl) T.n_len (by decide +kernel) (pa_cons (pv 0) pa_nil)) (pv 1) rfl)))), ?_⟩
    have S : Sx P0 F0 H0 F0 H0 := Sx.refl0 hE
    unfold m_is_done at hm
    cases hm
    refine rd_ret ?_
    refine rd_op ?_
    refine rd_cb ?_
    refine rd_cons ?_
    refine rd_v rfl ?_
    refine rd_nil ?_
    refine rd_lenQ (S.l f_cells).r.q ?_
    refine rd_v rfl ?_
    refine rd_inI (S.q f_positions) ?_
    exact hQ _ _ _ S rfl
def sp_pat___contains__ (x : Str) (K : PySem.W.Frag) : Sp := fun vs H Q _ => ∃ (F : Hp) (v_self : V) (a_self : Pat) (a_line : Str) (r : Bool), vs = [v_self, (V.str (a_line))] ∧ Same F H ∧ qPat.r K F v_self a_self ∧ a_self.cls = x ∧ m_pat___contains__ a_self a_line = some r ∧ ∀ v F' H', Sx P0 F H F' H' → qB.r K F' v r → Q v H'
theorem sc_pat___contains__ : FnScope ["self", "line", "truths", "form", "cells", "positions", "sign"] ["self", "line"] (defScope s_pat___contains__) := ⟨rfl, rfl, rfl, by decide +kernel, rfl, by decide +kernel, by decide +kernel⟩
theorem bn_pat___contains__ {x : Str} (F : FnD' K (x, some "__contains__") "__contains__" "Pattern.__contains__" s_pat___contains__) : Binds K (fdOf K (x, some "__contains__")) ["self", "line"] [] := FunD.bindsN F fun _ _ _ _ _ _ us hl => match us, hl with | [_, _], _ => rfl
theorem ok_pat___contains__ (T : Tx P K mg) {x : Str} (F : FnD' K (x, some "__contains__") "__contains__" "Pattern.__contains__" s_pat___contains__) : FnOk P w K mg base CX0 5 (He.fAd K (x, some "__contains__")) (fdOf K (x, some "__contains__")) ["self", "line"] (sp_pat___contains__ x K) := by
  refine FunD.ok F sc_pat___contains__ (fun vs H0 Q E h => ?_) (fun cdv A outer s H0 vs Q E hr h => ?_)
  · obtain ⟨_, _, _, _, _, rfl, _⟩ := h
    rfl
  · obtain ⟨F0, v_self, a_self, a_line, r, rfl, hE, f_self, hcls, hm, hQ⟩ := h
    refine ⟨_, PSs.nox ((pss_cons (ps_if (pt_not (pt_val (pe_call (ok_is_line T) (hr.mono (by decide)) (by rfl) T.g_is_line T.F_is_line.kp (bn_is_line T) .nil pass0 (pa_cons (pv 1) pa_nil)))) (pss_one (ps_ret pe_bl)) pss_nil) (pss_cons (ps_set (i := 2) sc_pat___contains__.nd rfl (by first | exact Or.inl rfl | exact Or.inr rfl) (pe_lst pa_nil)) (pss_cons (ps_for PassesOwn.never rfl (pi_listK (pe_methV0 (E := E0) (pv 0))) (pg_name (i := 3) sc_pat___contains__.nd rfl (by first | exact Or.inl rfl | exact Or.inr rfl)) (pss_cons (ps_set (i := 4) sc_pat___contains__.nd rfl (by first | exact Or.inl rfl | exact Or.inr rfl) (pe_call (ok_cells_of T) (hr.mono (by decide)) (by rfl) T.g_cells_of T.F_cells_of.kp (bn_cells_of T) .nil pass0 (pa_cons (pe_meth0 (pv 3) T.c_Form T.me_Form_parts (ok_Form_parts T) (hr.mono (by decide)) (bn_Form_parts T) .nil pass0) pa_nil))) (pss_cons (ps_set (i := 5) sc_pat___contains__.nd rfl (by first | exact Or.inl rfl | exact Or.inr rfl) (pe_call (ok_started T) (hr.mono (by decide)) (by rfl) T.g_started T.F_started.kp (bn_started T) .nil pass0 (pa_cons (pv 4) pa_nil))) (pss_cons (ps_for PassesOwn.never rfl (pi_str (pv 1)) (pg_name (i := 6) sc_pat___contains__.nd rfl (by first | exact Or.inl rfl | exact Or.inr rfl)) (pss_one (ps_set (i := 5) sc_pat___contains__.nd rfl (by first | exact Or.inl rfl | exact Or.inr rfl) (pe_call (ok_moved T) (hr.mono (by decide)) (by rfl) T.g_moved T.F_moved.kp (bn_moved T) .nil pass0 (pa_cons (pv 4) (pa_cons (pv 5) (pa_cons (pv 6) pa_nil))))))) (pss_one (ps_expr (pe_bmK (K := K) PySem.F.plainAttrs_list PySem.F.slot_list_append PySem.F.type_list_append mt_append (pv 2) (pa_cons (pe_call (ok_is_done T) (hr.mono (by decide)) (by rfl) T.g_is_done T.F_is_done.kp (bn_is_done T) .nil pass0 (pa_cons (pv 4) (pa_cons (pv 5) pa_nil))) pa_nil)))))))) (pss_one (ps_ret (pe_methV (E := E0) (pv 0) (pa_cons (pv 2) pa_nil)))))))), ?_⟩
    have S : Sx P0 F0 H0 F0 H0 := Sx.refl0 hE
    unfold m_pat___contains__ at hm
    have f1 : qTh.r K F0 (V.str (a_line)) (Th.d (PyData.str (a_line))) := (show qTh.r K F0 _ (Th.d (PyData.str (a_line))) from Dp.str _)
    obtain ⟨t2, e3, hm⟩ := bd_some hm
    refine rd_seq ?_
    refine rd_ifS ?_
    refine rd_not ?_
    refine rd_tB ?_
    refine rd_call ?_
    refine rd_cons ?_
    refine rd_v rfl ?_
    refine rd_nil ?_
    refine ⟨F0, _, _, t2, rfl, S.sub, f1, e3, fun v7 F4 H5 c6 f8 => ?_⟩
    have S9 := S.call0 c6
    have f_self := qPat.mono c6.le f_self
    cases (show v7 = (V.bl (t2)) from f8)
    refine rd_b ?_
    refine if_b hm (fun b10 hm => ?_) (fun b10 hm => ?_)
    · skip
      cases hm
      refine rd_ret ?_
      refine rd_c ?_
      exact hQ _ _ _ S9 rfl
    · skip
      refine rd_next ?_
      refine rd_seq ?_
      refine rd_asg ?_
      refine rd_lst ?_
      refine rd_nil ?_
      refine rd_lK rfl ?_
      refine al S9 (fun p11 H12 np13 c14 w15 => ?_)
      have r16 : Row qB K F4 [] ([] : List Bool) := .nil
      have z17 := S9.free0 np13
      have S18 := S9.call0 c14
      have f_self := qPat.mono c14.le f_self
      refine rd_gn ?_
      refine rd_seq ?_
      refine rd_for ?_
      refine rd_iL ?_
      refine rd_methV ?_
      refine rd_v rfl ?_
      refine VM.call (vm_forms T 3) (hr.mono (by decide)) S18 f_self ?_
      obtain ⟨t19, e20, hm⟩ := bd_some hm
      refine rd_nil ?_
      refine ⟨F4, _, _, t19, rfl, S18.sub, f_self, rfl, e20, fun v24 F21 H22 c23 f25 => ?_⟩
      have S26 := S18.call0 c23
      have f_self := qPat.mono c23.le f_self
      have r16 := Row.mono c23.le r16
      have w15 := w15.call0 c23
      refine rd_wLF S26 (f25) (fun p27 vs28 hq29 row30 => ?_)
      obtain ⟨t31, e32, hm⟩ := bd_some hm
      refine rd_forS feedsL (typedRow row30) e32 (fun (s33 : (List Bool)) σ H => ∃ (F : Hp) (o3 : Option V) (o4 : Option V) (o5 : Option V) (o6 : Option V) (vs0 : List V), σ = [some v_self, some (V.str (a_line)), some (V.ref p11), o3, o4, o5, o6] ∧ Sx (fun a => a = p11) F21 H22 F H ∧ Ow (fun a => a = p11) H22 F H p11 (.lst vs0) ∧ Row qB K F vs0 s33) ?_ ?_ ?_ ?_
      · rintro _ _ _ ⟨_, _, _, _, _, _, _, S34, _, _⟩
        exact (Same.seq S34.sub (Same.seq S34.le hq29))
      · skip
        have S35 : Sx (fun a => a = p11) _ _ _ _ := Sx.refl S26.sub (fun a z => by rw [z, w15.at_]; exact (fun h => nomatch h))
        have w36 : Ow (fun a => a = p11) H22 _ _ _ _ := ⟨w15.fr, w15.at_, .inr (rfl)⟩
        exact ⟨F21, _, _, _, _, _, rfl, S35, w36, r16⟩
      · skip
        rintro x37 v38 s39 c43 σ40 H41 f42 ⟨F44, o46, o47, o48, o49, v50, rfl, S45, w51, r52⟩ hm55
        have f_self := qPat.mono S45.le f_self
        unfold m_pat___contains___b2 at hm55
        have f42 := qForm.mono S45.le f42
        refine rd_gn ?_
        refine rd_seq ?_
        refine rd_asg ?_
        refine rd_call ?_
        refine rd_cons ?_
        refine rd_meth ?_
        refine rd_v rfl ?_
        refine mt_Form_parts S45 f42 ?_
        obtain ⟨t56, e57, hm55⟩ := bd_some hm55
        refine rd_nil ?_
        refine ⟨F44, _, _, t56, rfl, S45.sub, f42, e57, fun v61 F58 H59 c60 f62 => ?_⟩
        have S63 := S45.call0 c60
        have f_self := qPat.mono c60.le f_self
        have f42 := qForm.mono c60.le f42
        have r52 := Row.mono c60.le r52
        have w51 := w51.call0 c60
        have f64 : (qQ qS).r K F58 v61 t56 := (.inr f62)
        obtain ⟨t65, e66, hm55⟩ := bd_some hm55
        refine rd_nil ?_
        refine ⟨F58, _, _, t65, rfl, S63.sub, f64, e66, fun v70 F67 H68 c69 f71 => ?_⟩
        have S72 := S63.call0 c69
        have f_self := qPat.mono c69.le f_self
        have f42 := qForm.mono c69.le f42
        have r52 := Row.mono c69.le r52
        have w51 := w51.call0 c69
        obtain ⟨t73, e74, hm55⟩ := bd_some hm55
        refine rd_gn ?_
        refine rd_seq ?_
        refine rd_asg ?_
        refine rd_call ?_
        refine rd_cons ?_
        refine rd_v rfl ?_
        refine rd_nil ?_
        refine ⟨F67, _, _, t73, rfl, S72.sub, f71, e74, fun v78 F75 H76 c77 f79 => ?_⟩
        have S80 := S72.call0 c77
        have f_self := qPat.mono c77.le f_self
        have f71 := (qL qS).mono c77.le f71
        have f42 := qForm.mono c77.le f42
        have r52 := Row.mono c77.le r52
        have w51 := w51.call0 c77
        refine rd_gn ?_
        refine rd_seq ?_
        refine rd_for ?_
        refine rd_iS ?_
        refine rd_v rfl ?_
        refine rd_wS ?_
        obtain ⟨t81, e82, hm55⟩ := bd_some hm55
        refine rd_forS feedsS (typedS (K := K) (F := F75)) e82 (fun (s83 : (List Int)) σ H => ∃ (F : Hp) (x0 : V) (o6 : Option V), σ = [some v_self, some (V.str (a_line)), some (V.ref p11), some v38, some v70, some x0, o6] ∧ Sx P0 F75 H76 F H ∧ (qT qI).r K F x0 s83) ?_ ?_ ?_ ?_
        · intro _ _ _ _; trivial
        · skip
          have S85 := Sx.refl0 S80.sub
          exact ⟨F75, _, _, rfl, S85, f79⟩
        · skip
          rintro x86 v87 s88 c92 σ89 H90 f91 ⟨F93, x95, o96, rfl, S94, f97⟩ hm100
          have f_self := qPat.mono S94.le f_self
          have f71 := (qL qS).mono S94.le f71
          have f42 := qForm.mono S94.le f42
          have r52 := Row.mono S94.le r52
          have w51 := w51.call0 S94
          unfold m_pat___contains___b1 at hm100
          cases (show v87 = (V.str (x86)) from f91)
          have f101 : (qQ qI).r K F93 x95 s88 := (.inr f97)
          obtain ⟨t102, e103, hm100⟩ := bd_some hm100
          refine rd_gn ?_
          refine rd_asg ?_
          refine rd_call ?_
          refine rd_cons ?_
          refine rd_v rfl ?_
          refine rd_cons ?_
          refine rd_v rfl ?_
          refine rd_cons ?_
          refine rd_v rfl ?_
          refine rd_nil ?_
          refine ⟨F93, _, _, _, _, _, t102, rfl, S94.sub, f71, f101, e103, fun v107 F104 H105 c106 f108 => ?_⟩
          have S109 := S94.call0 c106
          have f_self := qPat.mono c106.le f_self
          have f71 := (qL qS).mono c106.le f71
          have f97 := (qT qI).mono c106.le f97
          have f42 := qForm.mono c106.le f42
          have r52 := Row.mono c106.le r52
          have w51 := w51.call0 c106
          cases hm100
          refine rd_gn ?_
          exact ⟨F104, _, _, rfl, S109, f108⟩
        · skip
          rintro σ110 H111 ⟨F112, x114, o115, rfl, S113, f116⟩
          have S117 := S80.call0 S113
          have f_self := qPat.mono S113.le f_self
          have f71 := (qL qS).mono S113.le f71
          have f42 := qForm.mono S113.le f42
          have r52 := Row.mono S113.le r52
          have w51 := w51.call0 S113
          have f118 : (qQ qI).r K F112 x114 t81 := (.inr f116)
          obtain ⟨t119, e120, hm55⟩ := bd_some hm55
          refine rd_drop ?_
          refine rd_bm ?_
          refine rd_v rfl ?_
          refine rd_ty w51.ty ?_
          refine rd_cons ?_
          refine rd_call ?_
          refine rd_cons ?_
          refine rd_v rfl ?_
          refine rd_cons ?_
          refine rd_v rfl ?_
          refine rd_nil ?_
          refine ⟨F112, _, _, _, _, t119, rfl, S117.sub, f71, f118, e120, fun v124 F121 H122 c123 f125 => ?_⟩
          have S126 := S117.call0 c123
          have f_self := qPat.mono c123.le f_self
          have f71 := (qL qS).mono c123.le f71
          have f116 := (qT qI).mono c123.le f116
          have f42 := qForm.mono c123.le f42
          have r52 := Row.mono c123.le r52
          have w51 := w51.call0 c123
          cases (show v124 = (V.bl (t119)) from f125)
          obtain ⟨g127, hm55⟩ := gd_some hm55
          refine rd_nil ?_
          refine ap S126 w51 r52 g127 (fun H128 c129 w130 => ?_)
          have r131 := r52.snoc (show qB.r K F121 _ t119 from rfl)
          have S132 := S126.call1 c129 w51
          have f_self := qPat.mono c129.le f_self
          have f71 := (qL qS).mono c129.le f71
          have f116 := (qT qI).mono c129.le f116
          have f42 := qForm.mono c129.le f42
          have r131 := Row.mono c129.le r131
          cases hm55
          exact ⟨F121, _, _, _, _, _, rfl, S132, w130, r131⟩
      · skip
        rintro σ133 H134 ⟨F135, o137, o138, o139, o140, v141, rfl, S136, w142, r143⟩
        have S144 := S26.call1 S136 w15
        have f_self := qPat.mono S136.le f_self
        have w145 : Ow P0 H0 _ _ _ _ := ⟨w142.fr, w142.at_, w15.mine⟩
        refine rd_ret ?_
        refine rd_methV ?_
        refine rd_v rfl ?_
        refine VM.call (vm_holds T 3) (hr.mono (by decide)) S144 f_self ?_
        obtain ⟨F146, S147, le148, f149, _, eq150⟩ := fz S144 w145 z17 r143
        have f_self := qPat.mono le148 f_self
        obtain ⟨t151, e152, hm⟩ := bd_some hm
        refine rd_cons ?_
        refine rd_v rfl ?_
        refine rd_nil ?_
        refine ⟨F146, _, _, _, _, t151, rfl, S147.sub, f_self, rfl, f149, e152, fun v156 F153 H154 c155 f157 => ?_⟩
        have S158 := S147.call0 c155
        have f_self := qPat.mono c155.le f_self
        have f149 := (qL qB).mono c155.le f149
        cases (show v156 = (V.bl (t151)) from f157)
        cases hm
        exact hQ _ _ _ S158 rfl
theorem vm_contains (T : Tx P K mg) : VM P w K mg base 5 "__contains__" ["self", "line"] (fun x => sp_pat___contains__ x K) := ⟨fun x hx => by
  rcases hx with rfl | rfl | rfl
  · exact ⟨T.c_Form, T.me_Form___contains__, ok_pat___contains__ T T.F_Form___contains__, bn_pat___contains__ T.F_Form___contains__⟩
  · exact ⟨T.c_Both, T.me_Both___contains__, ok_pat___contains__ T T.F_Both___contains__, bn_pat___contains__ T.F_Both___contains__⟩
  · exact ⟨T.c_Either, T.me_Either___contains__, ok_pat___contains__ T T.F_Either___contains__, bn_pat___contains__ T.F_Either___contains__⟩⟩
def sp_law_refused (K : PySem.W.Frag) : Sp := fun vs H Q _ => ∃ (F : Hp) (v__law_shape_here : V) (a__law_shape_here : Shp) (v__law_forms : V) (a__law_forms : (List (List Str))) (r : Bool), vs = [v__law_shape_here, v__law_forms] ∧ Same F H ∧ qSh.r K F v__law_shape_here a__law_shape_here ∧ (qL qForm).r K F v__law_forms a__law_forms ∧ m_law_refused a__law_shape_here a__law_forms = some r ∧ ∀ v F' H', Sx P0 F H F' H' → qB.r K F' v r → Q v H'
theorem sc_law_refused : FnScope ["_law_shape_here", "_law_forms", "e"] ["_law_shape_here", "_law_forms"] (defScope s_law_refused) := ⟨rfl, rfl, rfl, by decide +kernel, rfl, by decide +kernel, by decide +kernel⟩
theorem bn_law_refused (T : Tx P K mg) : Binds K (fdOf K ("_law_refused", none)) ["_law_shape_here", "_law_forms"] [] := FunD.bindsN T.F_law_refused fun _ _ _ _ _ _ us hl => match us, hl with | [_, _], _ => rfl
theorem ok_law_refused (T : Tx P K mg) : FnOk P w K mg base CX0 13 (He.ga K "_law_refused") (fdOf K ("_law_refused", none)) ["_law_shape_here", "_law_forms"] (sp_law_refused K) := by
  refine FunD.ok T.F_law_refused sc_law_refused (fun vs H0 Q E h => ?_) (fun cdv A outer s H0 vs Q E hr h => ?_)
  · obtain ⟨_, _, _, _, _, _, rfl, _⟩ := h
    rfl
  · obtain ⟨F0, v__law_shape_here, a__law_shape_here, v__law_forms, a__law_forms, r, rfl, hE, f__law_shape_here, f__law_forms, hm, hQ⟩ := h
    refine ⟨_, PSs.nox ((pss_cons (ps_tryK (i := 2) rfl rfl sc_law_refused.nd rfl rfl ⟨by rfl, by decide, .inl T.gx_NoForm⟩ takesF (fun W pn xe tk own => (pss_one (ps_expr (pe_callS (ok_law_built_vx T 4) (hr.mono (by decide)) (by rfl) T.g_law_built T.F_law_built.kp (bn_law_built_vx T) (fun σ => passAt tk σ) (pa_cons (pv 0) (pa_cons (pv 1) pa_nil)))))) (fun a oe cls d pn hz hf => (pss_one (ps_ret (pe_cmpR (r := rEqD K) (op_eqD hr.units) (pe_xf T.er_NoForm.xf (T.er_NoForm.no _ (by decide)) hz hf (pv 2)) pe_int (nomark _)))))) (pss_one (ps_ret pe_bl)))), ?_⟩
    have S : Sx P0 F0 H0 F0 H0 := Sx.refl0 hE
    unfold m_law_refused at hm
    obtain ⟨t1, e2, hm⟩ := bd_some hm
    refine rd_seq ?_
    refine rd_try ?_
    refine rd_drop ?_
    refine rd_callS ?_
    refine rd_cons ?_
    refine rd_v rfl ?_
    refine rd_cons ?_
    refine rd_v rfl ?_
    refine rd_nil ?_
    refine ⟨F0, _, _, _, _, t1, rfl, S.sub, f__law_shape_here, f__law_forms, e2, ?_, ?_⟩
    rotate_left
    · skip
      intro x10 cls11 d12 F13 H14 ee15 c16 ea17
      subst ee15
      have hm := exT_err hm
      obtain ⟨dd18, rfl, rfl, hx19⟩ := ea17
      refine rd_was T.xm_NoForm_NoForm (fun a20 na21 => ?_)
      have S22 := S.call0 c16
      have f__law_shape_here := qSh.mono c16.le f__law_shape_here
      have f__law_forms := (qL qForm).mono c16.le f__law_forms
      have f23 := ovI_r (K := K) (F := F13) x10
      have f24 : (qO qI).r K F13 (V.int (3)) (some 3) := (show (qO qI).r K F13 (V.int (3)) (some 3) from rfl)
      obtain ⟨g25, hm⟩ := gd_some hm
      obtain ⟨g26, hm⟩ := gd_some hm
      cases hm
      refine rd_ret ?_
      refine rd_op ?_
      refine rd_xf ?_
      refine rd_v rfl ?_
      refine xf_at hx19 (by rfl) ?_
      refine rd_c ?_
      refine rd_eqD (D := (dO dI)) (S22.d (dO dI) f23) (S22.d (dO dI) f24) g25 g26 ?_
      exact hQ _ _ _ S22 rfl
    intro t3 er9 v7 F4 H5 c6 f8
    subst er9
    have hm := exT_ok hm
    have S27 := S.call0 c6
    have f__law_shape_here := qSh.mono c6.le f__law_shape_here
    have f__law_forms := (qL qForm).mono c6.le f__law_forms
    cases hm
    refine rd_ret ?_
    refine rd_c ?_
    exact hQ _ _ _ S27 rfl
def sp_law_holds (n : Nat) (K : PySem.W.Frag) : Sp := fun vs H Q _ => ∃ (F : Hp) (v__law_shape_here : V) (a__law_shape_here : Shp) (v__law_flags : V) (a__law_flags : (List Bool)) (r : Bool), vs = [v__law_shape_here, v__law_flags] ∧ Same F H ∧ qSh.r K F v__law_shape_here a__law_shape_here ∧ (qL qB).r K F v__law_flags a__law_flags ∧ m_law_holds n a__law_shape_here a__law_flags = some r ∧ ∀ v F' H', Sx P0 F H F' H' → qB.r K F' v r → Q v H'
theorem sc_law_holds : FnScope ["_law_shape_here", "_law_flags", "_law_one", "_law_other"] ["_law_shape_here", "_law_flags"] (defScope s_law_holds) := ⟨rfl, rfl, rfl, by decide +kernel, rfl, by decide +kernel, by decide +kernel⟩
theorem bn_law_holds (T : Tx P K mg) : Binds K (fdOf K ("_law_holds", none)) ["_law_shape_here", "_law_flags"] [] := FunD.bindsN T.F_law_holds fun _ _ _ _ _ _ us hl => match us, hl with | [_, _], _ => rfl
theorem ok_law_holds (T : Tx P K mg) : ∀ n : Nat, FnOk P w K mg base CX0 (n + 0 + 1) (He.ga K "_law_holds") (fdOf K ("_law_holds", none)) ["_law_shape_here", "_law_flags"] (sp_law_holds n K) := by
  intro n
  induction n with
  | zero =>
    refine FunD.ok T.F_law_holds sc_law_holds (fun vs H0 Q E h => ?_) (fun cdv A outer s H0 vs Q E hr h => ?_)
    · obtain ⟨_, _, _, _, _, _, rfl, _⟩ := h
      rfl
    · obtain ⟨F0, v__law_shape_here, a__law_shape_here, v__law_flags, a__law_flags, r, rfl, hE, f__law_shape_here, f__law_flags, hm, hQ⟩ := h
      unfold m_law_holds at hm
      cases hm
  | succ n ih =>
    refine FunD.ok T.F_law_holds sc_law_holds (fun vs H0 Q E h => ?_) (fun cdv A outer s H0 vs Q E hr h => ?_)
    · obtain ⟨_, _, _, _, _, _, rfl, _⟩ := h
      rfl
    · obtain ⟨F0, v__law_shape_here, a__law_shape_here, v__law_flags, a__law_flags, r, rfl, hE, f__law_shape_here, f__law_flags, hm, hQ⟩ := h
      refine ⟨_, PSs.nox ((pss_cons (ps_if (pt_cmpR op_eqI (pe_callB (r := rLenQ K) cr_lenQ (by rfl) T.n_len (by decide +kernel) (pa_cons (pv 0) pa_nil)) pe_int (nomark _)) (pss_one (ps_ret (pe_ix (r := rIxL K) ix_list (pv 1) (pe_ix (r := rIxL K) ix_list (pv 0) pe_int (fun _ _ => rfl)) (fun _ _ => rfl)))) pss_nil) (pss_cons (ps_set (i := 2) sc_law_holds.nd rfl (by first | exact Or.inl rfl | exact Or.inr rfl) (pe_call ih (hr.mono (by omega)) (by rfl) T.g_law_holds T.F_law_holds.kp (bn_law_holds T) .nil pass0 (pa_cons (pe_ix (r := rIxL K) ix_list (pv 0) pe_int (fun _ _ => rfl)) (pa_cons (pv 1) pa_nil)))) (pss_cons (ps_set (i := 3) sc_law_holds.nd rfl (by first | exact Or.inl rfl | exact Or.inr rfl) (pe_call ih (hr.mono (by omega)) (by rfl) T.g_law_holds T.F_law_holds.kp (bn_law_holds T) .nil pass0 (pa_cons (pe_ix (r := rIxL K) ix_list (pv 0) pe_int (fun _ _ => rfl)) (pa_cons (pv 1) pa_nil)))) (pss_one (ps_ret (pe_ifExp (pt_cmpR op_eqS (pe_ix (r := rIxL K) ix_list (pv 0) pe_int (fun _ _ => rfl)) pe_str (nomark _)) (pe_and (pv 2) (pe_one (pv 3))) (pe_or (pv 2) (pe_one (pv 3)))))))))), ?_⟩
      have S : Sx P0 F0 H0 F0 H0 := Sx.refl0 hE
      unfold m_law_holds at hm
      refine rd_seq ?_
      refine rd_ifS ?_
      refine rd_test ?_
      refine rd_op ?_
      refine rd_cb ?_
      refine rd_cons ?_
      refine rd_v rfl ?_
      refine rd_nil ?_
      refine rd_lenSh S f__law_shape_here ?_
      refine rd_c ?_
      refine rd_I0 ?_
      refine rd_b ?_
      refine if_b hm (fun b1 hm => ?_) (fun b1 hm => ?_)
      · skip
        obtain ⟨t2, e3, hm⟩ := bd_some hm
        obtain ⟨t4, e5, hm⟩ := bd_some hm
        refine rd_ret ?_
        refine rd_op ?_
        refine rd_v rfl ?_
        refine rd_op ?_
        refine rd_v rfl ?_
        refine rd_c ?_
        refine rd_shN S f__law_shape_here e3 ?_
        refine rd_ixL (S.l f__law_flags).r e5 (fun u6 f7 => ?_)
        cases (show u6 = (V.bl (t4)) from f7)
        cases hm
        exact hQ _ _ _ S rfl
      · skip
        obtain ⟨t8, e9, hm⟩ := bd_some hm
        refine rd_next ?_
        refine rd_seq ?_
        refine rd_asg ?_
        refine rd_call ?_
        refine rd_cons ?_
        refine rd_op ?_
        refine rd_v rfl ?_
        refine rd_c ?_
        refine rd_shL S f__law_shape_here e9 (fun u10 f11 => ?_)
        obtain ⟨t12, e13, hm⟩ := bd_some hm
        refine rd_cons ?_
        refine rd_v rfl ?_
        refine rd_nil ?_
        refine ⟨F0, _, _, _, _, t12, rfl, S.sub, f11, f__law_flags, e13, fun v17 F14 H15 c16 f18 => ?_⟩
        have S19 := S.call0 c16
        have f__law_shape_here := qSh.mono c16.le f__law_shape_here
        have f__law_flags := (qL qB).mono c16.le f__law_flags
        cases (show v17 = (V.bl (t12)) from f18)
        obtain ⟨t20, e21, hm⟩ := bd_some hm
        refine rd_gn ?_
        refine rd_seq ?_
        refine rd_asg ?_
        refine rd_call ?_
        refine rd_cons ?_
        refine rd_op ?_
        refine rd_v rfl ?_
        refine rd_c ?_
        refine rd_shR S19 f__law_shape_here e21 (fun u22 f23 => ?_)
        obtain ⟨t24, e25, hm⟩ := bd_some hm
        refine rd_cons ?_
        refine rd_v rfl ?_
        refine rd_nil ?_
        refine ⟨F14, _, _, _, _, t24, rfl, S19.sub, f23, f__law_flags, e25, fun v29 F26 H27 c28 f30 => ?_⟩
        have S31 := S19.call0 c28
        have f__law_shape_here := qSh.mono c28.le f__law_shape_here
        have f__law_flags := (qL qB).mono c28.le f__law_flags
        cases (show v29 = (V.bl (t24)) from f30)
        obtain ⟨t32, e33, hm⟩ := bd_some hm
        obtain ⟨t34, e35, hm⟩ := bd_some hm
        refine rd_gn ?_
        refine rd_ret ?_
        refine rd_ifE ?_
        refine rd_test ?_
        refine rd_op ?_
        refine rd_op ?_
        refine rd_v rfl ?_
        refine rd_c ?_
        refine rd_shO S31 f__law_shape_here e33 ?_
        refine rd_c ?_
        refine rd_S0 ?_
        refine rd_b ?_
        refine ifE_j (fun c H' => ∃ F', c = (V.bl (t34)) ∧ Sx P0 F26 H27 F' H') ?_ ?_ ?_
        · intro b36 Q37 q38
          have hm39 := if_t e35 b36
          have S40 := Sx.refl0 S31.sub
          cases hm39
          refine rd_andV ?_
          refine rd_v rfl ?_
          refine rd_b ?_
          refine andV_p (by intro _ Q' q; refine rd_v rfl ?_; exact q) ?_
          exact q38 _ _ ⟨F26, rfl, S40⟩
        · intro b41 Q42 q43
          have hm44 := if_f e35 b41
          have S45 := Sx.refl0 S31.sub
          cases hm44
          refine rd_orV ?_
          refine rd_v rfl ?_
          refine rd_b ?_
          refine orV_p (by intro _ Q' q; refine rd_v rfl ?_; exact q) ?_
          exact q43 _ _ ⟨F26, rfl, S45⟩
        rintro v49 H47 ⟨F46, f50, c48⟩
        have S51 := S31.call0 c48
        have f__law_shape_here := qSh.mono c48.le f__law_shape_here
        have f__law_flags := (qL qB).mono c48.le f__law_flags
        cases (show v49 = (V.bl (t34)) from f50)
        cases hm
        exact hQ _ _ _ S51 rfl
def sp_law_line (K : PySem.W.Frag) : Sp := fun vs H Q _ => ∃ (F : Hp) (p__law_pool_here : Addr) (a__law_pool_here : Int × Int) (v__law_parts : V) (a__law_parts : (List Str)) (r : (Str × (Int × Int))), vs = [.ref p__law_pool_here, v__law_parts] ∧ Same F H ∧ Ow (fun a => a = p__law_pool_here) H F H p__law_pool_here (.lst [.int a__law_pool_here.1, .int a__law_pool_here.2]) ∧ (qL qS).r K F v__law_parts a__law_parts ∧ m_law_line a__law_pool_here a__law_parts = some r ∧ ∀ v F' H', Sx (fun a => a = p__law_pool_here) F H F' H' → Ow (fun a => a = p__law_pool_here) H F' H' p__law_pool_here (.lst [.int r.2.1, .int r.2.2]) → qS.r K F' v r.1 → Q v H'
theorem sc_law_line : FnScope ["_law_pool_here", "_law_parts", "_law_line_here", "_law_part"] ["_law_pool_here", "_law_parts"] (defScope s_law_line) := ⟨rfl, rfl, rfl, by decide +kernel, rfl, by decide +kernel, by decide +kernel⟩
theorem bn_law_line (T : Tx P K mg) : Binds K (fdOf K ("_law_line", none)) ["_law_pool_here", "_law_parts"] [] := FunD.bindsN T.F_law_line fun _ _ _ _ _ _ us hl => match us, hl with | [_, _], _ => rfl
theorem ok_law_line (T : Tx P K mg) : FnOk P w K mg base CX0 3 (He.ga K "_law_line") (fdOf K ("_law_line", none)) ["_law_pool_here", "_law_parts"] (sp_law_line K) := by
  refine FunD.ok T.F_law_line sc_law_line (fun vs H0 Q E h => ?_) (fun cdv A outer s H0 vs Q E hr h => ?_)
  · obtain ⟨_, _, _, _, _, _, rfl, _⟩ := h
    rfl
  · obtain ⟨F0, p__law_pool_here, a__law_pool_here, v__law_parts, a__law_parts, r, rfl, hE, w__law_pool_here, f__law_parts, hm, hQ⟩ := h
    refine ⟨_, PSs.nox ((pss_cons (ps_set (i := 2) sc_law_line.nd rfl (by first | exact Or.inl rfl | exact Or.inr rfl) pe_str) (pss_cons (ps_for PassesOwn.never rfl (pi_listK (pv 1)) (pg_name (i := 3) sc_law_line.nd rfl (by first | exact Or.inl rfl | exact Or.inr rfl)) (pss_one (ps_if (pt_cmpR op_eqS (pv 3) pe_str (nomark _)) (pss_one (ps_set (i := 2) sc_law_line.nd rfl (by first | exact Or.inl rfl | exact Or.inr rfl) (pe_op op_catS (pv 2) (pe_op op_repS (pe_ix ix_str pe_str (pe_call (ok_law_take T) (hr.mono (by decide)) (by rfl) T.g_law_take T.F_law_take.kp (bn_law_take T) .nil pass0 (pa_cons (pv 0) (pa_cons pe_int pa_nil))) (fun _ _ => rfl)) (pe_op op_add pe_int (pe_call (ok_law_take T) (hr.mono (by decide)) (by rfl) T.g_law_take T.F_law_take.kp (bn_law_take T) .nil pass0 (pa_cons (pv 0) (pa_cons pe_int pa_nil)))))))) (pss_one (ps_if (pt_cmpR op_eqS (pv 3) pe_str (nomark _)) (pss_one (ps_set (i := 2) sc_law_line.nd rfl (by first | exact Or.inl rfl | exact Or.inr rfl) (pe_op op_catS (pv 2) (pe_op op_repS (pe_ix ix_str pe_str (pe_call (ok_law_take T) (hr.mono (by decide)) (by rfl) T.g_law_take T.F_law_take.kp (bn_law_take T) .nil pass0 (pa_cons (pv 0) (pa_cons pe_int pa_nil))) (fun _ _ => rfl)) (pe_op op_add pe_int (pe_call (ok_law_take T) (hr.mono (by decide)) (by rfl) T.g_law_take T.F_law_take.kp (bn_law_take T) .nil pass0 (pa_cons (pv 0) (pa_cons pe_int pa_nil)))))))) (pss_one (ps_if (pt_cmpR op_eqS (pv 3) pe_str (nomark _)) (pss_one (ps_set (i := 2) sc_law_line.nd rfl (by first | exact Or.inl rfl | exact Or.inr rfl) (pe_op op_catS (pv 2) (pe_op op_repS (pe_call (ok_law_text T) (hr.mono (by decide)) (by rfl) T.g_law_text T.F_law_text.kp (bn_law_text T) .nil pass0 (pa_cons (pv 0) pa_nil)) (pe_call (ok_law_take T) (hr.mono (by decide)) (by rfl) T.g_law_take T.F_law_take.kp (bn_law_take T) .nil pass0 (pa_cons (pv 0) (pa_cons pe_int pa_nil))))))) (pss_one (ps_set (i := 2) sc_law_line.nd rfl (by first | exact Or.inl rfl | exact Or.inr rfl) (pe_op op_catS (pv 2) (pv 3))))))))))) (pss_one (ps_ret (pv 2)))))), ?_⟩
    have S : Sx (fun a => a = p__law_pool_here) F0 H0 F0 H0 := Sx.refl hE (live1 w__law_pool_here)
    unfold m_law_line at hm
    refine rd_seq ?_
    refine rd_asg ?_
    refine rd_c ?_
    refine rd_gn ?_
    refine rd_seq ?_
    refine rd_for ?_
    refine rd_iL ?_
    refine rd_v rfl ?_
    refine rd_wLF S (f__law_parts) (fun p1 vs2 hq3 row4 => ?_)
    obtain ⟨t5, e6, hm⟩ := bd_some hm
    refine rd_forS feedsL (typedRow row4) e6 (fun (s7 : ((Int × Int) × Str)) σ H => ∃ (F : Hp) (o3 : Option V), σ = [some (V.ref p__law_pool_here), some v__law_parts, some (V.str (s7.2)), o3] ∧ Sx (fun a => a = p__law_pool_here) F0 H0 F H ∧ Ow (fun a => a = p__law_pool_here) H0 F H p__law_pool_here (.lst [V.int s7.1.1, V.int s7.1.2])) ?_ ?_ ?_ ?_
    · rintro _ _ _ ⟨_, _, _, S8, _⟩
      exact (Same.seq S8.sub (Same.seq S8.le hq3))
    · skip
      have S9 : Sx (fun a => a = p__law_pool_here) _ _ _ _ := Sx.refl S.sub (fun a z => by rw [z, w__law_pool_here.at_]; exact (fun h => nomatch h))
      have w10 : Ow (fun a => a = p__law_pool_here) H0 _ _ _ _ := ⟨w__law_pool_here.fr, w__law_pool_here.at_, .inr (rfl)⟩
      exact ⟨F0, _, rfl, S9, w10⟩
    · skip
      rintro x11 v12 s13 c17 σ14 H15 f16 ⟨F18, o20, rfl, S19, w21⟩ hm24
      have f__law_parts := (qL qS).mono S19.le f__law_parts
      unfold m_law_line_b1 at hm24
      cases (show v12 = (V.str (x11)) from f16)
      refine rd_gn ?_
      refine rd_ifS ?_
      refine rd_test ?_
      refine rd_op ?_
      refine rd_v rfl ?_
      refine rd_c ?_
      refine rd_S0 ?_
      refine rd_b ?_
      refine if_b hm24 (fun b25 hm24 => ?_) (fun b25 hm24 => ?_)
      · skip
        obtain ⟨t26, e27, hm24⟩ := bd_some hm24
        refine rd_asg ?_
        refine rd_op ?_
        refine rd_v rfl ?_
        refine rd_op ?_
        refine rd_op ?_
        refine rd_c ?_
        refine rd_call ?_
        refine rd_cons ?_
        refine rd_v rfl ?_
        refine rd_cons ?_
        refine rd_c ?_
        refine rd_nil ?_
        refine ⟨F18, _, _, _, t26, rfl, S19.sub, w21.arg, e27, fun v31 F28 H29 c30 w33 f32 => ?_⟩
        have S34 := S19.call1 c30 w21
        have f__law_parts := (qL qS).mono c30.le f__law_parts
        have w35 := w21.back w33
        cases (show v31 = (V.int (t26.1)) from f32)
        obtain ⟨t36, e37, hm24⟩ := bd_some hm24
        obtain ⟨t38, e39, hm24⟩ := bd_some hm24
        refine rd_ixS e37 ?_
        refine rd_op ?_
        refine rd_c ?_
        refine rd_call ?_
        refine rd_cons ?_
        refine rd_v rfl ?_
        refine rd_cons ?_
        refine rd_c ?_
        refine rd_nil ?_
        refine ⟨F28, _, _, _, t38, rfl, S34.sub, w35.arg, e39, fun v43 F40 H41 c42 w45 f44 => ?_⟩
        have S46 := S34.call1 c42 w35
        have f__law_parts := (qL qS).mono c42.le f__law_parts
        have w47 := w35.back w45
        cases (show v43 = (V.int (t38.1)) from f44)
        obtain ⟨g48, hm24⟩ := gd_some hm24
        obtain ⟨g49, hm24⟩ := gd_some hm24
        cases hm24
        refine rd_I0 ?_
        refine rd_repS g48 ?_
        refine rd_catS g49 ?_
        refine rd_gn ?_
        exact ⟨F40, _, rfl, S46, w47⟩
      · skip
        refine rd_ifS ?_
        refine rd_test ?_
        refine rd_op ?_
        refine rd_v rfl ?_
        refine rd_c ?_
        refine rd_S0 ?_
        refine rd_b ?_
        refine if_b hm24 (fun b50 hm24 => ?_) (fun b50 hm24 => ?_)
        · skip
          obtain ⟨t51, e52, hm24⟩ := bd_some hm24
          refine rd_asg ?_
          refine rd_op ?_
          refine rd_v rfl ?_
          refine rd_op ?_
          refine rd_op ?_
          refine rd_c ?_
          refine rd_call ?_
          refine rd_cons ?_
          refine rd_v rfl ?_
          refine rd_cons ?_
          refine rd_c ?_
          refine rd_nil ?_
          refine ⟨F18, _, _, _, t51, rfl, S19.sub, w21.arg, e52, fun v56 F53 H54 c55 w58 f57 => ?_⟩
          have S59 := S19.call1 c55 w21
          have f__law_parts := (qL qS).mono c55.le f__law_parts
          have w60 := w21.back w58
          cases (show v56 = (V.int (t51.1)) from f57)
          obtain ⟨t61, e62, hm24⟩ := bd_some hm24
          obtain ⟨t63, e64, hm24⟩ := bd_some hm24
          refine rd_ixS e62 ?_
          refine rd_op ?_
          refine rd_c ?_
          refine rd_call ?_
          refine rd_cons ?_
          refine rd_v rfl ?_
          refine rd_cons ?_
          refine rd_c ?_
          refine rd_nil ?_
          refine ⟨F53, _, _, _, t63, rfl, S59.sub, w60.arg, e64, fun v68 F65 H66 c67 w70 f69 => ?_⟩
          have S71 := S59.call1 c67 w60
          have f__law_parts := (qL qS).mono c67.le f__law_parts
          have w72 := w60.back w70
          cases (show v68 = (V.int (t63.1)) from f69)
          obtain ⟨g73, hm24⟩ := gd_some hm24
          obtain ⟨g74, hm24⟩ := gd_some hm24
          cases hm24
          refine rd_I0 ?_
          refine rd_repS g73 ?_
          refine rd_catS g74 ?_
          refine rd_gn ?_
          exact ⟨F65, _, rfl, S71, w72⟩
        · skip
          refine rd_ifS ?_
          refine rd_test ?_
          refine rd_op ?_
          refine rd_v rfl ?_
          refine rd_c ?_
          refine rd_S0 ?_
          refine rd_b ?_
          refine if_b hm24 (fun b75 hm24 => ?_) (fun b75 hm24 => ?_)
          · skip
            obtain ⟨t76, e77, hm24⟩ := bd_some hm24
            refine rd_asg ?_
            refine rd_op ?_
            refine rd_v rfl ?_
            refine rd_op ?_
            refine rd_call ?_
            refine rd_cons ?_
            refine rd_v rfl ?_
            refine rd_nil ?_
            refine ⟨F18, _, _, t76, rfl, S19.sub, w21.arg, e77, fun v81 F78 H79 c80 w83 f82 => ?_⟩
            have S84 := S19.call1 c80 w21
            have f__law_parts := (qL qS).mono c80.le f__law_parts
            have w85 := w21.back w83
            cases (show v81 = (V.str (t76.1)) from f82)
            obtain ⟨t86, e87, hm24⟩ := bd_some hm24
            refine rd_call ?_
            refine rd_cons ?_
            refine rd_v rfl ?_
            refine rd_cons ?_
            refine rd_c ?_
            refine rd_nil ?_
            refine ⟨F78, _, _, _, t86, rfl, S84.sub, w85.arg, e87, fun v91 F88 H89 c90 w93 f92 => ?_⟩
            have S94 := S84.call1 c90 w85
            have f__law_parts := (qL qS).mono c90.le f__law_parts
            have w95 := w85.back w93
            cases (show v91 = (V.int (t86.1)) from f92)
            obtain ⟨g96, hm24⟩ := gd_some hm24
            obtain ⟨g97, hm24⟩ := gd_some hm24
            cases hm24
            refine rd_repS g96 ?_
            refine rd_catS g97 ?_
            refine rd_gn ?_
            exact ⟨F88, _, rfl, S94, w95⟩
          · skip
            obtain ⟨g98, hm24⟩ := gd_some hm24
            cases hm24
            refine rd_asg ?_
            refine rd_op ?_
            refine rd_v rfl ?_
            refine rd_v rfl ?_
            refine rd_catS g98 ?_
            refine rd_gn ?_
            exact ⟨F18, _, rfl, S19, w21⟩
    · skip
      rintro σ99 H100 ⟨F101, o103, rfl, S102, w104⟩
      have S105 := S.call1 S102 w__law_pool_here
      have f__law_parts := (qL qS).mono S102.le f__law_parts
      have w106 : Ow (fun a => a = p__law_pool_here) H0 _ _ _ _ := ⟨w104.fr, w104.at_, w__law_pool_here.mine⟩
      cases hm
      refine rd_ret ?_
      refine rd_v rfl ?_
      exact hQ _ _ _ S105 w106 rfl
def sp_law_takes (K : PySem.W.Frag) : Sp := fun vs H Q _ => ∃ (F : Hp) (a__law_part : Str) (a__law_sign : Str) (r : Bool), vs = [(V.str (a__law_part)), (V.str (a__law_sign))] ∧ Same F H ∧ m_law_takes a__law_part a__law_sign = some r ∧ ∀ v F' H', Sx P0 F H F' H' → qB.r K F' v r → Q v H'
theorem sc_law_takes : FnScope ["_law_part", "_law_sign"] ["_law_part", "_law_sign"] (defScope s_law_takes) := ⟨rfl, rfl, rfl, by decide +kernel, rfl, by decide +kernel, by decide +kernel⟩
theorem bn_law_takes (T : Tx P K mg) : Binds K (fdOf K ("_law_takes", none)) ["_law_part", "_law_sign"] [] := FunD.bindsN T.F_law_takes fun _ _ _ _ _ _ us hl => match us, hl with | [_, _], _ => rfl
theorem ok_law_takes (T : Tx P K mg) : FnOk P w K mg base CX0 1 (He.ga K "_law_takes") (fdOf K ("_law_takes", none)) ["_law_part", "_law_sign"] (sp_law_takes K) := by
  refine FunD.ok T.F_law_takes sc_law_takes (fun vs H0 Q E h => ?_) (fun cdv A outer s H0 vs Q E hr h => ?_)
  · obtain ⟨_, _, _, _, rfl, _⟩ := h
    rfl
  · obtain ⟨F0, a__law_part, a__law_sign, r, rfl, hE, hm, hQ⟩ := h
    refine ⟨_, PSs.nox ((pss_cons (ps_if (pt_cmpR op_eqS (pv 0) pe_str (nomark _)) (pss_one (ps_ret (pe_cmpR op_inS (pv 1) pe_str rfl))) pss_nil) (pss_one (ps_ret (pe_and (pe_cmpR op_eqS (pv 0) pe_str (nomark _)) (pe_one (pe_cmpR op_inS (pv 1) pe_str rfl))))))), ?_⟩
    have S : Sx P0 F0 H0 F0 H0 := Sx.refl0 hE
    unfold m_law_takes at hm
    refine rd_seq ?_
    refine rd_ifS ?_
    refine rd_test ?_
    refine rd_op ?_
    refine rd_v rfl ?_
    refine rd_c ?_
    refine rd_S0 ?_
    refine rd_b ?_
    refine if_b hm (fun b1 hm => ?_) (fun b1 hm => ?_)
    · skip
      cases hm
      refine rd_ret ?_
      refine rd_op ?_
      refine rd_v rfl ?_
      refine rd_c ?_
      refine rd_inSS ?_
      exact hQ _ _ _ S rfl
    · skip
      cases hm
      refine rd_next ?_
      refine rd_ret ?_
      refine rd_andV ?_
      refine rd_op ?_
      refine rd_v rfl ?_
      refine rd_c ?_
      refine rd_S0 ?_
      refine rd_b ?_
      refine andV_p (by intro _ Q' q; refine rd_op ?_; refine rd_v rfl ?_; refine rd_c ?_; refine rd_inSS ?_; exact q) ?_
      exact hQ _ _ _ S rfl
def sp_law_ends (K : PySem.W.Frag) : Sp := fun vs H Q _ => ∃ (F : Hp) (a__law_part : Str) (a__law_line_here : Str) (a__law_at : Int) (r : (List Int)), vs = [(V.str (a__law_part)), (V.str (a__law_line_here)), (V.int (a__law_at))] ∧ Same F H ∧ m_law_ends a__law_part a__law_line_here a__law_at = some r ∧ ∀ v F' H', Sx P0 F H F' H' → (qL qI).r K F' v r → Q v H'
theorem sc_law_ends : FnScope ["_law_part", "_law_line_here", "_law_at", "_law_found", "_law_end"] ["_law_part", "_law_line_here", "_law_at"] (defScope s_law_ends) := ⟨rfl, rfl, rfl, by decide +kernel, rfl, by decide +kernel, by decide +kernel⟩
theorem bn_law_ends (T : Tx P K mg) : Binds K (fdOf K ("_law_ends", none)) ["_law_part", "_law_line_here", "_law_at"] [] := FunD.bindsN T.F_law_ends fun _ _ _ _ _ _ us hl => match us, hl with | [_, _, _], _ => rfl
theorem ok_law_ends (T : Tx P K mg) : FnOk P w K mg base CX0 2 (He.ga K "_law_ends") (fdOf K ("_law_ends", none)) ["_law_part", "_law_line_here", "_law_at"] (sp_law_ends K) := by
  refine FunD.ok T.F_law_ends sc_law_ends (fun vs H0 Q E h => ?_) (fun cdv A outer s H0 vs Q E hr h => ?_)
  · obtain ⟨_, _, _, _, _, rfl, _⟩ := h
    rfl
  · obtain ⟨F0, a__law_part, a__law_line_here, a__law_at, r, rfl, hE, hm, hQ⟩ := h
    refine ⟨_, PSs.nox ((pss_cons (ps_if (pt_cmpR op_eqS (pv 0) pe_str (nomark _)) (pss_one (ps_ret (pe_listRg rfl (by rfl) T.n_list (prg_2 (by rfl) T.n_range (pv 2) (pe_op op_add (pe_callB cr_lenS (by rfl) T.n_len (by decide +kernel) (pa_cons (pv 1) pa_nil)) pe_int))))) pss_nil) (pss_cons (ps_set (i := 3) sc_law_ends.nd rfl (by first | exact Or.inl rfl | exact Or.inr rfl) (pe_lst pa_nil)) (C8.pss_cut (ps_if (pt_cmpR (r := rIn K false) op_in_seq (pv 0) (pe_tup (pa_cons pe_str (pa_cons pe_str pa_nil))) rfl) (pss_cons (ps_set (i := 4) sc_law_ends.nd rfl (by first | exact Or.inl rfl | exact Or.inr rfl) (pv 2)) (pss_one (ps_while PassesOwn.never (PW.pt (pw_and (pt_cmpR op_lt (pv 4) (pe_callB cr_lenS (by rfl) T.n_len (by decide +kernel) (pa_cons (pv 1) pa_nil)) (nomark _)) (pw_and1 (pt_val (pe_call (ok_law_takes T) (hr.mono (by decide)) (by rfl) T.g_law_takes T.F_law_takes.kp (bn_law_takes T) .nil pass0 (pa_cons (pv 0) (pa_cons (pe_ix ix_str (pv 1) (pv 4) (fun _ _ => rfl)) pa_nil))))))) (pss_cons (ps_set (i := 4) sc_law_ends.nd rfl (by first | exact Or.inl rfl | exact Or.inr rfl) (pe_op op_add (pv 4) pe_int)) (pss_one (ps_expr (pe_bmK (K := K) PySem.F.plainAttrs_list PySem.F.slot_list_append PySem.F.type_list_append mt_append (pv 3) (pa_cons (pv 4) pa_nil)))))))) (pss_one (ps_if (pt_cmpR op_eqS (pe_slice sl_str (pv 1) (po_some (pv 2)) (po_some (pe_op op_add (pv 2) (pe_callB cr_lenS (by rfl) T.n_len (by decide +kernel) (pa_cons (pv 0) pa_nil))))) (pv 0) (nomark _)) (pss_one (ps_expr (pe_bmK (K := K) PySem.F.plainAttrs_list PySem.F.slot_list_append PySem.F.type_list_append mt_append (pv 3) (pa_cons (pe_op op_add (pv 2) (pe_callB cr_lenS (by rfl) T.n_len (by decide +kernel) (pa_cons (pv 0) pa_nil))) pa_nil)))) pss_nil))) (pss_one (ps_ret (pv 3))))))), ?_⟩
    have S : Sx P0 F0 H0 F0 H0 := Sx.refl0 hE
    unfold m_law_ends at hm
    refine rd_seq ?_
    refine rd_ifS ?_
    refine rd_test ?_
    refine rd_op ?_
    refine rd_v rfl ?_
    refine rd_c ?_
    refine rd_S0 ?_
    refine rd_b ?_
    refine if_b hm (fun b1 hm => ?_) (fun b1 hm => ?_)
    · skip
      obtain ⟨g2, hm⟩ := gd_some hm
      obtain ⟨g3, hm⟩ := gd_some hm
      refine rd_ret ?_
      refine rd_lrg ?_
      refine rd_g2 ?_
      refine rd_v rfl ?_
      refine rd_op ?_
      refine rd_cb ?_
      refine rd_cons ?_
      refine rd_v rfl ?_
      refine rd_nil ?_
      refine rd_lenS g2 ?_
      refine rd_c ?_
      refine rd_I0 ?_
      refine rd_g2i ?_
      refine rd_lrgE (K := K) (F := F0) g3 ?_
      refine alL' S (fun v4 F5 H6 c7 f8 => ?_)
      have S9 := S.call0 c7
      cases hm
      exact hQ _ _ _ S9 f8
    · skip
      refine rd_next ?_
      refine rd_seq ?_
      refine rd_asg ?_
      refine rd_lst ?_
      refine rd_nil ?_
      refine rd_lK rfl ?_
      refine al S (fun p10 H11 np12 c13 w14 => ?_)
      have z16 := S.free0 np12
      have S17 := S.call0 c13
      have r18 : Row qI K F0 [] ([] : List Int) := .nil
      obtain ⟨t19, e20, hm⟩ := bd_some hm
      refine rd_gn ?_
      refine rd_cut (fun σ' H' => ∃ (F : Hp) (o4 : Option V) (vs0 : List V), σ' = [some (V.str (a__law_part)), some (V.str (a__law_line_here)), some (V.int (a__law_at)), some (V.ref p10), o4] ∧ Sx (fun a => a = p10) F0 H11 F H' ∧ Ow (fun a => a = p10) H11 F H' p10 (.lst vs0) ∧ Row qI K F vs0 t19) ?_ ?_
      · skip
        have S21 : Sx (fun a => a = p10) _ _ _ _ := Sx.refl S17.sub (fun a z => by rw [z, w14.at_]; exact (fun h => nomatch h))
        have w22 : Ow (fun a => a = p10) H11 _ _ _ _ := ⟨w14.fr, w14.at_, .inr (rfl)⟩
        refine rd_ifS ?_
        refine rd_test ?_
        refine rd_op ?_
        refine rd_v rfl ?_
        refine rd_tup ?_
        refine rd_cons ?_
        refine rd_c ?_
        refine rd_cons ?_
        refine rd_c ?_
        refine rd_nil ?_
        refine rd_uK rfl ?_
        refine alT (K := K) (A := qS) (xs := [("<digits>" : Str), ("<word>" : Str)]) S21 (.cons rfl (.cons rfl .nil)) (fun v23 F24 H25 c26 f27 => ?_)
        have S28 := S21.call0 c26
        have r18 := Row.mono c26.le r18
        have w22 := w22.call0 c26
        refine rd_inS (S28.t f27).q ?_
        refine rd_b ?_
        refine if_b e20 (fun b29 e20 => ?_) (fun b29 e20 => ?_)
        · skip
          obtain ⟨t30, e31, e20⟩ := bd_some e20
          refine rd_seq ?_
          refine rd_asg ?_
          refine rd_v rfl ?_
          refine rd_gn ?_
          refine rd_whileS e31 (fun (s32 : ((List Int) × Int)) σ H => ∃ (F : Hp) (vs0 : List V), σ = [some (V.str (a__law_part)), some (V.str (a__law_line_here)), some (V.int (a__law_at)), some (V.ref p10), some (V.int (s32.2))] ∧ Sx (fun a => a = p10) F24 H25 F H ∧ Ow (fun a => a = p10) H25 F H p10 (.lst vs0) ∧ Row qI K F vs0 s32.1) ?_ ?_ ?_ ?_
          · skip
            have S33 : Sx (fun a => a = p10) _ _ _ _ := Sx.refl S28.sub (fun a z => by rw [z, w22.at_]; exact (fun h => nomatch h))
            have w34 : Ow (fun a => a = p10) H25 _ _ _ _ := ⟨w22.fr, w22.at_, .inr (rfl)⟩
            exact ⟨F24, _, rfl, S33, w34, r18⟩
          · skip
            rintro s35 b36 σ37 H38 T39 E40 ⟨F44, v46, rfl, S45, w47, r48⟩ hm43 hT41 hE42
            unfold m_law_ends_b1 at hm43
            obtain ⟨g49, hm43⟩ := gd_some hm43
            obtain ⟨t60, e61, hm43⟩ := bd_some hm43
            refine rd_and ?_
            refine rd_test ?_
            refine rd_op ?_
            refine rd_v rfl ?_
            refine rd_cb ?_
            refine rd_cons ?_
            refine rd_v rfl ?_
            refine rd_nil ?_
            refine rd_lenS g49 ?_
            refine rd_I0 ?_
            refine rd_b ?_
            refine and_j (fun c H' => c = t60 ∧ ∃ F', Sx P0 F44 H38 F' H') ?_ ?_ ?_
            · intro b62 Q63 q64
              have e61 := if_t e61 b62
              have S65 := Sx.refl0 S45.sub
              obtain ⟨t66, e67, e61⟩ := bd_some e61
              obtain ⟨t68, e69, e61⟩ := bd_some e61
              refine rd_tB ?_
              refine rd_call ?_
              refine rd_cons ?_
              refine rd_v rfl ?_
              refine rd_cons ?_
              refine rd_op ?_
              refine rd_v rfl ?_
              refine rd_v rfl ?_
              refine rd_ixS e67 ?_
              refine rd_nil ?_
              refine ⟨F44, _, _, t68, rfl, S65.sub, e69, fun v73 F70 H71 c72 f74 => ?_⟩
              have S75 := S65.call0 c72
              have r48 := Row.mono c72.le r48
              have w47 := w47.call0 c72
              cases (show v73 = (V.bl (t68)) from f74)
              cases e61
              refine rd_b ?_
              exact q64 _ _ ⟨rfl, F70, S75⟩
            · intro b62
              have e61 := if_f e61 b62
              cases e61
              have S76 := Sx.refl0 S45.sub
              exact ⟨rfl, F44, S76⟩
            rintro b80 H78 ⟨rfl, F77, c79⟩
            have S81 := S45.call0 c79
            have r48 := Row.mono c79.le r48
            have w47 := w47.call0 c79
            refine if_j (fun b82 => ?_) (fun b82 => ?_)
            · cases hm43; exact hT41 _ _ b82 ⟨F77, _, rfl, S81, w47, r48⟩
            · cases hm43; exact hE42 _ _ b82 ⟨F77, _, rfl, S81, w47, r48⟩
          · skip
            rintro s83 s84 σ85 H86 ⟨F88, v90, rfl, S89, w91, r92⟩ hm87
            unfold m_law_ends_b2 at hm87
            obtain ⟨g93, hm87⟩ := gd_some hm87
            refine rd_seq ?_
            refine rd_asg ?_
            refine rd_op ?_
            refine rd_v rfl ?_
            refine rd_c ?_
            refine rd_I0 ?_
            refine rd_gn ?_
            refine rd_drop ?_
            refine rd_bm ?_
            refine rd_v rfl ?_
            refine rd_ty w91.ty ?_
            refine rd_cons ?_
            refine rd_v rfl ?_
            refine rd_nil ?_
            refine ap S89 w91 r92 g93 (fun H94 c95 w96 => ?_)
            have r97 := r92.snoc (show qI.r K F88 _ (s83.2 + 1) from rfl)
            have S98 := S89.call1 c95 w91
            have r97 := Row.mono c95.le r97
            cases hm87
            exact ⟨F88, _, rfl, S98, w96, r97⟩
          · skip
            rintro σ99 H100 ⟨F101, v103, rfl, S102, w104, r105⟩
            have S106 := S28.call1 S102 w22
            have w107 : Ow (fun a => a = p10) H11 _ _ _ _ := ⟨w104.fr, w104.at_, w22.mine⟩
            cases e20
            exact ⟨F101, _, _, rfl, S106, w107, r105⟩
        · skip
          obtain ⟨g108, e20⟩ := gd_some e20
          obtain ⟨g109, e20⟩ := gd_some e20
          refine rd_ifS ?_
          refine rd_test ?_
          refine rd_op ?_
          refine rd_sl ?_
          refine rd_v rfl ?_
          refine rd_pt ?_
          refine rd_v rfl ?_
          refine rd_i ?_
          refine rd_pt ?_
          refine rd_op ?_
          refine rd_v rfl ?_
          refine rd_cb ?_
          refine rd_cons ?_
          refine rd_v rfl ?_
          refine rd_nil ?_
          refine rd_lenS g108 ?_
          refine rd_I0 ?_
          refine rd_i ?_
          refine rd_slS g109 ?_
          refine rd_v rfl ?_
          refine rd_S0 ?_
          refine rd_b ?_
          refine if_b e20 (fun b110 e20 => ?_) (fun b110 e20 => ?_)
          · skip
            obtain ⟨g111, e20⟩ := gd_some e20
            obtain ⟨g112, e20⟩ := gd_some e20
            refine rd_drop ?_
            refine rd_bm ?_
            refine rd_v rfl ?_
            refine rd_ty w22.ty ?_
            refine rd_cons ?_
            refine rd_op ?_
            refine rd_v rfl ?_
            refine rd_cb ?_
            refine rd_cons ?_
            refine rd_v rfl ?_
            refine rd_nil ?_
            refine rd_lenS g111 ?_
            refine rd_I0 ?_
            refine rd_nil ?_
            refine ap S28 w22 r18 g112 (fun H113 c114 w115 => ?_)
            have r116 := r18.snoc (show qI.r K F24 _ (a__law_at + ((a__law_part).length : Int)) from rfl)
            have S117 := S28.call1 c114 w22
            have r116 := Row.mono c114.le r116
            cases e20
            exact ⟨F24, _, _, rfl, S117, w115, r116⟩
          · skip
            cases e20
            refine rd_next ?_
            exact ⟨F24, _, _, rfl, S28, w22, r18⟩
      · skip
        rintro σ119 H118 ⟨F120, o122, v123, rfl, S121, w124, r125⟩
        have S126 := S17.call1 S121 w14
        have w127 : Ow P0 H0 _ _ _ _ := ⟨w124.fr, w124.at_, w14.mine⟩
        obtain ⟨F128, S129, le130, f131, _, eq132⟩ := fz S126 w127 z16 r125
        cases hm
        refine rd_ret ?_
        refine rd_v rfl ?_
        exact hQ _ _ _ S129 f131
def sp_law_fits (K : PySem.W.Frag) : Sp := fun vs H Q _ => ∃ (F : Hp) (v__law_parts : V) (a__law_parts : (List Str)) (a__law_line_here : Str) (r : Bool), vs = [v__law_parts, (V.str (a__law_line_here))] ∧ Same F H ∧ (qL qS).r K F v__law_parts a__law_parts ∧ m_law_fits a__law_parts a__law_line_here = some r ∧ ∀ v F' H', Sx P0 F H F' H' → qB.r K F' v r → Q v H'
theorem sc_law_fits : FnScope ["_law_parts", "_law_line_here", "_law_places", "_law_part", "_law_more", "_law_at", "_law_end"] ["_law_parts", "_law_line_here"] (defScope s_law_fits) := ⟨rfl, rfl, rfl, by decide +kernel, rfl, by decide +kernel, by decide +kernel⟩
theorem bn_law_fits (T : Tx P K mg) : Binds K (fdOf K ("_law_fits", none)) ["_law_parts", "_law_line_here"] [] := FunD.bindsN T.F_law_fits fun _ _ _ _ _ _ us hl => match us, hl with | [_, _], _ => rfl
theorem ok_law_fits (T : Tx P K mg) : FnOk P w K mg base CX0 3 (He.ga K "_law_fits") (fdOf K ("_law_fits", none)) ["_law_parts", "_law_line_here"] (sp_law_fits K) := by
  refine FunD.ok T.F_law_fits sc_law_fits (fun vs H0 Q E h => ?_) (fun cdv A outer s H0 vs Q E hr h => ?_)
  · obtain ⟨_, _, _, _, _, rfl, _⟩ := h
    rfl
  · obtain ⟨F0, v__law_parts, a__law_parts, a__law_line_here, r, rfl, hE, f__law_parts, hm, hQ⟩ := h
    refine ⟨_, PSs.nox ((pss_cons (ps_set (i := 2) sc_law_fits.nd rfl (by first | exact Or.inl rfl | exact Or.inr rfl) (pe_lst (pa_cons pe_int pa_nil))) (pss_cons (ps_for PassesOwn.never rfl (pi_listK (pv 0)) (pg_name (i := 3) sc_law_fits.nd rfl (by first | exact Or.inl rfl | exact Or.inr rfl)) (pss_cons (ps_set (i := 4) sc_law_fits.nd rfl (by first | exact Or.inl rfl | exact Or.inr rfl) (pe_lst pa_nil)) (pss_cons (ps_for PassesOwn.never rfl (pi_listK (pv 2)) (pg_name (i := 5) sc_law_fits.nd rfl (by first | exact Or.inl rfl | exact Or.inr rfl)) (pss_one (ps_set (i := 4) sc_law_fits.nd rfl (by first | exact Or.inl rfl | exact Or.inr rfl) (pe_op op_cat (pv 4) (pe_lc (own := [("_law_end", 6)]) rfl sc_law_fits.nd (pi_listK (pe_call (ok_law_ends T) (hr.mono (by decide)) (by rfl) T.g_law_ends T.F_law_ends.kp (bn_law_ends T) .nil pass0 (pa_cons (pv 3) (pa_cons (pv 1) (pa_cons (pv 5) pa_nil))))) (blkOk_by (N := ["_law_parts", "_law_line_here", "_law_places", "_law_part", "_law_more", "_law_at", "_law_end"]) (sc := defScope s_law_fits) (by decide +kernel)) (fun _ _ _ _ _ => pg_name (i := 6) sc_law_fits.nd rfl (Or.inl rfl)) (fun _ _ _ _ _ => (pts_one (pt_cmpR (r := rIn K true) op_notIn_seq (pv 6) (pv 4) rfl))) (fun _ _ _ _ _ => (pv 6))))))) (pss_one (ps_set (i := 2) sc_law_fits.nd rfl (by first | exact Or.inl rfl | exact Or.inr rfl) (pv 4)))))) (pss_one (ps_ret (pe_and (pe_cmpR op_neS (pv 1) pe_str (nomark _)) (pe_one (pe_cmpR (r := rIn K false) op_in_seq (pe_callB cr_lenS (by rfl) T.n_len (by decide +kernel) (pa_cons (pv 1) pa_nil)) (pv 2) rfl)))))))), ?_⟩
    have S : Sx P0 F0 H0 F0 H0 := Sx.refl0 hE
    unfold m_law_fits at hm
    refine rd_seq ?_
    refine rd_asg ?_
    refine rd_lst ?_
    refine rd_cons ?_
    refine rd_c ?_
    refine rd_nil ?_
    refine rd_lK rfl ?_
    refine alL (K := K) (A := qI) (xs := ([0] : List Int)) S (.cons rfl .nil) (fun v1 F2 H3 c4 f5 => ?_)
    have S6 := S.call0 c4
    have f__law_parts := (qL qS).mono c4.le f__law_parts
    refine rd_gn ?_
    refine rd_seq ?_
    refine rd_for ?_
    refine rd_iL ?_
    refine rd_v rfl ?_
    refine rd_wLF S6 (f__law_parts) (fun p7 vs8 hq9 row10 => ?_)
    obtain ⟨t11, e12, hm⟩ := bd_some hm
    refine rd_forS feedsL (typedRow row10) e12 (fun (s13 : (List Int)) σ H => ∃ (F : Hp) (x0 : V) (o3 : Option V) (o4 : Option V) (o5 : Option V) (o6 : Option V), σ = [some v__law_parts, some (V.str (a__law_line_here)), some x0, o3, o4, o5, o6] ∧ Sx P0 F2 H3 F H ∧ (qL qI).r K F x0 s13) ?_ ?_ ?_ ?_
    · rintro _ _ _ ⟨_, _, _, _, _, _, _, S14, _⟩
      exact (Same.seq S14.sub (Same.seq S14.le hq9))
    · skip
      have S15 := Sx.refl0 S6.sub
      exact ⟨F2, _, _, _, _, _, rfl, S15, f5⟩
    · skip
      rintro x16 v17 s18 c22 σ19 H20 f21 ⟨F23, x25, o26, o27, o28, o29, rfl, S24, f30⟩ hm33
      have f__law_parts := (qL qS).mono S24.le f__law_parts
      unfold m_law_fits_b3 at hm33
      cases (show v17 = (V.str (x16)) from f21)
      refine rd_gn ?_
      refine rd_seq ?_
      refine rd_asg ?_
      refine rd_lst ?_
      refine rd_nil ?_
      refine rd_lK rfl ?_
      refine alL (K := K) (A := qI) (xs := ([] : List Int)) S24 .nil (fun v34 F35 H36 c37 f38 => ?_)
      have S39 := S24.call0 c37
      have f__law_parts := (qL qS).mono c37.le f__law_parts
      have f30 := (qL qI).mono c37.le f30
      refine rd_gn ?_
      refine rd_seq ?_
      refine rd_for ?_
      refine rd_iL ?_
      refine rd_v rfl ?_
      refine rd_wLF S39 (f30) (fun p40 vs41 hq42 row43 => ?_)
      obtain ⟨t44, e45, hm33⟩ := bd_some hm33
      refine rd_forS feedsL (typedRow row43) e45 (fun (s46 : (List Int)) σ H => ∃ (F : Hp) (x0 : V) (o5 : Option V) (o6 : Option V), σ = [some v__law_parts, some (V.str (a__law_line_here)), some x25, some (V.str (x16)), some x0, o5, o6] ∧ Sx P0 F35 H36 F H ∧ (qL qI).r K F x0 s46) ?_ ?_ ?_ ?_
      · rintro _ _ _ ⟨_, _, _, _, _, S47, _⟩
        exact (Same.seq S47.sub (Same.seq S47.le hq42))
      · skip
        have S48 := Sx.refl0 S39.sub
        exact ⟨F35, _, _, _, rfl, S48, f38⟩
      · skip
        rintro x49 v50 s51 c55 σ52 H53 f54 ⟨F56, x58, o59, o60, rfl, S57, f61⟩ hm64
        have f__law_parts := (qL qS).mono S57.le f__law_parts
        have f30 := (qL qI).mono S57.le f30
        unfold m_law_fits_b2 at hm64
        cases (show v50 = (V.int (x49)) from f54)
        obtain ⟨t65, e66, hm64⟩ := bd_some hm64
        refine rd_gn ?_
        refine rd_asg ?_
        refine rd_op ?_
        refine rd_v rfl ?_
        refine rd_lc ?_
        refine rd_iL ?_
        refine rd_call ?_
        refine rd_cons ?_
        refine rd_v rfl ?_
        refine rd_cons ?_
        refine rd_v rfl ?_
        refine rd_cons ?_
        refine rd_v rfl ?_
        refine rd_nil ?_
        refine ⟨F56, _, _, _, t65, rfl, S57.sub, e66, fun v70 F67 H68 c69 f71 => ?_⟩
        have S72 := S57.call0 c69
        have f__law_parts := (qL qS).mono c69.le f__law_parts
        have f30 := (qL qI).mono c69.le f30
        have f61 := (qL qI).mono c69.le f61
        refine rd_wLF S72 (f71) (fun p73 vs74 hq75 row76 => ?_)
        obtain ⟨g77, hm64⟩ := gd_some hm64
        obtain ⟨t78, e79, hm64⟩ := bd_some hm64
        refine rd_comp (B := qI) feedsL (typedRow row76) e79 g77 (Pc := P0) (fun _ z => z.elim) S72.sub (fun (s80 : Unit) F H => True) ?_ ?_ ?_ ?_ ?_ ?_
        · intro _ _ _ S81 _
          exact (Same.seq S81.sub (Same.seq S81.le hq75))
        · trivial
        · intros; trivial
        · intros; trivial
        · skip
          intro x82 v83 s84 o85 F86 H87 d88 acc89 f90 S91 w92 w93 n94 hm95 E96 N97 hN98 hE99
          have f__law_parts := (qL qS).mono S91.le f__law_parts
          have f30 := (qL qI).mono S91.le f30
          have f61 := (qL qI).mono S91.le f61
          have S100 := Sx.refl0 S91.sub
          unfold m_law_fits_b1 at hm95
          cases (show v83 = (V.int (x82)) from f90)
          refine rd_gn ?_
          refine rd_wp rfl ?_
          refine rd_test ?_
          refine rd_op ?_
          refine rd_v rfl ?_
          refine rd_v rfl ?_
          refine rd_niI (S100.l f61).r.q ?_
          refine rd_b ?_
          refine if_b hm95 (fun b101 hm95 => ?_) (fun b101 hm95 => ?_)
          · skip
            cases hm95
            refine rd_v rfl ?_
            exact hN98 _ _ _ _ rfl S100 rfl trivial
          · skip
            cases hm95
            exact hE99 _ _ rfl S100 trivial
        intro p102 us103 F104 H105 n106 c107 w108 w109 r110
        have z111 := S72.free0 n106
        have S112 := S72.call0 c107
        have f__law_parts := (qL qS).mono c107.le f__law_parts
        have f30 := (qL qI).mono c107.le f30
        have f61 := (qL qI).mono c107.le f61
        have w113 : Ow P0 H36 _ _ _ _ := ⟨w109.fr, w109.at_, .inl z111⟩
        obtain ⟨F114, S115, le116, f117, _, eq118⟩ := fz S112 w113 z111 r110
        have f__law_parts := (qL qS).mono le116 f__law_parts
        have f30 := (qL qI).mono le116 f30
        have f61 := (qL qI).mono le116 f61
        obtain ⟨g119, hm64⟩ := gd_some hm64
        refine rd_cat (S115.l f61) (S115.l f117) g119 ?_
        refine alL' S115 (fun v120 F121 H122 c123 f124 => ?_)
        have S125 := S115.call0 c123
        have f__law_parts := (qL qS).mono c123.le f__law_parts
        have f30 := (qL qI).mono c123.le f30
        have f61 := (qL qI).mono c123.le f61
        cases hm64
        refine rd_gn ?_
        exact ⟨F121, _, _, _, rfl, S125, f124⟩
      · skip
        rintro σ126 H127 ⟨F128, x130, o131, o132, rfl, S129, f133⟩
        have S134 := S39.call0 S129
        have f__law_parts := (qL qS).mono S129.le f__law_parts
        have f30 := (qL qI).mono S129.le f30
        cases hm33
        refine rd_asg ?_
        refine rd_v rfl ?_
        refine rd_gn ?_
        exact ⟨F128, _, _, _, _, _, rfl, S134, f133⟩
    · skip
      rintro σ135 H136 ⟨F137, x139, o140, o141, o142, o143, rfl, S138, f144⟩
      have S145 := S6.call0 S138
      have f__law_parts := (qL qS).mono S138.le f__law_parts
      obtain ⟨t147, e148, hm⟩ := bd_some hm
      refine rd_ret ?_
      refine rd_andV ?_
      refine rd_op ?_
      refine rd_v rfl ?_
      refine rd_c ?_
      refine rd_S0 ?_
      refine rd_b ?_
      refine andV_j (fun c H' => c = V.bl t147 ∧ ∃ F', Sx P0 F137 H136 F' H') ?_ ?_ ?_
      · intro b149 Q150 q151
        have e148 := if_t e148 b149
        have S152 := Sx.refl0 S145.sub
        obtain ⟨g153, e148⟩ := gd_some e148
        cases e148
        refine rd_op ?_
        refine rd_cb ?_
        refine rd_cons ?_
        refine rd_v rfl ?_
        refine rd_nil ?_
        refine rd_lenS g153 ?_
        refine rd_v rfl ?_
        refine rd_inI (S152.l f144).r.q ?_
        exact q151 _ _ ⟨rfl, F137, S152⟩
      · intro b149
        have e148 := if_f e148 b149
        cases e148
        have S154 := Sx.refl0 S145.sub
        exact ⟨rfl, F137, S154⟩
      rintro b158 H156 ⟨rfl, F155, c157⟩
      have S159 := S145.call0 c157
      have f__law_parts := (qL qS).mono c157.le f__law_parts
      have f144 := (qL qI).mono c157.le f144
      cases hm
      exact hQ _ _ _ S159 rfl
def sp_law_right (K : PySem.W.Frag) : Sp := fun vs H Q _ => ∃ (F : Hp) (p__law_pool_here : Addr) (a__law_pool_here : Int × Int) (v__law_drawn : V) (a__law_drawn : (List (List Str))) (v__law_shape_here : V) (a__law_shape_here : Shp) (r : (Bool × (Int × Int))), vs = [.ref p__law_pool_here, v__law_drawn, v__law_shape_here] ∧ Same F H ∧ Ow (fun a => a = p__law_pool_here) H F H p__law_pool_here (.lst [.int a__law_pool_here.1, .int a__law_pool_here.2]) ∧ (qL (qL qS)).r K F v__law_drawn a__law_drawn ∧ qSh.r K F v__law_shape_here a__law_shape_here ∧ m_law_right a__law_pool_here a__law_drawn a__law_shape_here = some r ∧ ∀ v F' H', Sx (fun a => a = p__law_pool_here) F H F' H' → Ow (fun a => a = p__law_pool_here) H F' H' p__law_pool_here (.lst [.int r.2.1, .int r.2.2]) → qB.r K F' v r.1 → Q v H'
theorem sc_law_right : FnScope ["_law_pool_here", "_law_drawn", "_law_shape_here", "_law_forms", "_law_due", "_law_pattern", "_law_number", "_law_flags", "_law_parts", "_law_line_here", "_law_form_here", "_law_one", "_law_at"] ["_law_pool_here", "_law_drawn", "_law_shape_here"] (defScope s_law_right) := ⟨rfl, rfl, rfl, by decide +kernel, rfl, by decide +kernel, by decide +kernel⟩
theorem bn_law_right (T : Tx P K mg) : Binds K (fdOf K ("_law_right", none)) ["_law_pool_here", "_law_drawn", "_law_shape_here"] [] := FunD.bindsN T.F_law_right fun _ _ _ _ _ _ us hl => match us, hl with | [_, _, _], _ => rfl
theorem ok_law_right (T : Tx P K mg) : FnOk P w K mg base CX0 14 (He.ga K "_law_right") (fdOf K ("_law_right", none)) ["_law_pool_here", "_law_drawn", "_law_shape_here"] (sp_law_right K) := by
  refine FunD.ok T.F_law_right sc_law_right (fun vs H0 Q E h => ?_) (fun cdv A outer s H0 vs Q E hr h => ?_)
  · obtain ⟨_, _, _, _, _, _, _, _, rfl, _⟩ := h
    rfl
  · obtain ⟨F0, p__law_pool_here, a__law_pool_here, v__law_drawn, a__law_drawn, v__law_shape_here, a__law_shape_here, r, rfl, hE, w__law_pool_here, f__law_drawn, f__law_shape_here, hm, hQ⟩ := h
    refine ⟨_, PSs.nox ((pss_cons (ps_setLc (i := 3) (own := [("_law_parts", 8)]) (tt := tYes) rfl sc_law_right.nd rfl rfl (sw_true rfl rfl rfl (by decide +kernel)) (pi_listK (pv 1)) (blkOk_by (N := ["_law_pool_here", "_law_drawn", "_law_shape_here", "_law_forms", "_law_due", "_law_pattern", "_law_number", "_law_flags", "_law_parts", "_law_line_here", "_law_form_here", "_law_one", "_law_at"]) (sc := defScope s_law_right) (by decide +kernel)) (fun _ _ _ _ _ => pg_name (i := 8) sc_law_right.nd rfl (Or.inl rfl)) (fun _ _ _ _ _ => pts_nil) (fun _ _ _ _ _ => (pe_call (ok_law_form T) (hr.mono (by decide)) (by rfl) T.g_law_form T.F_law_form.kp (bn_law_form T) .nil pass0 (pa_cons (pv 8) pa_nil)))) (pss_cons (ps_if (pt_cmpR op_eqI (pe_callB (r := rLenQ K) cr_lenQ (by rfl) T.n_len (by decide +kernel) (pa_cons (pv 1) pa_nil)) pe_int (nomark _)) (pss_cons (ps_setLc (i := 4) (own := [("_law_parts", 8)]) (tt := tYes) rfl sc_law_right.nd rfl rfl (sw_true rfl rfl rfl (by decide +kernel)) (pi_listK (pv 1)) (blkOk_by (N := ["_law_pool_here", "_law_drawn", "_law_shape_here", "_law_forms", "_law_due", "_law_pattern", "_law_number", "_law_flags", "_law_parts", "_law_line_here", "_law_form_here", "_law_one", "_law_at"]) (sc := defScope s_law_right) (by decide +kernel)) (fun _ _ _ _ _ => pg_name (i := 8) sc_law_right.nd rfl (Or.inl rfl)) (fun _ _ _ _ _ => pts_nil) (fun _ _ _ _ _ => (pe_bmK (K := K) PySem.F.plainAttrs_str PySem.F.slot_str_join PySem.F.type_str_join (mt_joinKK (K := K)) pe_str (pa_cons (pv 8) pa_nil)))) (pss_one (ps_ret (pe_and (pe_call (ok_law_refused T) (hr.mono (by decide)) (by rfl) T.g_law_refused T.F_law_refused.kp (bn_law_refused T) .nil pass0 (pa_cons (pv 2) (pa_cons (pv 3) pa_nil))) (pe_one (pe_cmpR (r := rEqD K) (op_eqD hr.units) (pe_lc (own := [("_law_form_here", 10)]) (tt := tYes) rfl sc_law_right.nd (pi_listK (pv 3)) (blkOk_by (N := ["_law_pool_here", "_law_drawn", "_law_shape_here", "_law_forms", "_law_due", "_law_pattern", "_law_number", "_law_flags", "_law_parts", "_law_line_here", "_law_form_here", "_law_one", "_law_at"]) (sc := defScope s_law_right) (by decide +kernel)) (fun _ _ _ _ _ => pg_name (i := 10) sc_law_right.nd rfl (Or.inl rfl)) (fun _ _ _ _ _ => pts_nil) (fun _ _ _ _ _ => (pe_callTy (r := rStrW P w K mg base 10) (cr_strW (hr.mono (by decide))) (by rfl) T.n_str (by decide +kernel) (pa_cons (pv 10) pa_nil)))) (pv 4) (nomark _))))))) pss_nil) (pss_cons (ps_set (i := 5) sc_law_right.nd rfl (by first | exact Or.inl rfl | exact Or.inr rfl) (pe_call (ok_law_built T 4) (hr.mono (by decide)) (by rfl) T.g_law_built T.F_law_built.kp (bn_law_built T) .nil pass0 (pa_cons (pv 2) (pa_cons (pv 3) pa_nil)))) (pss_cons (ps_if (pt_cmpR op_neS (pe_callTy (r := rStrW P w K mg base 10) (cr_strW (hr.mono (by decide))) (by rfl) T.n_str (by decide +kernel) (pa_cons (pv 5) pa_nil)) (pe_call (ok_law_shown T 4) (hr.mono (by decide)) (by rfl) T.g_law_shown T.F_law_shown.kp (bn_law_shown T) .nil pass0 (pa_cons (pv 2) (pa_cons (pv 1) pa_nil))) (nomark _)) (pss_one (ps_ret pe_bl)) pss_nil) (pss_cons (ps_if (pt_cmpR (r := rNeD K) (op_neD hr.units) (pe_lc (own := [("_law_one", 11)]) (tt := tYes) rfl sc_law_right.nd (pi_listK (pe_methV0 (E := E0) (pv 5))) (blkOk_by (N := ["_law_pool_here", "_law_drawn", "_law_shape_here", "_law_forms", "_law_due", "_law_pattern", "_law_number", "_law_flags", "_law_parts", "_law_line_here", "_law_form_here", "_law_one", "_law_at"]) (sc := defScope s_law_right) (by decide +kernel)) (fun _ _ _ _ _ => pg_name (i := 11) sc_law_right.nd rfl (Or.inl rfl)) (fun _ _ _ _ _ => pts_nil) (fun _ _ _ _ _ => (pe_callTy (r := rStrW P w K mg base 10) (cr_strW (hr.mono (by decide))) (by rfl) T.n_str (by decide +kernel) (pa_cons (pv 11) pa_nil)))) (pe_lc (own := [("_law_one", 11)]) (tt := tYes) rfl sc_law_right.nd (pi_listK (pv 3)) (blkOk_by (N := ["_law_pool_here", "_law_drawn", "_law_shape_here", "_law_forms", "_law_due", "_law_pattern", "_law_number", "_law_flags", "_law_parts", "_law_line_here", "_law_form_here", "_law_one", "_law_at"]) (sc := defScope s_law_right) (by decide +kernel)) (fun _ _ _ _ _ => pg_name (i := 11) sc_law_right.nd rfl (Or.inl rfl)) (fun _ _ _ _ _ => pts_nil) (fun _ _ _ _ _ => (pe_callTy (r := rStrW P w K mg base 10) (cr_strW (hr.mono (by decide))) (by rfl) T.n_str (by decide +kernel) (pa_cons (pv 11) pa_nil)))) (nomark _)) (pss_one (ps_ret pe_bl)) pss_nil) (pss_cons (ps_if (pt_cmpR op_neB (pe_callB (r := rIsi K) call_isi (by rfl) T.n_isinstance (by decide +kernel) (pa_cons (pv 5) (pa_cons (pe_glob (v := V.ref (He.ga K "Both")) (by rfl) T.gc_Both rfl) pa_nil))) (pe_cmpR (r := rEqD K) (op_eqD hr.units) (pe_ix (r := rIxL K) ix_list (pv 2) pe_int (fun _ _ => rfl)) pe_str (nomark _)) (nomark _)) (pss_one (ps_ret pe_bl)) pss_nil) (pss_cons (ps_if (pt_cmpR op_neB (pe_callB (r := rIsi K) call_isi (by rfl) T.n_isinstance (by decide +kernel) (pa_cons (pv 5) (pa_cons (pe_glob (v := V.ref (He.ga K "Either")) (by rfl) T.gc_Either rfl) pa_nil))) (pe_cmpR (r := rEqD K) (op_eqD hr.units) (pe_ix (r := rIxL K) ix_list (pv 2) pe_int (fun _ _ => rfl)) pe_str (nomark _)) (nomark _)) (pss_one (ps_ret pe_bl)) pss_nil) (pss_cons (ps_for PassesOwn.never rfl (pi_range1 (by rfl) T.n_range (pa_cons (pe_op op_pow pe_int pe_int) pa_nil)) (pg_name (i := 6) sc_law_right.nd rfl (by first | exact Or.inl rfl | exact Or.inr rfl)) (pss_cons (ps_setLc (i := 7) (own := [("_law_at", 12)]) (tt := tYes) rfl sc_law_right.nd rfl rfl (sw_true rfl rfl rfl (by decide +kernel)) (pi_range1 (by rfl) T.n_range (pa_cons (pe_callB (r := rLenQ K) cr_lenQ (by rfl) T.n_len (by decide +kernel) (pa_cons (pv 1) pa_nil)) pa_nil)) (blkOk_by (N := ["_law_pool_here", "_law_drawn", "_law_shape_here", "_law_forms", "_law_due", "_law_pattern", "_law_number", "_law_flags", "_law_parts", "_law_line_here", "_law_form_here", "_law_one", "_law_at"]) (sc := defScope s_law_right) (by decide +kernel)) (fun _ _ _ _ _ => pg_name (i := 12) sc_law_right.nd rfl (Or.inl rfl)) (fun _ _ _ _ _ => pts_nil) (fun _ _ _ _ _ => (pe_cmpR op_eqI (pe_op op_mod (pe_op op_fdiv (pv 6) (pe_ix (r := rIxL K) ix_list (pe_lst (pa_cons pe_int (pa_cons pe_int (pa_cons pe_int pa_nil)))) (pv 12) (fun _ _ => rfl))) pe_int) pe_int (nomark _)))) (pss_one (ps_if (pt_cmpR op_neB (pe_methV (E := E0) (pv 5) (pa_cons (pe_callTy (r := rListQ K) cr_listQ (by rfl) T.n_list (by decide +kernel) (pa_cons (pv 7) pa_nil)) pa_nil)) (pe_call (ok_law_holds T 4) (hr.mono (by decide)) (by rfl) T.g_law_holds T.F_law_holds.kp (bn_law_holds T) .nil pass0 (pa_cons (pv 2) (pa_cons (pv 7) pa_nil))) (nomark _)) (pss_one (ps_ret pe_bl)) pss_nil)))) (pss_cons (ps_for PassesOwn.never rfl (pi_listK (pv 1)) (pg_name (i := 8) sc_law_right.nd rfl (by first | exact Or.inl rfl | exact Or.inr rfl)) (pss_cons (ps_set (i := 9) sc_law_right.nd rfl (by first | exact Or.inl rfl | exact Or.inr rfl) (pe_call (ok_law_spoiled T) (hr.mono (by decide)) (by rfl) T.g_law_spoiled T.F_law_spoiled.kp (bn_law_spoiled T) .nil pass0 (pa_cons (pv 0) (pa_cons (pe_call (ok_law_line T) (hr.mono (by decide)) (by rfl) T.g_law_line T.F_law_line.kp (bn_law_line T) .nil pass0 (pa_cons (pv 0) (pa_cons (pv 8) pa_nil))) pa_nil)))) (pss_one (ps_if (pt_cmpR op_neB (pe_cmpR (r := rInW P w K mg base 5 false) (op_inW (hr.mono (by decide))) (pv 9) (pv 5) rfl) (pe_call (ok_law_holds T 4) (hr.mono (by decide)) (by rfl) T.g_law_holds T.F_law_holds.kp (bn_law_holds T) .nil pass0 (pa_cons (pv 2) (pa_cons (pe_lc (own := [("_law_one", 11)]) (tt := tYes) rfl sc_law_right.nd (pi_listK (pv 1)) (blkOk_by (N := ["_law_pool_here", "_law_drawn", "_law_shape_here", "_law_forms", "_law_due", "_law_pattern", "_law_number", "_law_flags", "_law_parts", "_law_line_here", "_law_form_here", "_law_one", "_law_at"]) (sc := defScope s_law_right) (by decide +kernel)) (fun _ _ _ _ _ => pg_name (i := 11) sc_law_right.nd rfl (Or.inl rfl)) (fun _ _ _ _ _ => pts_nil) (fun _ _ _ _ _ => (pe_call (ok_law_fits T) (hr.mono (by decide)) (by rfl) T.g_law_fits T.F_law_fits.kp (bn_law_fits T) .nil pass0 (pa_cons (pv 11) (pa_cons (pv 9) pa_nil))))) pa_nil))) (nomark _)) (pss_one (ps_ret pe_bl)) pss_nil)))) (pss_cons (ps_if (PW.pt (pw_or (pt_not (pt_val (pe_callB (r := rIsi K) call_isi (by rfl) T.n_isinstance (by decide +kernel) (pa_cons (pv 5) (pa_cons (pe_glob (v := V.ref (He.ga K "Pattern")) (by rfl) T.gc_Pattern rfl) pa_nil))))) (pw_or1 (pt_cmpR (r := rEqO K _ (sp_Pattern___eq___v2 K) _) (op_eqO (ok_Pattern___eq___v2 T) (hr.mono (by decide)) (bn_Pattern___eq___v2 T) pass0) (pv 5) (pe_callTy (r := rStrW P w K mg base 10) (cr_strW (hr.mono (by decide))) (by rfl) T.n_str (by decide +kernel) (pa_cons (pv 5) pa_nil)) (nomark _))))) (pss_one (ps_ret pe_bl)) pss_nil) (pss_one (ps_ret (pe_cmpR (r := rEqO K _ (sp_Pattern___eq__ K) _) (op_eqO (ok_Pattern___eq__ T) (hr.mono (by decide)) (bn_Pattern___eq__ T) pass0) (pv 5) (pe_call (ok_law_built T 4) (hr.mono (by decide)) (by rfl) T.g_law_built T.F_law_built.kp (bn_law_built T) .nil pass0 (pa_cons (pv 2) (pa_cons (pv 3) pa_nil))) (nomark _))))))))))))))), ?_⟩
    have S : Sx (fun a => a = p__law_pool_here) F0 H0 F0 H0 := Sx.refl hE (live1 w__law_pool_here)
    unfold m_law_right at hm
    refine rd_seq ?_
    refine rd_asg ?_
    refine rd_lc ?_
    refine rd_iL ?_
    refine rd_v rfl ?_
    refine rd_wLF S (f__law_drawn) (fun p1 vs2 hq3 row4 => ?_)
    obtain ⟨g5, hm⟩ := gd_some hm
    obtain ⟨t6, e7, hm⟩ := bd_some hm
    refine rd_comp (B := qForm) feedsL (typedRow row4) e7 g5 (Pc := P0) (fun _ z => z.elim) S.sub (fun (s8 : Unit) F H => True) ?_ ?_ ?_ ?_ ?_ ?_
    · intro _ _ _ S9 _
      exact (Same.seq S9.sub (Same.seq S9.le hq3))
    · trivial
    · intros; trivial
    · intros; trivial
    · skip
      intro x10 v11 s12 o13 F14 H15 d16 acc17 f18 S19 w20 w21 n22 hm23 E24 N25 hN26 hE27
      have f__law_drawn := (qL (qL qS)).mono S19.le f__law_drawn
      have f__law_shape_here := qSh.mono S19.le f__law_shape_here
      have w__law_pool_here := w__law_pool_here.call0 S19
      have S28 := Sx.refl0 S19.sub
      unfold m_law_right_b1 at hm23
      have f18 := (qL qS).mono S19.le f18
      obtain ⟨t29, e30, hm23⟩ := bd_some hm23
      refine rd_gn ?_
      refine rd_wp rfl ?_
      refine rd_yes ?_
      refine if_tt ?_
      refine rd_call ?_
      refine rd_cons ?_
      refine rd_v rfl ?_
      refine rd_nil ?_
      refine ⟨F14, _, _, t29, rfl, S28.sub, f18, e30, fun v34 F31 H32 c33 f35 => ?_⟩
      have S36 := S28.call0 c33
      have f__law_drawn := (qL (qL qS)).mono c33.le f__law_drawn
      have f__law_shape_here := qSh.mono c33.le f__law_shape_here
      have f18 := (qL qS).mono c33.le f18
      have w__law_pool_here := w__law_pool_here.call0 c33
      cases hm23
      exact hN26 _ _ _ _ rfl S36 f35 trivial
    intro p37 us38 F39 H40 n41 c42 w43 w44 r45
    have z46 := S.free0 n41
    have ne47 : p__law_pool_here ≠ p37 := w__law_pool_here.ne n41
    have S48 := S.call0 c42
    have f__law_drawn := (qL (qL qS)).mono c42.le f__law_drawn
    have f__law_shape_here := qSh.mono c42.le f__law_shape_here
    have w__law_pool_here := w__law_pool_here.call0 c42
    have w49 : Ow (fun a => a = p__law_pool_here) H0 _ _ _ _ := ⟨w44.fr, w44.at_, .inl z46⟩
    obtain ⟨F50, S51, le52, f53, _, eq54⟩ := fz S48 w49 z46 r45
    have f__law_drawn := (qL (qL qS)).mono le52 f__law_drawn
    have f__law_shape_here := qSh.mono le52 f__law_shape_here
    have w__law_pool_here := w__law_pool_here.fzO ne47 eq54
    refine rd_gn ?_
    refine rd_seq ?_
    refine rd_ifS ?_
    refine rd_test ?_
    refine rd_op ?_
    refine rd_cb ?_
    refine rd_cons ?_
    refine rd_v rfl ?_
    refine rd_nil ?_
    refine rd_lenQ (S51.l f__law_drawn).r.q ?_
    refine rd_c ?_
    refine rd_I0 ?_
    refine rd_b ?_
    refine if_b hm (fun b55 hm => ?_) (fun b55 hm => ?_)
    · skip
      refine rd_seq ?_
      refine rd_asg ?_
      refine rd_lc ?_
      refine rd_iL ?_
      refine rd_v rfl ?_
      refine rd_wLF S51 (f__law_drawn) (fun p56 vs57 hq58 row59 => ?_)
      obtain ⟨g60, hm⟩ := gd_some hm
      obtain ⟨t61, e62, hm⟩ := bd_some hm
      refine rd_comp (B := qS) feedsL (typedRow row59) e62 g60 (Pc := P0) (fun _ z => z.elim) S51.sub (fun (s63 : Unit) F H => True) ?_ ?_ ?_ ?_ ?_ ?_
      · intro _ _ _ S64 _
        exact (Same.seq S64.sub (Same.seq S64.le hq58))
      · trivial
      · intros; trivial
      · intros; trivial
      · skip
        intro x65 v66 s67 o68 F69 H70 d71 acc72 f73 S74 w75 w76 n77 hm78 E79 N80 hN81 hE82
        have f__law_drawn := (qL (qL qS)).mono S74.le f__law_drawn
        have f__law_shape_here := qSh.mono S74.le f__law_shape_here
        have f53 := (qL qForm).mono S74.le f53
        have w__law_pool_here := w__law_pool_here.call0 S74
        have S83 := Sx.refl0 S74.sub
        unfold m_law_right_b2 at hm78
        have f73 := (qL qS).mono S74.le f73
        obtain ⟨g84, hm78⟩ := gd_some hm78
        cases hm78
        refine rd_gn ?_
        refine rd_wp rfl ?_
        refine rd_yes ?_
        refine if_tt ?_
        refine rd_bm ?_
        refine rd_c ?_
        refine rd_ty (tyS_str) ?_
        refine rd_cons ?_
        refine rd_v rfl ?_
        refine rd_nil ?_
        refine rd_join (S83.l f73).r.q g84 ?_
        exact hN81 _ _ _ _ rfl S83 rfl trivial
      intro p85 us86 F87 H88 n89 c90 w91 w92 r93
      have z94 := S51.free0 n89
      have ne95 : p__law_pool_here ≠ p85 := w__law_pool_here.ne n89
      have S96 := S51.call0 c90
      have f__law_drawn := (qL (qL qS)).mono c90.le f__law_drawn
      have f__law_shape_here := qSh.mono c90.le f__law_shape_here
      have f53 := (qL qForm).mono c90.le f53
      have w__law_pool_here := w__law_pool_here.call0 c90
      have w97 : Ow (fun a => a = p__law_pool_here) H0 _ _ _ _ := ⟨w92.fr, w92.at_, .inl z94⟩
      obtain ⟨F98, S99, le100, f101, _, eq102⟩ := fz S96 w97 z94 r93
      have f__law_drawn := (qL (qL qS)).mono le100 f__law_drawn
      have f__law_shape_here := qSh.mono le100 f__law_shape_here
      have f53 := (qL qForm).mono le100 f53
      have w__law_pool_here := w__law_pool_here.fzO ne95 eq102
      obtain ⟨t103, e104, hm⟩ := bd_some hm
      refine rd_gn ?_
      refine rd_ret ?_
      refine rd_andV ?_
      refine rd_call ?_
      refine rd_cons ?_
      refine rd_v rfl ?_
      refine rd_cons ?_
      refine rd_v rfl ?_
      refine rd_nil ?_
      refine ⟨F98, _, _, _, _, t103, rfl, S99.sub, f__law_shape_here, f53, e104, fun v108 F105 H106 c107 f109 => ?_⟩
      have S110 := S99.call0 c107
      have f__law_drawn := (qL (qL qS)).mono c107.le f__law_drawn
      have f__law_shape_here := qSh.mono c107.le f__law_shape_here
      have f53 := (qL qForm).mono c107.le f53
      have f101 := (qL qS).mono c107.le f101
      have w__law_pool_here := w__law_pool_here.call0 c107
      cases (show v108 = (V.bl (t103)) from f109)
      obtain ⟨t168, e169, hm⟩ := bd_some hm
      refine rd_b ?_
      refine andV_j (fun c H' => c = V.bl t168 ∧ ∃ F', Sx P0 F105 H106 F' H') ?_ ?_ ?_
      · intro b170 Q171 q172
        have e169 := if_t e169 b170
        have S173 := Sx.refl0 S110.sub
        refine rd_op ?_
        refine rd_lc ?_
        refine rd_iL ?_
        refine rd_v rfl ?_
        refine rd_wLF S173 (f53) (fun p174 vs175 hq176 row177 => ?_)
        obtain ⟨g178, e169⟩ := gd_some e169
        obtain ⟨t179, e180, e169⟩ := bd_some e169
        refine rd_comp (B := qS) feedsL (typedRow row177) e180 g178 (Pc := P0) (fun _ z => z.elim) S173.sub (fun (s181 : Unit) F H => True) ?_ ?_ ?_ ?_ ?_ ?_
        · intro _ _ _ S182 _
          exact (Same.seq S182.sub (Same.seq S182.le hq176))
        · trivial
        · intros; trivial
        · intros; trivial
        · skip
          intro x183 v184 s185 o186 F187 H188 d189 acc190 f191 S192 w193 w194 n195 hm196 E197 N198 hN199 hE200
          have f__law_drawn := (qL (qL qS)).mono S192.le f__law_drawn
          have f__law_shape_here := qSh.mono S192.le f__law_shape_here
          have f53 := (qL qForm).mono S192.le f53
          have f101 := (qL qS).mono S192.le f101
          have w__law_pool_here := w__law_pool_here.call0 S192
          have S201 := Sx.refl0 S192.sub
          unfold m_law_right_b5 at hm196
          have f191 := qForm.mono S192.le f191
          have f202 : qPat.r K F187 v184 (Pat.form x183) := (show qPat.r K F187 v184 _ from f191)
          refine rd_gn ?_
          refine rd_wp rfl ?_
          refine rd_yes ?_
          refine if_tt ?_
          refine rd_cb ?_
          refine rd_cons ?_
          refine rd_v rfl ?_
          refine rd_nil ?_
          refine VM.strW (vm_str T 3) S201 f202 ?_
          obtain ⟨t203, e204, hm196⟩ := bd_some hm196
          refine ⟨F187, _, _, t203, rfl, S201.sub, f202, rfl, e204, fun v208 F205 H206 c207 f209 => ?_⟩
          have S210 := S201.call0 c207
          have f__law_drawn := (qL (qL qS)).mono c207.le f__law_drawn
          have f__law_shape_here := qSh.mono c207.le f__law_shape_here
          have f53 := (qL qForm).mono c207.le f53
          have f101 := (qL qS).mono c207.le f101
          have f191 := qForm.mono c207.le f191
          have w__law_pool_here := w__law_pool_here.call0 c207
          cases (show v208 = (V.str (t203)) from f209)
          cases hm196
          refine rd_stK ?_
          exact hN199 _ _ _ _ rfl S210 rfl trivial
        intro p211 us212 F213 H214 n215 c216 w217 w218 r219
        have z220 := S173.free0 n215
        have ne221 : p__law_pool_here ≠ p211 := w__law_pool_here.ne n215
        have S222 := S173.call0 c216
        have f__law_drawn := (qL (qL qS)).mono c216.le f__law_drawn
        have f__law_shape_here := qSh.mono c216.le f__law_shape_here
        have f53 := (qL qForm).mono c216.le f53
        have f101 := (qL qS).mono c216.le f101
        have w__law_pool_here := w__law_pool_here.call0 c216
        have w223 : Ow P0 H106 _ _ _ _ := ⟨w218.fr, w218.at_, .inl z220⟩
        obtain ⟨F224, S225, le226, f227, _, eq228⟩ := fz S222 w223 z220 r219
        have f__law_drawn := (qL (qL qS)).mono le226 f__law_drawn
        have f__law_shape_here := qSh.mono le226 f__law_shape_here
        have f53 := (qL qForm).mono le226 f53
        have f101 := (qL qS).mono le226 f101
        have w__law_pool_here := w__law_pool_here.fzO ne221 eq228
        obtain ⟨g229, e169⟩ := gd_some e169
        obtain ⟨g230, e169⟩ := gd_some e169
        cases e169
        refine rd_v rfl ?_
        refine rd_eqD (D := (dL dS)) (S225.d (dL dS) f227) (S225.d (dL dS) f101) g229 g230 ?_
        exact q172 _ _ ⟨rfl, F224, S225⟩
      · intro b170
        have e169 := if_f e169 b170
        cases e169
        have S231 := Sx.refl0 S110.sub
        exact ⟨rfl, F105, S231⟩
      rintro b235 H233 ⟨rfl, F232, c234⟩
      have S236 := S110.call0 c234
      have f__law_drawn := (qL (qL qS)).mono c234.le f__law_drawn
      have f__law_shape_here := qSh.mono c234.le f__law_shape_here
      have f53 := (qL qForm).mono c234.le f53
      have f101 := (qL qS).mono c234.le f101
      have w__law_pool_here := w__law_pool_here.call0 c234
      cases hm
      exact hQ _ _ _ S236 w__law_pool_here rfl
    · skip
      obtain ⟨t237, e238, hm⟩ := bd_some hm
      refine rd_next ?_
      refine rd_seq ?_
      refine rd_asg ?_
      refine rd_call ?_
      refine rd_cons ?_
      refine rd_v rfl ?_
      refine rd_cons ?_
      refine rd_v rfl ?_
      refine rd_nil ?_
      refine ⟨F50, _, _, _, _, t237, rfl, S51.sub, f__law_shape_here, f53, e238, fun v242 F239 H240 c241 f243 => ?_⟩
      have S244 := S51.call0 c241
      have f__law_drawn := (qL (qL qS)).mono c241.le f__law_drawn
      have f__law_shape_here := qSh.mono c241.le f__law_shape_here
      have f53 := (qL qForm).mono c241.le f53
      have w__law_pool_here := w__law_pool_here.call0 c241
      refine rd_gn ?_
      refine rd_seq ?_
      refine rd_ifS ?_
      refine rd_test ?_
      refine rd_op ?_
      refine rd_cb ?_
      refine rd_cons ?_
      refine rd_v rfl ?_
      refine rd_nil ?_
      refine VM.strW (vm_str T 3) S244 f243 ?_
      obtain ⟨t245, e246, hm⟩ := bd_some hm
      refine ⟨F239, _, _, t245, rfl, S244.sub, f243, rfl, e246, fun v250 F247 H248 c249 f251 => ?_⟩
      have S252 := S244.call0 c249
      have f__law_drawn := (qL (qL qS)).mono c249.le f__law_drawn
      have f__law_shape_here := qSh.mono c249.le f__law_shape_here
      have f53 := (qL qForm).mono c249.le f53
      have f243 := qPat.mono c249.le f243
      have w__law_pool_here := w__law_pool_here.call0 c249
      cases (show v250 = (V.str (t245)) from f251)
      obtain ⟨t253, e254, hm⟩ := bd_some hm
      refine rd_stK ?_
      refine rd_call ?_
      refine rd_cons ?_
      refine rd_v rfl ?_
      refine rd_cons ?_
      refine rd_v rfl ?_
      refine rd_nil ?_
      refine ⟨F247, _, _, _, _, t253, rfl, S252.sub, f__law_shape_here, f__law_drawn, e254, fun v258 F255 H256 c257 f259 => ?_⟩
      have S260 := S252.call0 c257
      have f__law_drawn := (qL (qL qS)).mono c257.le f__law_drawn
      have f__law_shape_here := qSh.mono c257.le f__law_shape_here
      have f53 := (qL qForm).mono c257.le f53
      have f243 := qPat.mono c257.le f243
      have w__law_pool_here := w__law_pool_here.call0 c257
      cases (show v258 = (V.str (t253)) from f259)
      refine rd_S0 ?_
      refine rd_b ?_
      refine if_b hm (fun b261 hm => ?_) (fun b261 hm => ?_)
      · skip
        cases hm
        refine rd_ret ?_
        refine rd_c ?_
        exact hQ _ _ _ S260 w__law_pool_here rfl
      · skip
        refine rd_next ?_
        refine rd_seq ?_
        refine rd_ifS ?_
        refine rd_test ?_
        refine rd_op ?_
        refine rd_lc ?_
        refine rd_iL ?_
        refine rd_methV ?_
        refine rd_v rfl ?_
        refine VM.call (vm_forms T 3) (hr.mono (by decide)) S260 f243 ?_
        obtain ⟨t262, e263, hm⟩ := bd_some hm
        refine rd_nil ?_
        refine ⟨F255, _, _, t262, rfl, S260.sub, f243, rfl, e263, fun v267 F264 H265 c266 f268 => ?_⟩
        have S269 := S260.call0 c266
        have f__law_drawn := (qL (qL qS)).mono c266.le f__law_drawn
        have f__law_shape_here := qSh.mono c266.le f__law_shape_here
        have f53 := (qL qForm).mono c266.le f53
        have f243 := qPat.mono c266.le f243
        have w__law_pool_here := w__law_pool_here.call0 c266
        refine rd_wLF S269 (f268) (fun p270 vs271 hq272 row273 => ?_)
        obtain ⟨g274, hm⟩ := gd_some hm
        obtain ⟨t275, e276, hm⟩ := bd_some hm
        refine rd_comp (B := qS) feedsL (typedRow row273) e276 g274 (Pc := P0) (fun _ z => z.elim) S269.sub (fun (s277 : Unit) F H => True) ?_ ?_ ?_ ?_ ?_ ?_
        · intro _ _ _ S278 _
          exact (Same.seq S278.sub (Same.seq S278.le hq272))
        · trivial
        · intros; trivial
        · intros; trivial
        · skip
          intro x279 v280 s281 o282 F283 H284 d285 acc286 f287 S288 w289 w290 n291 hm292 E293 N294 hN295 hE296
          have f__law_drawn := (qL (qL qS)).mono S288.le f__law_drawn
          have f__law_shape_here := qSh.mono S288.le f__law_shape_here
          have f53 := (qL qForm).mono S288.le f53
          have f243 := qPat.mono S288.le f243
          have w__law_pool_here := w__law_pool_here.call0 S288
          have S297 := Sx.refl0 S288.sub
          unfold m_law_right_b6 at hm292
          have f287 := qForm.mono S288.le f287
          have f298 : qPat.r K F283 v280 (Pat.form x279) := (show qPat.r K F283 v280 _ from f287)
          refine rd_gn ?_
          refine rd_wp rfl ?_
          refine rd_yes ?_
          refine if_tt ?_
          refine rd_cb ?_
          refine rd_cons ?_
          refine rd_v rfl ?_
          refine rd_nil ?_
          refine VM.strW (vm_str T 3) S297 f298 ?_
          obtain ⟨t299, e300, hm292⟩ := bd_some hm292
          refine ⟨F283, _, _, t299, rfl, S297.sub, f298, rfl, e300, fun v304 F301 H302 c303 f305 => ?_⟩
          have S306 := S297.call0 c303
          have f__law_drawn := (qL (qL qS)).mono c303.le f__law_drawn
          have f__law_shape_here := qSh.mono c303.le f__law_shape_here
          have f53 := (qL qForm).mono c303.le f53
          have f243 := qPat.mono c303.le f243
          have f287 := qForm.mono c303.le f287
          have w__law_pool_here := w__law_pool_here.call0 c303
          cases (show v304 = (V.str (t299)) from f305)
          cases hm292
          refine rd_stK ?_
          exact hN295 _ _ _ _ rfl S306 rfl trivial
        intro p307 us308 F309 H310 n311 c312 w313 w314 r315
        have z316 := S269.free0 n311
        have ne317 : p__law_pool_here ≠ p307 := w__law_pool_here.ne n311
        have S318 := S269.call0 c312
        have f__law_drawn := (qL (qL qS)).mono c312.le f__law_drawn
        have f__law_shape_here := qSh.mono c312.le f__law_shape_here
        have f53 := (qL qForm).mono c312.le f53
        have f243 := qPat.mono c312.le f243
        have w__law_pool_here := w__law_pool_here.call0 c312
        have w319 : Ow (fun a => a = p__law_pool_here) H0 _ _ _ _ := ⟨w314.fr, w314.at_, .inl z316⟩
        obtain ⟨F320, S321, le322, f323, _, eq324⟩ := fz S318 w319 z316 r315
        have f__law_drawn := (qL (qL qS)).mono le322 f__law_drawn
        have f__law_shape_here := qSh.mono le322 f__law_shape_here
        have f53 := (qL qForm).mono le322 f53
        have f243 := qPat.mono le322 f243
        have w__law_pool_here := w__law_pool_here.fzO ne317 eq324
        refine rd_lc ?_
        refine rd_iL ?_
        refine rd_v rfl ?_
        refine rd_wLF S321 (f53) (fun p325 vs326 hq327 row328 => ?_)
        obtain ⟨g329, hm⟩ := gd_some hm
        obtain ⟨t330, e331, hm⟩ := bd_some hm
        refine rd_comp (B := qS) feedsL (typedRow row328) e331 g329 (Pc := P0) (fun _ z => z.elim) S321.sub (fun (s332 : Unit) F H => True) ?_ ?_ ?_ ?_ ?_ ?_
        · intro _ _ _ S333 _
          exact (Same.seq S333.sub (Same.seq S333.le hq327))
        · trivial
        · intros; trivial
        · intros; trivial
        · skip
          intro x334 v335 s336 o337 F338 H339 d340 acc341 f342 S343 w344 w345 n346 hm347 E348 N349 hN350 hE351
          have f__law_drawn := (qL (qL qS)).mono S343.le f__law_drawn
          have f__law_shape_here := qSh.mono S343.le f__law_shape_here
          have f53 := (qL qForm).mono S343.le f53
          have f243 := qPat.mono S343.le f243
          have f323 := (qL qS).mono S343.le f323
          have w__law_pool_here := w__law_pool_here.call0 S343
          have S352 := Sx.refl0 S343.sub
          unfold m_law_right_b7 at hm347
          have f342 := qForm.mono S343.le f342
          have f353 : qPat.r K F338 v335 (Pat.form x334) := (show qPat.r K F338 v335 _ from f342)
          refine rd_gn ?_
          refine rd_wp rfl ?_
          refine rd_yes ?_
          refine if_tt ?_
          refine rd_cb ?_
          refine rd_cons ?_
          refine rd_v rfl ?_
          refine rd_nil ?_
          refine VM.strW (vm_str T 3) S352 f353 ?_
          obtain ⟨t354, e355, hm347⟩ := bd_some hm347
          refine ⟨F338, _, _, t354, rfl, S352.sub, f353, rfl, e355, fun v359 F356 H357 c358 f360 => ?_⟩
          have S361 := S352.call0 c358
          have f__law_drawn := (qL (qL qS)).mono c358.le f__law_drawn
          have f__law_shape_here := qSh.mono c358.le f__law_shape_here
          have f53 := (qL qForm).mono c358.le f53
          have f243 := qPat.mono c358.le f243
          have f342 := qForm.mono c358.le f342
          have f323 := (qL qS).mono c358.le f323
          have w__law_pool_here := w__law_pool_here.call0 c358
          cases (show v359 = (V.str (t354)) from f360)
          cases hm347
          refine rd_stK ?_
          exact hN350 _ _ _ _ rfl S361 rfl trivial
        intro p362 us363 F364 H365 n366 c367 w368 w369 r370
        have z371 := S321.free0 n366
        have ne372 : p__law_pool_here ≠ p362 := w__law_pool_here.ne n366
        have S373 := S321.call0 c367
        have f__law_drawn := (qL (qL qS)).mono c367.le f__law_drawn
        have f__law_shape_here := qSh.mono c367.le f__law_shape_here
        have f53 := (qL qForm).mono c367.le f53
        have f243 := qPat.mono c367.le f243
        have f323 := (qL qS).mono c367.le f323
        have w__law_pool_here := w__law_pool_here.call0 c367
        have w374 : Ow (fun a => a = p__law_pool_here) H0 _ _ _ _ := ⟨w369.fr, w369.at_, .inl z371⟩
        obtain ⟨F375, S376, le377, f378, _, eq379⟩ := fz S373 w374 z371 r370
        have f__law_drawn := (qL (qL qS)).mono le377 f__law_drawn
        have f__law_shape_here := qSh.mono le377 f__law_shape_here
        have f53 := (qL qForm).mono le377 f53
        have f243 := qPat.mono le377 f243
        have f323 := (qL qS).mono le377 f323
        have w__law_pool_here := w__law_pool_here.fzO ne372 eq379
        obtain ⟨g380, hm⟩ := gd_some hm
        obtain ⟨g381, hm⟩ := gd_some hm
        refine rd_neD (D := (dL dS)) (S376.d (dL dS) f323) (S376.d (dL dS) f378) g380 g381 ?_
        refine rd_b ?_
        refine if_b hm (fun b382 hm => ?_) (fun b382 hm => ?_)
        · skip
          cases hm
          refine rd_ret ?_
          refine rd_c ?_
          exact hQ _ _ _ S376 w__law_pool_here rfl
        · skip
          obtain ⟨g383, hm⟩ := gd_some hm
          refine rd_next ?_
          refine rd_seq ?_
          refine rd_ifS ?_
          refine rd_test ?_
          refine rd_op ?_
          refine rd_cb ?_
          refine rd_cons ?_
          refine rd_v rfl ?_
          refine rd_cons ?_
          refine rd_c ?_
          refine rd_nil ?_
          refine rd_isPatC T.pf T.pe (.inr (.inl rfl)) S376 f243 ?_
          refine rd_op ?_
          refine rd_op ?_
          refine rd_v rfl ?_
          refine rd_c ?_
          refine rd_shEq (z := ("&" : Str)) S376 f__law_shape_here g383 (by decide +kernel) ?_
          refine rd_B0 ?_
          refine rd_b ?_
          refine if_b hm (fun b384 hm => ?_) (fun b384 hm => ?_)
          · skip
            cases hm
            refine rd_ret ?_
            refine rd_c ?_
            exact hQ _ _ _ S376 w__law_pool_here rfl
          · skip
            obtain ⟨g385, hm⟩ := gd_some hm
            refine rd_next ?_
            refine rd_seq ?_
            refine rd_ifS ?_
            refine rd_test ?_
            refine rd_op ?_
            refine rd_cb ?_
            refine rd_cons ?_
            refine rd_v rfl ?_
            refine rd_cons ?_
            refine rd_c ?_
            refine rd_nil ?_
            refine rd_isPatC T.pf T.pe (.inr (.inr rfl)) S376 f243 ?_
            refine rd_op ?_
            refine rd_op ?_
            refine rd_v rfl ?_
            refine rd_c ?_
            refine rd_shEq (z := ("|" : Str)) S376 f__law_shape_here g385 (by decide +kernel) ?_
            refine rd_B0 ?_
            refine rd_b ?_
            refine if_b hm (fun b386 hm => ?_) (fun b386 hm => ?_)
            · skip
              cases hm
              refine rd_ret ?_
              refine rd_c ?_
              exact hQ _ _ _ S376 w__law_pool_here rfl
            · skip
              obtain ⟨g387, hm⟩ := gd_some hm
              obtain ⟨g388, hm⟩ := gd_some hm
              refine rd_next ?_
              refine rd_seq ?_
              refine rd_for ?_
              refine rd_iR1 ?_
              refine rd_cons ?_
              refine rd_op ?_
              refine rd_c ?_
              refine rd_c ?_
              refine rd_I (powOk_of g387) ?_
              refine rd_nil ?_
              refine rd_r1 g388 ?_
              obtain ⟨t389, e390, hm⟩ := bd_some hm
              refine rd_forC feedsRg (typedR (K := K) (F := F375)) e390 (fun (s391 : Unit) σ H => ∃ (F : Hp) (o4 : Option V) (o6 : Option V) (o7 : Option V) (o8 : Option V) (o9 : Option V) (o10 : Option V) (o11 : Option V) (o12 : Option V), σ = [some (V.ref p__law_pool_here), some v__law_drawn, some v__law_shape_here, some (V.ref p37), o4, some v242, o6, o7, o8, o9, o10, o11, o12] ∧ Sx P0 F375 H365 F H) ?_ ?_ ?_ ?_
              · intro _ _ _ _; trivial
              · skip
                have S393 := Sx.refl0 S376.sub
                exact ⟨F375, _, _, _, _, _, _, _, _, rfl, S393⟩
              · skip
                rintro x394 v395 s396 c400 σ397 H398 f399 ⟨F401, o403, o404, o405, o406, o407, o408, o409, o410, rfl, S402⟩ hm413 hbk411 hrt412
                have f__law_drawn := (qL (qL qS)).mono S402.le f__law_drawn
                have f__law_shape_here := qSh.mono S402.le f__law_shape_here
                have f53 := (qL qForm).mono S402.le f53
                have f243 := qPat.mono S402.le f243
                have w__law_pool_here := w__law_pool_here.call0 S402
                unfold m_law_right_b9 at hm413
                cases (show v395 = (V.int (x394)) from f399)
                obtain ⟨g414, hm413⟩ := gd_some hm413
                refine rd_gn ?_
                refine rd_seq ?_
                refine rd_asg ?_
                refine rd_lc ?_
                refine rd_iR1 ?_
                refine rd_cons ?_
                refine rd_cb ?_
                refine rd_cons ?_
                refine rd_v rfl ?_
                refine rd_nil ?_
                refine rd_lenQ (S402.l f__law_drawn).r.q ?_
                refine rd_nil ?_
                refine rd_r1 g414 ?_
                obtain ⟨g415, hm413⟩ := gd_some hm413
                obtain ⟨t416, e417, hm413⟩ := bd_some hm413
                refine rd_comp (B := qB) feedsRg (typedR (K := K) (F := F401)) e417 g415 (Pc := P0) (fun _ z => z.elim) S402.sub (fun (s418 : Unit) F H => True) ?_ ?_ ?_ ?_ ?_ ?_
                · intro _ _ _ _ _; trivial
                · trivial
                · intros; trivial
                · intros; trivial
                · skip
                  intro x420 v421 s422 o423 F424 H425 d426 acc427 f428 S429 w430 w431 n432 hm433 E434 N435 hN436 hE437
                  have f__law_drawn := (qL (qL qS)).mono S429.le f__law_drawn
                  have f__law_shape_here := qSh.mono S429.le f__law_shape_here
                  have f53 := (qL qForm).mono S429.le f53
                  have f243 := qPat.mono S429.le f243
                  have w__law_pool_here := w__law_pool_here.call0 S429
                  have S438 := Sx.refl0 S429.sub
                  unfold m_law_right_b8 at hm433
                  cases (show v421 = (V.int (x420)) from f428)
                  refine rd_gn ?_
                  refine rd_wp rfl ?_
                  refine rd_yes ?_
                  refine if_tt ?_
                  refine rd_op ?_
                  refine rd_op ?_
                  refine rd_op ?_
                  refine rd_v rfl ?_
                  refine rd_op ?_
                  refine rd_lst ?_
                  refine rd_cons ?_
                  refine rd_c ?_
                  refine rd_cons ?_
                  refine rd_c ?_
                  refine rd_cons ?_
                  refine rd_c ?_
                  refine rd_nil ?_
                  refine rd_lK rfl ?_
                  refine alL (K := K) (A := qI) (xs := ([1, 2, 4] : List Int)) S438 (.cons rfl (.cons rfl (.cons rfl .nil))) (fun v439 F440 H441 c442 f443 => ?_)
                  have S444 := S438.call0 c442
                  have f__law_drawn := (qL (qL qS)).mono c442.le f__law_drawn
                  have f__law_shape_here := qSh.mono c442.le f__law_shape_here
                  have f53 := (qL qForm).mono c442.le f53
                  have f243 := qPat.mono c442.le f243
                  have w__law_pool_here := w__law_pool_here.call0 c442
                  obtain ⟨t445, e446, hm433⟩ := bd_some hm433
                  refine rd_v rfl ?_
                  refine rd_ixL (S444.l f443).r e446 (fun u447 f448 => ?_)
                  cases (show u447 = (V.int (t445)) from f448)
                  obtain ⟨g449, hm433⟩ := gd_some hm433
                  obtain ⟨g450, hm433⟩ := gd_some hm433
                  cases hm433
                  refine rd_I (divOk_of g449) ?_
                  refine rd_c ?_
                  refine rd_I (modOk_of g450) ?_
                  refine rd_c ?_
                  refine rd_I0 ?_
                  exact hN436 _ _ _ _ rfl S444 rfl trivial
                intro p451 us452 F453 H454 n455 c456 w457 w458 r459
                have z460 := S402.free0 n455
                have ne461 : p__law_pool_here ≠ p451 := w__law_pool_here.ne n455
                have S462 := S402.call0 c456
                have f__law_drawn := (qL (qL qS)).mono c456.le f__law_drawn
                have f__law_shape_here := qSh.mono c456.le f__law_shape_here
                have f53 := (qL qForm).mono c456.le f53
                have f243 := qPat.mono c456.le f243
                have w__law_pool_here := w__law_pool_here.call0 c456
                have w463 : Ow P0 H365 _ _ _ _ := ⟨w458.fr, w458.at_, .inl z460⟩
                obtain ⟨F464, S465, le466, f467, _, eq468⟩ := fz S462 w463 z460 r459
                have f__law_drawn := (qL (qL qS)).mono le466 f__law_drawn
                have f__law_shape_here := qSh.mono le466 f__law_shape_here
                have f53 := (qL qForm).mono le466 f53
                have f243 := qPat.mono le466 f243
                have w__law_pool_here := w__law_pool_here.fzO ne461 eq468
                refine rd_gn ?_
                refine rd_ifS ?_
                refine rd_test ?_
                refine rd_op ?_
                refine rd_methV ?_
                refine rd_v rfl ?_
                refine VM.call (vm_holds T 3) (hr.mono (by decide)) S465 f243 ?_
                refine rd_cons ?_
                refine rd_cb ?_
                refine rd_cons ?_
                refine rd_v rfl ?_
                refine rd_nil ?_
                refine rd_listQ (S465.l f467).r.q ?_
                refine alL' S465 (fun v469 F470 H471 c472 f473 => ?_)
                have S474 := S465.call0 c472
                have f__law_drawn := (qL (qL qS)).mono c472.le f__law_drawn
                have f__law_shape_here := qSh.mono c472.le f__law_shape_here
                have f53 := (qL qForm).mono c472.le f53
                have f243 := qPat.mono c472.le f243
                have f467 := (qL qB).mono c472.le f467
                have w__law_pool_here := w__law_pool_here.call0 c472
                obtain ⟨t475, e476, hm413⟩ := bd_some hm413
                refine rd_nil ?_
                refine ⟨F470, _, _, _, _, t475, rfl, S474.sub, f243, rfl, f473, e476, fun v480 F477 H478 c479 f481 => ?_⟩
                have S482 := S474.call0 c479
                have f__law_drawn := (qL (qL qS)).mono c479.le f__law_drawn
                have f__law_shape_here := qSh.mono c479.le f__law_shape_here
                have f53 := (qL qForm).mono c479.le f53
                have f243 := qPat.mono c479.le f243
                have f467 := (qL qB).mono c479.le f467
                have w__law_pool_here := w__law_pool_here.call0 c479
                cases (show v480 = (V.bl (t475)) from f481)
                obtain ⟨t483, e484, hm413⟩ := bd_some hm413
                refine rd_call ?_
                refine rd_cons ?_
                refine rd_v rfl ?_
                refine rd_cons ?_
                refine rd_v rfl ?_
                refine rd_nil ?_
                refine ⟨F477, _, _, _, _, t483, rfl, S482.sub, f__law_shape_here, f467, e484, fun v488 F485 H486 c487 f489 => ?_⟩
                have S490 := S482.call0 c487
                have f__law_drawn := (qL (qL qS)).mono c487.le f__law_drawn
                have f__law_shape_here := qSh.mono c487.le f__law_shape_here
                have f53 := (qL qForm).mono c487.le f53
                have f243 := qPat.mono c487.le f243
                have f467 := (qL qB).mono c487.le f467
                have w__law_pool_here := w__law_pool_here.call0 c487
                cases (show v488 = (V.bl (t483)) from f489)
                refine rd_B0 ?_
                refine rd_b ?_
                refine if_b hm413 (fun b491 hm413 => ?_) (fun b491 hm413 => ?_)
                · skip
                  cases hm413
                  have e492 := hrt412 _ rfl
                  subst e492
                  have hm := aft_rt hm
                  have S493 := S376.call0 S490
                  cases hm
                  refine rd_ret ?_
                  refine rd_c ?_
                  exact hQ _ _ _ S493 w__law_pool_here rfl
                · skip
                  cases hm413
                  refine rd_next ?_
                  exact ⟨_, rfl, ⟨F485, _, _, _, _, _, _, _, _, rfl, S490⟩⟩
              · skip
                rintro s496 σ494 H495 e497 ⟨F498, o500, o501, o502, o503, o504, o505, o506, o507, rfl, S499⟩
                subst e497
                have hm := aft_nx hm
                have S508 := S376.call0 S499
                have f__law_drawn := (qL (qL qS)).mono S499.le f__law_drawn
                have f__law_shape_here := qSh.mono S499.le f__law_shape_here
                have f53 := (qL qForm).mono S499.le f53
                have f243 := qPat.mono S499.le f243
                have w__law_pool_here := w__law_pool_here.call0 S499
                refine rd_seq ?_
                refine rd_for ?_
                refine rd_iL ?_
                refine rd_v rfl ?_
                refine rd_wLF S508 (f__law_drawn) (fun p509 vs510 hq511 row512 => ?_)
                obtain ⟨t513, e514, hm⟩ := bd_some hm
                refine rd_forC feedsL (typedRow row512) e514 (fun (s515 : (Int × Int)) σ H => ∃ (F : Hp) (o4 : Option V) (o6 : Option V) (o7 : Option V) (o8 : Option V) (o9 : Option V) (o10 : Option V) (o11 : Option V) (o12 : Option V), σ = [some (V.ref p__law_pool_here), some v__law_drawn, some v__law_shape_here, some (V.ref p37), o4, some v242, o6, o7, o8, o9, o10, o11, o12] ∧ Sx (fun a => a = p__law_pool_here) F498 H495 F H ∧ Ow (fun a => a = p__law_pool_here) H495 F H p__law_pool_here (.lst [V.int s515.1, V.int s515.2])) ?_ ?_ ?_ ?_
                · rintro _ _ _ ⟨_, _, _, _, _, _, _, _, _, _, S516, _⟩
                  exact (Same.seq S516.sub (Same.seq S516.le hq511))
                · skip
                  have S517 : Sx (fun a => a = p__law_pool_here) _ _ _ _ := Sx.refl S508.sub (fun a z => by rw [z, w__law_pool_here.at_]; exact (fun h => nomatch h))
                  have w518 : Ow (fun a => a = p__law_pool_here) H495 _ _ _ _ := ⟨w__law_pool_here.fr, w__law_pool_here.at_, .inr (rfl)⟩
                  exact ⟨F498, _, _, _, _, _, _, _, _, rfl, S517, w518⟩
                · skip
                  rintro x519 v520 s521 c525 σ522 H523 f524 ⟨F526, o528, o529, o530, o531, o532, o533, o534, o535, rfl, S527, w536⟩ hm539 hbk537 hrt538
                  have f__law_drawn := (qL (qL qS)).mono S527.le f__law_drawn
                  have f__law_shape_here := qSh.mono S527.le f__law_shape_here
                  have f53 := (qL qForm).mono S527.le f53
                  have f243 := qPat.mono S527.le f243
                  unfold m_law_right_b11 at hm539
                  have f524 := (qL qS).mono S527.le f524
                  obtain ⟨t540, e541, hm539⟩ := bd_some hm539
                  refine rd_gn ?_
                  refine rd_seq ?_
                  refine rd_asg ?_
                  refine rd_call ?_
                  refine rd_cons ?_
                  refine rd_v rfl ?_
                  refine rd_cons ?_
                  refine rd_call ?_
                  refine rd_cons ?_
                  refine rd_v rfl ?_
                  refine rd_cons ?_
                  refine rd_v rfl ?_
                  refine rd_nil ?_
                  refine ⟨F526, _, _, _, _, t540, rfl, S527.sub, w536.arg, f524, e541, fun v545 F542 H543 c544 w547 f546 => ?_⟩
                  have S548 := S527.call1 c544 w536
                  have f__law_drawn := (qL (qL qS)).mono c544.le f__law_drawn
                  have f__law_shape_here := qSh.mono c544.le f__law_shape_here
                  have f524 := (qL qS).mono c544.le f524
                  have f53 := (qL qForm).mono c544.le f53
                  have f243 := qPat.mono c544.le f243
                  have w549 := w536.back w547
                  cases (show v545 = (V.str (t540.1)) from f546)
                  obtain ⟨t550, e551, hm539⟩ := bd_some hm539
                  refine rd_nil ?_
                  refine ⟨F542, _, _, _, t550, rfl, S548.sub, w549.arg, e551, fun v555 F552 H553 c554 w557 f556 => ?_⟩
                  have S558 := S548.call1 c554 w549
                  have f__law_drawn := (qL (qL qS)).mono c554.le f__law_drawn
                  have f__law_shape_here := qSh.mono c554.le f__law_shape_here
                  have f524 := (qL qS).mono c554.le f524
                  have f53 := (qL qForm).mono c554.le f53
                  have f243 := qPat.mono c554.le f243
                  have w559 := w549.back w557
                  cases (show v555 = (V.str (t550.1)) from f556)
                  refine rd_gn ?_
                  refine rd_ifS ?_
                  refine rd_test ?_
                  refine rd_op ?_
                  refine rd_op ?_
                  refine rd_v rfl ?_
                  refine rd_v rfl ?_
                  refine VM.inW (vm_contains T) S558 f243 ?_
                  obtain ⟨t560, e561, hm539⟩ := bd_some hm539
                  refine ⟨F552, _, _, _, t560, rfl, S558.sub, f243, rfl, e561, fun v565 F562 H563 c564 f566 => ?_⟩
                  have S567 := S558.call0 c564
                  have f__law_drawn := (qL (qL qS)).mono c564.le f__law_drawn
                  have f__law_shape_here := qSh.mono c564.le f__law_shape_here
                  have f524 := (qL qS).mono c564.le f524
                  have f53 := (qL qForm).mono c564.le f53
                  have f243 := qPat.mono c564.le f243
                  have w559 := w559.call0 c564
                  cases (show v565 = (V.bl (t560)) from f566)
                  refine rd_inWf ?_
                  refine rd_call ?_
                  refine rd_cons ?_
                  refine rd_v rfl ?_
                  refine rd_cons ?_
                  refine rd_lc ?_
                  refine rd_iL ?_
                  refine rd_v rfl ?_
                  refine rd_wLF S567 (f__law_drawn) (fun p568 vs569 hq570 row571 => ?_)
                  obtain ⟨g572, hm539⟩ := gd_some hm539
                  obtain ⟨t573, e574, hm539⟩ := bd_some hm539
                  refine rd_comp (B := qB) feedsL (typedRow row571) e574 g572 (Pc := P0) (fun _ z => z.elim) S567.sub (fun (s575 : Unit) F H => True) ?_ ?_ ?_ ?_ ?_ ?_
                  · intro _ _ _ S576 _
                    exact (Same.seq S576.sub (Same.seq S576.le hq570))
                  · trivial
                  · intros; trivial
                  · intros; trivial
                  · skip
                    intro x577 v578 s579 o580 F581 H582 d583 acc584 f585 S586 w587 w588 n589 hm590 E591 N592 hN593 hE594
                    have f__law_drawn := (qL (qL qS)).mono S586.le f__law_drawn
                    have f__law_shape_here := qSh.mono S586.le f__law_shape_here
                    have f524 := (qL qS).mono S586.le f524
                    have f53 := (qL qForm).mono S586.le f53
                    have f243 := qPat.mono S586.le f243
                    have w559 := w559.call0 S586
                    have S595 := Sx.refl0 S586.sub
                    unfold m_law_right_b10 at hm590
                    have f585 := (qL qS).mono S586.le f585
                    obtain ⟨t596, e597, hm590⟩ := bd_some hm590
                    refine rd_gn ?_
                    refine rd_wp rfl ?_
                    refine rd_yes ?_
                    refine if_tt ?_
                    refine rd_call ?_
                    refine rd_cons ?_
                    refine rd_v rfl ?_
                    refine rd_cons ?_
                    refine rd_v rfl ?_
                    refine rd_nil ?_
                    refine ⟨F581, _, _, _, t596, rfl, S595.sub, f585, e597, fun v601 F598 H599 c600 f602 => ?_⟩
                    have S603 := S595.call0 c600
                    have f__law_drawn := (qL (qL qS)).mono c600.le f__law_drawn
                    have f__law_shape_here := qSh.mono c600.le f__law_shape_here
                    have f524 := (qL qS).mono c600.le f524
                    have f53 := (qL qForm).mono c600.le f53
                    have f243 := qPat.mono c600.le f243
                    have f585 := (qL qS).mono c600.le f585
                    have w559 := w559.call0 c600
                    cases (show v601 = (V.bl (t596)) from f602)
                    cases hm590
                    exact hN593 _ _ _ _ rfl S603 rfl trivial
                  intro p604 us605 F606 H607 n608 c609 w610 w611 r612
                  have z613 := S567.free0 n608
                  have ne614 : p__law_pool_here ≠ p604 := w559.ne n608
                  have S615 := S567.call0 c609
                  have f__law_drawn := (qL (qL qS)).mono c609.le f__law_drawn
                  have f__law_shape_here := qSh.mono c609.le f__law_shape_here
                  have f524 := (qL qS).mono c609.le f524
                  have f53 := (qL qForm).mono c609.le f53
                  have f243 := qPat.mono c609.le f243
                  have w559 := w559.call0 c609
                  have w616 : Ow (fun a => a = p__law_pool_here) H495 _ _ _ _ := ⟨w611.fr, w611.at_, .inl z613⟩
                  obtain ⟨F617, S618, le619, f620, _, eq621⟩ := fz S615 w616 z613 r612
                  have f__law_drawn := (qL (qL qS)).mono le619 f__law_drawn
                  have f__law_shape_here := qSh.mono le619 f__law_shape_here
                  have f524 := (qL qS).mono le619 f524
                  have f53 := (qL qForm).mono le619 f53
                  have f243 := qPat.mono le619 f243
                  have w559 := w559.fzO ne614 eq621
                  obtain ⟨t622, e623, hm539⟩ := bd_some hm539
                  refine rd_nil ?_
                  refine ⟨F617, _, _, _, _, t622, rfl, S618.sub, f__law_shape_here, f620, e623, fun v627 F624 H625 c626 f628 => ?_⟩
                  have S629 := S618.call0 c626
                  have f__law_drawn := (qL (qL qS)).mono c626.le f__law_drawn
                  have f__law_shape_here := qSh.mono c626.le f__law_shape_here
                  have f524 := (qL qS).mono c626.le f524
                  have f53 := (qL qForm).mono c626.le f53
                  have f243 := qPat.mono c626.le f243
                  have w559 := w559.call0 c626
                  cases (show v627 = (V.bl (t622)) from f628)
                  refine rd_B0 ?_
                  refine rd_b ?_
                  refine if_b hm539 (fun b630 hm539 => ?_) (fun b630 hm539 => ?_)
                  · skip
                    cases hm539
                    have e631 := hrt538 _ rfl
                    subst e631
                    have hm := aft_rt hm
                    have S632 := S508.call1 S629 w__law_pool_here
                    have w633 : Ow (fun a => a = p__law_pool_here) H0 _ _ _ _ := ⟨w559.fr, w559.at_, w__law_pool_here.mine⟩
                    cases hm
                    refine rd_ret ?_
                    refine rd_c ?_
                    exact hQ _ _ _ S632 w633 rfl
                  · skip
                    cases hm539
                    refine rd_next ?_
                    exact ⟨_, rfl, ⟨F624, _, _, _, _, _, _, _, _, rfl, S629, w559⟩⟩
                · skip
                  rintro s636 σ634 H635 e637 ⟨F638, o640, o641, o642, o643, o644, o645, o646, o647, rfl, S639, w648⟩
                  subst e637
                  have hm := aft_nx hm
                  have S649 := S508.call1 S639 w__law_pool_here
                  have f__law_drawn := (qL (qL qS)).mono S639.le f__law_drawn
                  have f__law_shape_here := qSh.mono S639.le f__law_shape_here
                  have f53 := (qL qForm).mono S639.le f53
                  have f243 := qPat.mono S639.le f243
                  have w650 : Ow (fun a => a = p__law_pool_here) H0 _ _ _ _ := ⟨w648.fr, w648.at_, w__law_pool_here.mine⟩
                  refine rd_seq ?_
                  refine rd_ifS ?_
                  refine rd_or ?_
                  refine rd_not ?_
                  refine rd_tB ?_
                  refine rd_cb ?_
                  refine rd_cons ?_
                  refine rd_v rfl ?_
                  refine rd_cons ?_
                  refine rd_c ?_
                  refine rd_nil ?_
                  refine rd_isPat T.pf S649 f243 ?_
                  refine rd_b ?_
                  refine if_ff ?_
                  refine rd_test ?_
                  refine rd_op ?_
                  refine rd_v rfl ?_
                  refine rd_cb ?_
                  refine rd_cons ?_
                  refine rd_v rfl ?_
                  refine rd_nil ?_
                  refine VM.strW (vm_str T 3) S649 f243 ?_
                  obtain ⟨t651, e652, hm⟩ := bd_some hm
                  refine ⟨F638, _, _, t651, rfl, S649.sub, f243, rfl, e652, fun v656 F653 H654 c655 f657 => ?_⟩
                  have S658 := S649.call0 c655
                  have f__law_drawn := (qL (qL qS)).mono c655.le f__law_drawn
                  have f__law_shape_here := qSh.mono c655.le f__law_shape_here
                  have f53 := (qL qForm).mono c655.le f53
                  have f243 := qPat.mono c655.le f243
                  have w650 := w650.call0 c655
                  cases (show v656 = (V.str (t651)) from f657)
                  obtain ⟨t659, e660, hm⟩ := bd_some hm
                  refine rd_stK ?_
                  refine pat_eqS T.pe S658 f243 ?_
                  refine ⟨F653, _, _, _, t659, rfl, S658.sub, f243, e660, fun v664 F661 H662 c663 f665 => ?_⟩
                  have S666 := S658.call0 c663
                  have f__law_drawn := (qL (qL qS)).mono c663.le f__law_drawn
                  have f__law_shape_here := qSh.mono c663.le f__law_shape_here
                  have f53 := (qL qForm).mono c663.le f53
                  have f243 := qPat.mono c663.le f243
                  have w650 := w650.call0 c663
                  cases (show v664 = (V.bl (t659)) from f665)
                  refine rd_b ?_
                  refine if_b hm (fun b667 hm => ?_) (fun b667 hm => ?_)
                  · skip
                    cases hm
                    refine rd_ret ?_
                    refine rd_c ?_
                    exact hQ _ _ _ S666 w650 rfl
                  · skip
                    obtain ⟨t668, e669, hm⟩ := bd_some hm
                    refine rd_next ?_
                    refine rd_ret ?_
                    refine rd_op ?_
                    refine rd_v rfl ?_
                    refine rd_call ?_
                    refine rd_cons ?_
                    refine rd_v rfl ?_
                    refine rd_cons ?_
                    refine rd_v rfl ?_
                    refine rd_nil ?_
                    refine ⟨F661, _, _, _, _, t668, rfl, S666.sub, f__law_shape_here, f53, e669, fun v673 F670 H671 c672 f674 => ?_⟩
                    have S675 := S666.call0 c672
                    have f__law_drawn := (qL (qL qS)).mono c672.le f__law_drawn
                    have f__law_shape_here := qSh.mono c672.le f__law_shape_here
                    have f53 := (qL qForm).mono c672.le f53
                    have f243 := qPat.mono c672.le f243
                    have w650 := w650.call0 c672
                    obtain ⟨t676, e677, hm⟩ := bd_some hm
                    refine pat_eq T.pe S675 f243 f674 ?_
                    refine ⟨F670, _, _, _, _, t676, rfl, S675.sub, f243, f674, e677, fun v681 F678 H679 c680 f682 => ?_⟩
                    have S683 := S675.call0 c680
                    have f__law_drawn := (qL (qL qS)).mono c680.le f__law_drawn
                    have f__law_shape_here := qSh.mono c680.le f__law_shape_here
                    have f53 := (qL qForm).mono c680.le f53
                    have f243 := qPat.mono c680.le f243
                    have w650 := w650.call0 c680
                    cases (show v681 = (V.bl (t676)) from f682)
                    cases hm
                    exact hQ _ _ _ S683 w650 rfl
def sp_law (K : PySem.W.Frag) : Sp := fun vs H Q _ => ∃ (F : Hp) (v__law_script : V) (a__law_script : List Int) (r : Bool), vs = [v__law_script] ∧ Same F H ∧ qC.r K F v__law_script a__law_script ∧ m_law a__law_script = some r ∧ ∀ v F' H', Sx P0 F H F' H' → qB.r K F' v r → Q v H'
theorem sc_law : FnScope ["_law_script", "_law_before", "_law_text_here", "_law_k", "_law_pool_here", "_law_drawn", "_law_shape_here", "_law_pattern", "_law_at", "_law_parts"] ["_law_script"] (defScope s_law) := ⟨rfl, rfl, rfl, by decide +kernel, rfl, by decide +kernel, by decide +kernel⟩
theorem bn_law (T : Tx P K mg) : Binds K (fdOf K ("law", none)) ["_law_script"] [] := FunD.bindsN T.F_law fun _ _ _ _ _ _ us hl => match us, hl with | [_], _ => rfl
theorem ok_law (T : Tx P K mg) : FnOk P w K mg base CX0 15 (He.ga K "law") (fdOf K ("law", none)) ["_law_script"] (sp_law K) := by
  refine FunD.ok T.F_law sc_law (fun vs H0 Q E h => ?_) (fun cdv A outer s H0 vs Q E hr h => ?_)
  · obtain ⟨_, _, _, _, rfl, _⟩ := h
    rfl
  · obtain ⟨F0, v__law_script, a__law_script, r, rfl, hE, f__law_script, hm, hQ⟩ := h
    refine ⟨_, PSs.nox ((pss_cons (ps_set (i := 1) sc_law.nd rfl (by first | exact Or.inl rfl | exact Or.inr rfl) (StX.pe_makeR T.mk_Form (ok_Form___init__ T) (hr.mono (by decide)) (by rfl) T.gc_Form pass0 (pa_cons pe_str pa_nil))) (pss_cons (ps_set (i := 2) sc_law.nd rfl (by first | exact Or.inl rfl | exact Or.inr rfl) pe_str) (pss_cons (ps_for PassesOwn.never rfl (pi_range1 (by rfl) T.n_range (pa_cons (pe_callB (cr_max2 rfl) (by rfl) T.n_max (by decide +kernel) (pa_cons pe_int (pa_cons (pe_callB (cr_min2 rfl) (by rfl) T.n_min (by decide +kernel) (pa_cons pe_int (pa_cons (pe_callB (r := rLenQ K) cr_lenQ (by rfl) T.n_len (by decide +kernel) (pa_cons (pv 0) pa_nil)) pa_nil))) pa_nil))) pa_nil)) (pg_name (i := 3) sc_law.nd rfl (by first | exact Or.inl rfl | exact Or.inr rfl)) (pss_cons (ps_set (i := 4) sc_law.nd rfl (by first | exact Or.inl rfl | exact Or.inr rfl) (pe_call (ok_law_pool T) (hr.mono (by decide)) (by rfl) T.g_law_pool T.F_law_pool.kp (bn_law_pool T) .nil pass0 (pa_cons (pv 0) (pa_cons (pv 3) pa_nil)))) (pss_cons (ps_setLc (i := 5) (own := [("_law_at", 8)]) (tt := tYes) rfl sc_law.nd rfl rfl (sw_true rfl rfl rfl (by decide +kernel)) (pi_range1 (by rfl) T.n_range (pa_cons (pe_op op_add pe_int (pe_call (ok_law_take T) (hr.mono (by decide)) (by rfl) T.g_law_take T.F_law_take.kp (bn_law_take T) .nil pass0 (pa_cons (pv 4) (pa_cons pe_int pa_nil)))) pa_nil)) (blkOk_by (N := ["_law_script", "_law_before", "_law_text_here", "_law_k", "_law_pool_here", "_law_drawn", "_law_shape_here", "_law_pattern", "_law_at", "_law_parts"]) (sc := defScope s_law) (by decide +kernel)) (fun _ _ _ _ _ => pg_name (i := 8) sc_law.nd rfl (Or.inl rfl)) (fun _ _ _ _ _ => pts_nil) (fun _ _ _ _ _ => (pe_call (ok_law_rich T) (hr.mono (by decide)) (by rfl) T.g_law_rich T.F_law_rich.kp (bn_law_rich T) .nil pass0 (pa_cons (pv 4) pa_nil)))) (pss_cons (ps_set (i := 6) sc_law.nd rfl (by first | exact Or.inl rfl | exact Or.inr rfl) (pe_call (ok_law_shape T) (hr.mono (by decide)) (by rfl) T.g_law_shape T.F_law_shape.kp (bn_law_shape T) .nil pass0 (pa_cons (pv 4) (pa_cons (pe_callB (r := rLenQ K) cr_lenQ (by rfl) T.n_len (by decide +kernel) (pa_cons (pv 5) pa_nil)) pa_nil)))) (pss_cons (ps_if (pt_not (pt_val (pe_call (ok_law_right T) (hr.mono (by decide)) (by rfl) T.g_law_right T.F_law_right.kp (bn_law_right T) .nil pass0 (pa_cons (pv 4) (pa_cons (pv 5) (pa_cons (pv 6) pa_nil)))))) (pss_one (ps_ret pe_bl)) pss_nil) (pss_one (ps_if (pt_cmpR op_lt (pe_callB (r := rLenQ K) cr_lenQ (by rfl) T.n_len (by decide +kernel) (pa_cons (pv 5) pa_nil)) pe_int (nomark _)) (pss_cons (ps_set (i := 7) sc_law.nd rfl (by first | exact Or.inl rfl | exact Or.inr rfl) (pe_call (ok_law_built T 4) (hr.mono (by decide)) (by rfl) T.g_law_built T.F_law_built.kp (bn_law_built T) .nil pass0 (pa_cons (pv 6) (pa_cons (pe_lc (own := [("_law_parts", 9)]) (tt := tYes) rfl sc_law.nd (pi_listK (pv 5)) (blkOk_by (N := ["_law_script", "_law_before", "_law_text_here", "_law_k", "_law_pool_here", "_law_drawn", "_law_shape_here", "_law_pattern", "_law_at", "_law_parts"]) (sc := defScope s_law) (by decide +kernel)) (fun _ _ _ _ _ => pg_name (i := 9) sc_law.nd rfl (Or.inl rfl)) (fun _ _ _ _ _ => pts_nil) (fun _ _ _ _ _ => (pe_call (ok_law_form T) (hr.mono (by decide)) (by rfl) T.g_law_form T.F_law_form.kp (bn_law_form T) .nil pass0 (pa_cons (pv 9) pa_nil)))) pa_nil)))) (pss_cons (ps_if (pt_cmpR op_neB (pe_cmpR (r := rEqO K _ (sp_Pattern___eq__ K) _) (op_eqO (ok_Pattern___eq__ T) (hr.mono (by decide)) (bn_Pattern___eq__ T) pass0) (pv 7) (pv 1) (nomark _)) (pe_cmpR op_eqS (pe_call (ok_law_shown T 4) (hr.mono (by decide)) (by rfl) T.g_law_shown T.F_law_shown.kp (bn_law_shown T) .nil pass0 (pa_cons (pv 6) (pa_cons (pv 5) pa_nil))) (pv 2) (nomark _)) (nomark _)) (pss_one (ps_ret pe_bl)) pss_nil) (pss_cons (ps_set (i := 1) sc_law.nd rfl (by first | exact Or.inl rfl | exact Or.inr rfl) (pv 7)) (pss_one (ps_set (i := 2) sc_law.nd rfl (by first | exact Or.inl rfl | exact Or.inr rfl) (pe_call (ok_law_shown T 4) (hr.mono (by decide)) (by rfl) T.g_law_shown T.F_law_shown.kp (bn_law_shown T) .nil pass0 (pa_cons (pv 6) (pa_cons (pv 5) pa_nil)))))))) pss_nil))))))) (pss_one (ps_ret pe_bl)))))), ?_⟩
    have S : Sx P0 F0 H0 F0 H0 := Sx.refl0 hE
    unfold m_law at hm
    obtain ⟨t1, e2, hm⟩ := bd_some hm
    refine rd_seq ?_
    refine rd_asg ?_
    refine rd_makeR ?_
    refine rd_cons ?_
    refine rd_c ?_
    refine rd_nil ?_
    refine new_Form S (.cons rfl .nil) rfl e2 (fun v3 F4 H5 c6 f7 => ?_)
    have S8 := S.call0 c6
    have f__law_script := qC.mono c6.le f__law_script
    have f9 : qPat.r K F4 v3 (Pat.form t1) := (show qPat.r K F4 v3 _ from f7)
    obtain ⟨g10, hm⟩ := gd_some hm
    refine rd_gn ?_
    refine rd_seq ?_
    refine rd_asg ?_
    refine rd_c ?_
    refine rd_gn ?_
    refine rd_seq ?_
    refine rd_for ?_
    refine rd_iR1 ?_
    refine rd_cons ?_
    refine rd_cb ?_
    refine rd_cons ?_
    refine rd_c ?_
    refine rd_cons ?_
    refine rd_cb ?_
    refine rd_cons ?_
    refine rd_c ?_
    refine rd_cons ?_
    refine rd_cb ?_
    refine rd_cons ?_
    refine rd_v rfl ?_
    refine rd_nil ?_
    refine rd_lenQ (S8.c f__law_script).q ?_
    refine rd_nil ?_
    refine rd_min2 ?_
    refine rd_nil ?_
    refine rd_max2 ?_
    refine rd_nil ?_
    refine rd_r1 g10 ?_
    obtain ⟨t11, e12, hm⟩ := bd_some hm
    refine rd_forC feedsRg (typedR (K := K) (F := F4)) e12 (fun (s13 : (Pat × Str)) σ H => ∃ (F : Hp) (x0 : V) (o3 : Option V) (o4 : Option V) (o5 : Option V) (o6 : Option V) (o7 : Option V) (o8 : Option V) (o9 : Option V), σ = [some v__law_script, some x0, some (V.str (s13.2)), o3, o4, o5, o6, o7, o8, o9] ∧ Sx P0 F4 H5 F H ∧ qPat.r K F x0 s13.1) ?_ ?_ ?_ ?_
    · intro _ _ _ _; trivial
    · skip
      have S15 := Sx.refl0 S8.sub
      exact ⟨F4, _, _, _, _, _, _, _, _, rfl, S15, f9⟩
    · skip
      rintro x16 v17 s18 c22 σ19 H20 f21 ⟨F23, x25, o26, o27, o28, o29, o30, o31, o32, rfl, S24, f33⟩ hm36 hbk34 hrt35
      have f__law_script := qC.mono S24.le f__law_script
      unfold m_law_b3 at hm36
      cases (show v17 = (V.int (x16)) from f21)
      obtain ⟨t37, e38, hm36⟩ := bd_some hm36
      refine rd_gn ?_
      refine rd_seq ?_
      refine rd_asg ?_
      refine rd_call ?_
      refine rd_cons ?_
      refine rd_v rfl ?_
      refine rd_cons ?_
      refine rd_v rfl ?_
      refine rd_nil ?_
      refine ⟨F23, _, _, _, t37, rfl, S24.sub, f__law_script, e38, fun p42 F39 H40 np43 c41 w44 => ?_⟩
      have z45 := S24.free0 np43
      have S46 := S24.call0 c41
      have f__law_script := qC.mono c41.le f__law_script
      have f33 := qPat.mono c41.le f33
      have w47 : Ow P0 H5 _ _ _ _ := ⟨w44.fr, w44.at_, .inl z45⟩
      obtain ⟨t48, e49, hm36⟩ := bd_some hm36
      refine rd_gn ?_
      refine rd_seq ?_
      refine rd_asg ?_
      refine rd_lc ?_
      refine rd_iR1 ?_
      refine rd_cons ?_
      refine rd_op ?_
      refine rd_c ?_
      refine rd_call ?_
      refine rd_cons ?_
      refine rd_v rfl ?_
      refine rd_cons ?_
      refine rd_c ?_
      refine rd_nil ?_
      refine ⟨F39, _, _, _, t48, rfl, S46.sub, w47.arg, e49, fun v53 F50 H51 c52 w55 f54 => ?_⟩
      have S56 := S46.call1 c52 w47
      have f__law_script := qC.mono c52.le f__law_script
      have f33 := qPat.mono c52.le f33
      have w57 := w47.back w55
      cases (show v53 = (V.int (t48.1)) from f54)
      obtain ⟨g58, hm36⟩ := gd_some hm36
      refine rd_I0 ?_
      refine rd_nil ?_
      refine rd_r1 g58 ?_
      obtain ⟨g59, hm36⟩ := gd_some hm36
      obtain ⟨t60, e61, hm36⟩ := bd_some hm36
      refine rd_comp (B := (qL qS)) feedsRg (typedR (K := K) (F := F50)) e61 g59 (Pc := (fun a => a = p42)) (fun a z => by rw [z, w57.at_]; exact (fun h => nomatch h)) S56.sub (fun (s62 : (Int × Int)) F H => Ow (fun a => a = p42) H51 F H p42 (.lst [V.int s62.1, V.int s62.2])) ?_ ?_ ?_ ?_ ?_ ?_
      · intro _ _ _ _ _; trivial
      · exact ⟨w57.fr, w57.at_, .inr rfl⟩
      · intro s F H q o w _ hq; exact w.temp hq
      · intro s F H q u o w h0 hq; exact w.putO (ne_of_none w57.at_ h0)
      · skip
        intro x64 v65 s66 o67 F68 H69 d70 acc71 f72 S73 w74 w75 n76 hm77 E78 N79 hN80 hE81
        have f__law_script := qC.mono S73.le f__law_script
        have f33 := qPat.mono S73.le f33
        have S82 : Sx (fun a => a = p42) _ _ _ _ := Sx.refl S73.sub (fun a z => by rw [z, w74.at_]; exact (fun h => nomatch h))
        have w83 : Ow (fun a => a = p42) H69 _ _ _ _ := ⟨w74.fr, w74.at_, .inr (rfl)⟩
        unfold m_law_b1 at hm77
        cases (show v65 = (V.int (x64)) from f72)
        obtain ⟨t84, e85, hm77⟩ := bd_some hm77
        refine rd_gn ?_
        refine rd_wp rfl ?_
        refine rd_yes ?_
        refine if_tt ?_
        refine rd_call ?_
        refine rd_cons ?_
        refine rd_v rfl ?_
        refine rd_nil ?_
        refine ⟨F68, _, _, t84, rfl, S82.sub, w83.arg, e85, fun v89 F86 H87 c88 w91 f90 => ?_⟩
        have S92 := S82.call1 c88 w83
        have f__law_script := qC.mono c88.le f__law_script
        have f33 := qPat.mono c88.le f33
        have w93 := w83.back w91
        cases hm77
        exact hN80 _ _ _ _ rfl S92 f90 ⟨w93.fr, w93.at_, .inr rfl⟩
      intro p94 us95 F96 H97 n98 c99 w100 w101 r102
      have z103 := S56.free0 n98
      have ne104 : p42 ≠ p94 := w57.ne n98
      have S105 := S56.call1 c99 w57
      have f__law_script := qC.mono c99.le f__law_script
      have f33 := qPat.mono c99.le f33
      have w106 : Ow P0 H5 _ _ _ _ := ⟨w100.fr, w100.at_, w57.mine⟩
      have w107 : Ow P0 H5 _ _ _ _ := ⟨w101.fr, w101.at_, .inl z103⟩
      obtain ⟨F108, S109, le110, f111, _, eq112⟩ := fz S105 w107 z103 r102
      have f__law_script := qC.mono le110 f__law_script
      have f33 := qPat.mono le110 f33
      have w106 := w106.fzO ne104 eq112
      obtain ⟨t113, e114, hm36⟩ := bd_some hm36
      refine rd_gn ?_
      refine rd_seq ?_
      refine rd_asg ?_
      refine rd_call ?_
      refine rd_cons ?_
      refine rd_v rfl ?_
      refine rd_cons ?_
      refine rd_cb ?_
      refine rd_cons ?_
      refine rd_v rfl ?_
      refine rd_nil ?_
      refine rd_lenQ (S109.l f111).r.q ?_
      refine rd_nil ?_
      refine ⟨F108, _, _, _, t113, rfl, S109.sub, w106.arg, e114, fun v118 F115 H116 c117 w120 f119 => ?_⟩
      have S121 := S109.call1 c117 w106
      have f__law_script := qC.mono c117.le f__law_script
      have f33 := qPat.mono c117.le f33
      have f111 := (qL (qL qS)).mono c117.le f111
      have w122 := w106.back w120
      obtain ⟨t123, e124, hm36⟩ := bd_some hm36
      refine rd_gn ?_
      refine rd_seq ?_
      refine rd_ifS ?_
      refine rd_not ?_
      refine rd_tB ?_
      refine rd_call ?_
      refine rd_cons ?_
      refine rd_v rfl ?_
      refine rd_cons ?_
      refine rd_v rfl ?_
      refine rd_cons ?_
      refine rd_v rfl ?_
      refine rd_nil ?_
      refine ⟨F115, _, _, _, _, _, _, t123, rfl, S121.sub, w122.arg, f111, f119, e124, fun v128 F125 H126 c127 w130 f129 => ?_⟩
      have S131 := S121.call1 c127 w122
      have f__law_script := qC.mono c127.le f__law_script
      have f33 := qPat.mono c127.le f33
      have f111 := (qL (qL qS)).mono c127.le f111
      have f119 := qSh.mono c127.le f119
      have w132 := w122.back w130
      cases (show v128 = (V.bl (t123.1)) from f129)
      refine rd_b ?_
      refine if_b hm36 (fun b133 hm36 => ?_) (fun b133 hm36 => ?_)
      · skip
        cases hm36
        have e134 := hrt35 _ rfl
        subst e134
        have hm := aft_rt hm
        have S135 := S8.call0 S131
        cases hm
        refine rd_ret ?_
        refine rd_c ?_
        exact hQ _ _ _ S135 rfl
      · skip
        refine rd_next ?_
        refine rd_ifS ?_
        refine rd_test ?_
        refine rd_op ?_
        refine rd_cb ?_
        refine rd_cons ?_
        refine rd_v rfl ?_
        refine rd_nil ?_
        refine rd_lenQ (S131.l f111).r.q ?_
        refine rd_c ?_
        refine rd_I0 ?_
        refine rd_b ?_
        refine if_b hm36 (fun b136 hm36 => ?_) (fun b136 hm36 => ?_)
        · skip
          refine rd_seq ?_
          refine rd_asg ?_
          refine rd_call ?_
          refine rd_cons ?_
          refine rd_v rfl ?_
          refine rd_cons ?_
          refine rd_lc ?_
          refine rd_iL ?_
          refine rd_v rfl ?_
          refine rd_wLF S131 (f111) (fun p137 vs138 hq139 row140 => ?_)
          obtain ⟨g141, hm36⟩ := gd_some hm36
          obtain ⟨t142, e143, hm36⟩ := bd_some hm36
          refine rd_comp (B := qForm) feedsL (typedRow row140) e143 g141 (Pc := P0) (fun _ z => z.elim) S131.sub (fun (s144 : Unit) F H => True) ?_ ?_ ?_ ?_ ?_ ?_
          · intro _ _ _ S145 _
            exact (Same.seq S145.sub (Same.seq S145.le hq139))
          · trivial
          · intros; trivial
          · intros; trivial
          · skip
            intro x146 v147 s148 o149 F150 H151 d152 acc153 f154 S155 w156 w157 n158 hm159 E160 N161 hN162 hE163
            have f__law_script := qC.mono S155.le f__law_script
            have f33 := qPat.mono S155.le f33
            have f111 := (qL (qL qS)).mono S155.le f111
            have f119 := qSh.mono S155.le f119
            have w132 := w132.call0 S155
            have S164 := Sx.refl0 S155.sub
            unfold m_law_b2 at hm159
            have f154 := (qL qS).mono S155.le f154
            obtain ⟨t165, e166, hm159⟩ := bd_some hm159
            refine rd_gn ?_
            refine rd_wp rfl ?_
            refine rd_yes ?_
            refine if_tt ?_
            refine rd_call ?_
            refine rd_cons ?_
            refine rd_v rfl ?_
            refine rd_nil ?_
            refine ⟨F150, _, _, t165, rfl, S164.sub, f154, e166, fun v170 F167 H168 c169 f171 => ?_⟩
            have S172 := S164.call0 c169
            have f__law_script := qC.mono c169.le f__law_script
            have f33 := qPat.mono c169.le f33
            have f111 := (qL (qL qS)).mono c169.le f111
            have f119 := qSh.mono c169.le f119
            have f154 := (qL qS).mono c169.le f154
            have w132 := w132.call0 c169
            cases hm159
            exact hN162 _ _ _ _ rfl S172 f171 trivial
          intro p173 us174 F175 H176 n177 c178 w179 w180 r181
          have z182 := S131.free0 n177
          have ne183 : p42 ≠ p173 := w132.ne n177
          have S184 := S131.call0 c178
          have f__law_script := qC.mono c178.le f__law_script
          have f33 := qPat.mono c178.le f33
          have f111 := (qL (qL qS)).mono c178.le f111
          have f119 := qSh.mono c178.le f119
          have w132 := w132.call0 c178
          have w185 : Ow P0 H5 _ _ _ _ := ⟨w180.fr, w180.at_, .inl z182⟩
          obtain ⟨F186, S187, le188, f189, _, eq190⟩ := fz S184 w185 z182 r181
          have f__law_script := qC.mono le188 f__law_script
          have f33 := qPat.mono le188 f33
          have f111 := (qL (qL qS)).mono le188 f111
          have f119 := qSh.mono le188 f119
          have w132 := w132.fzO ne183 eq190
          obtain ⟨t191, e192, hm36⟩ := bd_some hm36
          refine rd_nil ?_
          refine ⟨F186, _, _, _, _, t191, rfl, S187.sub, f119, f189, e192, fun v196 F193 H194 c195 f197 => ?_⟩
          have S198 := S187.call0 c195
          have f__law_script := qC.mono c195.le f__law_script
          have f33 := qPat.mono c195.le f33
          have f111 := (qL (qL qS)).mono c195.le f111
          have f119 := qSh.mono c195.le f119
          have w132 := w132.call0 c195
          obtain ⟨t199, e200, hm36⟩ := bd_some hm36
          refine rd_gn ?_
          refine rd_seq ?_
          refine rd_ifS ?_
          refine rd_test ?_
          refine rd_op ?_
          refine rd_op ?_
          refine rd_v rfl ?_
          refine rd_v rfl ?_
          refine pat_eq T.pe S198 f197 f33 ?_
          refine ⟨F193, _, _, _, _, t199, rfl, S198.sub, f197, f33, e200, fun v204 F201 H202 c203 f205 => ?_⟩
          have S206 := S198.call0 c203
          have f__law_script := qC.mono c203.le f__law_script
          have f33 := qPat.mono c203.le f33
          have f111 := (qL (qL qS)).mono c203.le f111
          have f119 := qSh.mono c203.le f119
          have f197 := qPat.mono c203.le f197
          have w132 := w132.call0 c203
          cases (show v204 = (V.bl (t199)) from f205)
          obtain ⟨t207, e208, hm36⟩ := bd_some hm36
          refine rd_op ?_
          refine rd_call ?_
          refine rd_cons ?_
          refine rd_v rfl ?_
          refine rd_cons ?_
          refine rd_v rfl ?_
          refine rd_nil ?_
          refine ⟨F201, _, _, _, _, t207, rfl, S206.sub, f119, f111, e208, fun v212 F209 H210 c211 f213 => ?_⟩
          have S214 := S206.call0 c211
          have f__law_script := qC.mono c211.le f__law_script
          have f33 := qPat.mono c211.le f33
          have f111 := (qL (qL qS)).mono c211.le f111
          have f119 := qSh.mono c211.le f119
          have f197 := qPat.mono c211.le f197
          have w132 := w132.call0 c211
          cases (show v212 = (V.str (t207)) from f213)
          refine rd_v rfl ?_
          refine rd_S0 ?_
          refine rd_B0 ?_
          refine rd_b ?_
          refine if_b hm36 (fun b215 hm36 => ?_) (fun b215 hm36 => ?_)
          · skip
            cases hm36
            have e216 := hrt35 _ rfl
            subst e216
            have hm := aft_rt hm
            have S217 := S8.call0 S214
            cases hm
            refine rd_ret ?_
            refine rd_c ?_
            exact hQ _ _ _ S217 rfl
          · skip
            obtain ⟨t218, e219, hm36⟩ := bd_some hm36
            refine rd_next ?_
            refine rd_seq ?_
            refine rd_asg ?_
            refine rd_v rfl ?_
            refine rd_gn ?_
            refine rd_asg ?_
            refine rd_call ?_
            refine rd_cons ?_
            refine rd_v rfl ?_
            refine rd_cons ?_
            refine rd_v rfl ?_
            refine rd_nil ?_
            refine ⟨F209, _, _, _, _, t218, rfl, S214.sub, f119, f111, e219, fun v223 F220 H221 c222 f224 => ?_⟩
            have S225 := S214.call0 c222
            have f__law_script := qC.mono c222.le f__law_script
            have f197 := qPat.mono c222.le f197
            have f111 := (qL (qL qS)).mono c222.le f111
            have f119 := qSh.mono c222.le f119
            have w132 := w132.call0 c222
            cases (show v223 = (V.str (t218)) from f224)
            cases hm36
            refine rd_gn ?_
            exact ⟨_, rfl, ⟨F220, _, _, _, _, _, _, _, _, rfl, S225, f197⟩⟩
        · skip
          cases hm36
          refine rd_next ?_
          exact ⟨_, rfl, ⟨F125, _, _, _, _, _, _, _, _, rfl, S131, f33⟩⟩
    · skip
      rintro s228 σ226 H227 e229 ⟨F230, x232, o233, o234, o235, o236, o237, o238, o239, rfl, S231, f240⟩
      subst e229
      have hm := aft_nx hm
      have S241 := S8.call0 S231
      have f__law_script := qC.mono S231.le f__law_script
      cases hm
      refine rd_ret ?_
      refine rd_c ?_
      exact hQ _ _ _ S241 rfl
end

/-! ### the drawn numbers -/
theorem take_ok {p : Int × Int} {n : Int} (h : 0 < n) (h2 : n < 16000000) : Ok (m_law_take p n) fun r => 0 ≤ r.1 ∧ r.1 < n := by
  unfold m_law_take
  have hm : modOk n = true := modOk_ok h
  have hz : n ≠ 0 := by omega
  refine Ok.ite (fun _ => ?_) fun _ => ?_
  · exact Ok.gd hm (Ok.gd (divOk_ok h (by omega)) (Ok.sm ⟨Int.emod_nonneg _ hz, Int.emod_lt_of_pos _ h⟩))
  · have b1 : 0 ≤ (p.2 * 48271 + 11) % 2147483647 := Int.emod_nonneg _ (by decide)
    have b2 : (p.2 * 48271 + 11) % 2147483647 < 2147483647 := Int.emod_lt_of_pos _ (by decide)
    refine Ok.gd (mulOk_r (by decide) (by decide)) (Ok.gd (by decide) (Ok.gd (mulOk_l ?_ ?_) (Ok.gd (by decide) (Ok.gd (by decide) (Ok.gd hm (Ok.sm ⟨Int.emod_nonneg _ hz, Int.emod_lt_of_pos _ h⟩))))))
    · show -(2 ^ 64) < (p.2 * 48271 + 11) % 2147483647
      omega
    · show (p.2 * 48271 + 11) % 2147483647 < 2 ^ 64
      omega
theorem pool_ok {ns : List Int} {k : Int} (h0 : 0 ≤ k) (h1 : k < 1000) : Ok (m_law_pool ns k) fun _ => True := by
  unfold m_law_pool
  refine Ok.bd (P := fun _ => True) (Ok.gd (shp_lI _) (Ok.gd (shp_lI _) (Ok.ite (fun e => ?_) fun _ => Ok.sm trivial))) fun t _ => ?_
  · have hn : ns ≠ [] := by simpa using e
    have hl : (0 : Int) < (ns.length : Int) := by
      cases ns with
      | nil => exact absurd rfl hn
      | cons x xs => show (0 : Int) < ((xs.length + 1 : Nat) : Int); omega
    refine Ok.gd (modOk_ok hl) ?_
    have b1 : 0 ≤ k % (ns.length : Int) := Int.emod_nonneg _ (by omega)
    have b2 : k % (ns.length : Int) < ns.length := Int.emod_lt_of_pos _ hl
    have hlt : (k % (ns.length : Int)).toNat < ns.length := by omega
    exact Ok.bde (a := ns[(k % (ns.length : Int)).toNat]) (by rw [atI_nn b1 b2]; simp [hlt]) (Ok.sm trivial)
  · have b1 : 0 ≤ t % 2147483629 := Int.emod_nonneg _ (by decide)
    have b2 : t % 2147483629 < 2147483629 := Int.emod_lt_of_pos _ (by decide)
    refine Ok.gd (by decide) (Ok.gd (mulOk_l (by decide) (by decide)) (Ok.gd (mulOk_r (by decide) (by decide)) (Ok.gd (by decide) (Ok.gd (by decide) (Ok.gd (mulOk_r ?_ ?_) (Ok.sm trivial))))))
    · unfold b2I; split <;> decide
    · unfold b2I; split <;> decide

/-! ### texts of the 68 signs -/
abbrev SG : Str := " #-.0123456789:>ABCDEFGHIJKLMNOPQRSTUVWXYZabcdefghijklmnopqrstuvwxyz"
def gs (s : Str) : Prop := ∀ c ∈ cl s, c ∈ cl SG
theorem gs_app {a b : Str} (h : gs a) (k : gs b) : gs (a ++ b) := by
  intro c hc
  rw [cl_app, List.mem_append] at hc
  exact hc.elim (h c) (k c)
theorem gs_sg {c : Nat} (h : c ∈ cl SG) : gs ⟨#[c]⟩ := fun d hd => by
  rw [cl_sg, List.mem_singleton] at hd
  rw [hd]; exact h
theorem mem_cut {α : Type} {xs : List α} {lo hi : Option Int} {a : α} (h : a ∈ cut xs lo hi) : a ∈ xs := List.mem_of_mem_drop (List.mem_of_mem_take h)
theorem gs_cut {s : Str} {lo hi : Option Int} (h : gs s) : gs (cutS s lo hi) := fun c hc => h c (mem_cut (by rw [← cl_cut]; exact hc))
theorem gs_rep {s : Str} {n : Int} (h0 : 0 ≤ n) (h : gs s) : gs (repS s n) := fun c hc => by
  rw [repS_cl h0, List.mem_flatten] at hc
  obtain ⟨l, h1, h2⟩ := hc
  rw [List.mem_replicate] at h1
  exact h c (h1.2 ▸ h2)
theorem gs_ok {s : Str} (h : gs s) : okS s := by
  have e : ∀ c ∈ cl SG, c < 0x110000 := by decide +kernel
  show (s.cps.all (· < 0x110000)) = true
  rw [Array.all_eq_true_iff_forall_mem]
  intro c hc
  exact decide_eq_true (e c (h c (Array.mem_toList_iff.mpr hc)))
theorem gs_nil : gs "" := fun c hc => by
  have e : cl "" = [] := by decide +kernel
  rw [e] at hc
  exact absurd hc List.not_mem_nil
theorem gs_at {s z : Str} {c : Nat} {i : Nat} (h : gs s) (h1 : (cl s)[i]? = some c) (h2 : z = ⟨#[c]⟩) : gs z ∧ z.length = 1 := by
  subst h2
  exact ⟨gs_sg (h c (List.mem_of_getElem? h1)), rfl⟩
theorem gs_SG : gs SG := fun c hc => hc
theorem ix_gs {s : Str} {i : Int} (g : gs s) (h : 0 ≤ i) (h2 : i < s.length) (h3 : s.length ≤ 16000000) : Ok (ixS s i) fun z => gs z ∧ z.length = 1 :=
  (ixS_ok h h2 (Nat.le_trans h3 sizeLine_big)).mono fun z ⟨c, h1, h2⟩ => gs_at g h1 h2
theorem len_app (a b : Str) : (a ++ b).length = a.length + b.length := by rw [cl_len, cl_app, List.length_append, ← cl_len, ← cl_len]
theorem len_rep {s : Str} {n : Int} (h : 0 ≤ n) : (repS s n).length = n.toNat * s.length := by
  rw [cl_len, repS_cl h, List.length_flatten, List.map_replicate, List.sum_replicate_nat, ← cl_len]
theorem len_cut_to {s : Str} {n : Int} (h : 0 ≤ n) : (cutS s none (some n)).length = min n.toNat s.length := by
  rw [cl_len, cl_cut, cut_to _ h, List.length_take, ← cl_len]
theorem len_cut_from {s : Str} {n : Int} (h : 0 ≤ n) : (cutS s (some n) none).length = s.length - n.toNat := by
  rw [cl_len, cl_cut, cut_from _ h, List.length_drop, ← cl_len]
theorem len_nil : ("" : Str).length = 0 := by decide +kernel

/-! ### drawn texts, parts, lines -/
theorem text_ok {p : Int × Int} : Ok (m_law_text p) fun r => gs r.1 ∧ 1 ≤ r.1.length ∧ r.1.length ≤ 4 := by
  unfold m_law_text
  refine Ok.bd (take_ok (by decide) (by decide)) fun t1 _ => Ok.bd (take_ok (by decide) (by decide)) fun t2 h2 => ?_
  refine Ok.gd (rgOk_ok (by omega) (by omega) (by omega) (by omega)) ?_
  refine Ok.bd (Ok.loop (fun pre s => gs s.2 ∧ s.2.length = pre.length) ⟨gs_nil, len_nil⟩ fun pre x post s e ⟨g, l⟩ => ?_) fun s ⟨g, l⟩ => Ok.sm ⟨g, ?_, ?_⟩
  · unfold m_law_text_b1
    have fin : ∀ z : Str, gs z ∧ z.length = 1 → pre.length < 100 → gs (s.2 ++ z) ∧ (s.2 ++ z).length = (pre ++ [x]).length := fun z ⟨gz, lz⟩ _ => ⟨gs_app g gz, by rw [len_app, lz, l]; simp⟩
    have hp : pre.length < 100 := by
      have := congrArg List.length e
      rw [rng_len] at this
      simp at this
      omega
    refine Ok.ite (fun _ => ?_) fun _ => ?_
    · unfold m_law_all_signs
      refine Ok.bde rfl (Ok.bd (take_ok (by decide) (by decide)) fun d hd => Ok.bd (ix_gs gs_SG hd.1 ?_ (by decide +kernel)) fun z hz => Ok.gd (catOk_ok ?_) (Ok.sm (fin z hz hp)))
      · show d.1 < ((68 : Nat) : Int)
        exact hd.2
      · rw [hz.2, l]; omega
    · refine Ok.bd (take_ok (by decide) (by decide)) fun d hd => Ok.bd (ix_gs (s := "a1-b") (fun c hc => ?_) hd.1 ?_ (by decide +kernel)) fun z hz => Ok.gd (catOk_ok ?_) (Ok.sm (fin z hz hp))
      · revert c; decide +kernel
      · show d.1 < ((4 : Nat) : Int)
        exact hd.2
      · rw [hz.2, l]; omega
  · show 1 ≤ s.2.length
    rw [l, rng_len]; omega
  · show s.2.length ≤ 4
    rw [l, rng_len]; omega
abbrev DG : Str := "<digits>"
abbrev WD : Str := "<word>"
abbrev AN : Str := "<any>"
/-- a part as a form has it -/
def part (s : Str) : Prop := s = AN ∨ s = DG ∨ s = WD ∨ (gs s ∧ 1 ≤ s.length ∧ s.length ≤ 4)
theorem part_ok {s : Str} (h : part s) : okS s := by
  rcases h with rfl | rfl | rfl | h
  · show PyData.strOk _ = true; decide +kernel
  · show PyData.strOk _ = true; decide +kernel
  · show PyData.strOk _ = true; decide +kernel
  · exact gs_ok h.1
theorem part_len {s : Str} (h : part s) : 1 ≤ s.length ∧ s.length ≤ 8 := by
  rcases h with rfl | rfl | rfl | h
  · decide +kernel
  · decide +kernel
  · decide +kernel
  · omega
theorem line_ok {p : Int × Int} {ps : List Str} (h : ∀ s ∈ ps, part s) (hl : ps.length ≤ 4) : Ok (m_law_line p ps) fun r => gs r.1 ∧ r.1.length ≤ 40 := by
  unfold m_law_line
  refine Ok.bd (Ok.loop (fun pre s => gs s.2 ∧ s.2.length ≤ 10 * pre.length) ⟨gs_nil, by rw [len_nil]; omega⟩ fun pre x post s e ⟨g, l⟩ => ?_) fun s ⟨g, l⟩ => Ok.sm ⟨g, ?_⟩
  · have hp : pre.length ≤ 3 := by
      have := congrArg List.length e
      simp at this
      omega
    have hx : part x := h x (by rw [e]; simp)
    have fin : ∀ z : Str, gs z → z.length ≤ 10 → gs (s.2 ++ z) ∧ (s.2 ++ z).length ≤ 10 * (pre ++ [x]).length := fun z gz lz => ⟨gs_app g gz, by rw [len_app]; simp; omega⟩
    have rep : ∀ (z : Str) (n : Int), gs z → z.length ≤ 4 → 0 ≤ n → n * z.length ≤ 10 → n ≤ 100 → repOk z n = true ∧ catOk s.2 (repS z n) = true ∧ gs (s.2 ++ repS z n) ∧ (s.2 ++ repS z n).length ≤ 10 * (pre ++ [x]).length := by
      intro z n gz lz h0 h1 h2
      have e1 : (repS z n).length ≤ 10 := by
        rw [len_rep h0]
        have e2 : ((n.toNat * z.length : Nat) : Int) ≤ 10 := by
          rw [Int.natCast_mul, Int.toNat_of_nonneg h0]; exact h1
        omega
      exact ⟨repOk_ok h0 h2 (by omega), catOk_ok (by omega), fin _ (gs_rep h0 gz) e1⟩
    unfold m_law_line_b1
    refine Ok.ite (fun _ => ?_) fun n1 => Ok.ite (fun _ => ?_) fun n2 => Ok.ite (fun _ => ?_) fun n3 => ?_
    · refine Ok.bd (take_ok (by decide) (by decide)) fun d hd => Ok.bd (ix_gs (s := "0123456789") (fun c hc => ?_) hd.1 ?_ (by decide +kernel)) fun z hz => Ok.bd (take_ok (by decide) (by decide)) fun d2 hd2 => ?_
      · revert c; decide +kernel
      · show d.1 < ((10 : Nat) : Int)
        exact hd.2
      · obtain ⟨r1, r2, r3, r4⟩ := rep z (1 + d2.1) hz.1 (by omega) (by omega) (by rw [hz.2]; omega) (by omega)
        exact Ok.gd r1 (Ok.gd r2 (Ok.sm ⟨r3, r4⟩))
    · refine Ok.bd (take_ok (by decide) (by decide)) fun d hd => Ok.bd (ix_gs (s := "aBzb") (fun c hc => ?_) hd.1 ?_ (by decide +kernel)) fun z hz => Ok.bd (take_ok (by decide) (by decide)) fun d2 hd2 => ?_
      · revert c; decide +kernel
      · show d.1 < ((4 : Nat) : Int)
        exact hd.2
      · obtain ⟨r1, r2, r3, r4⟩ := rep z (1 + d2.1) hz.1 (by omega) (by omega) (by rw [hz.2]; omega) (by omega)
        exact Ok.gd r1 (Ok.gd r2 (Ok.sm ⟨r3, r4⟩))
    · refine Ok.bd text_ok fun z hz => Ok.bd (take_ok (by decide) (by decide)) fun d2 hd2 => ?_
      obtain ⟨r1, r2, r3, r4⟩ := rep z.1 d2.1 hz.1 hz.2.2 (by omega) (by
        have : d2.1 = 0 ∨ d2.1 = 1 ∨ d2.1 = 2 := by omega
        rcases this with e | e | e <;> rw [e] <;> omega) (by omega)
      exact Ok.gd r1 (Ok.gd r2 (Ok.sm ⟨r3, r4⟩))
    · rcases hx with rfl | rfl | rfl | hx
      · exact absurd n3 (by decide +kernel)
      · exact absurd n1 (by decide +kernel)
      · exact absurd n2 (by decide +kernel)
      · exact Ok.gd (catOk_ok (by omega)) (Ok.sm (fin x hx.1 (by omega)))
  · show s.2.length ≤ 40
    omega
theorem spoiled_ok {p : Int × Int} {z : Str} (g : gs z) (h : z.length ≤ 100) : Ok (m_law_spoiled p z) fun r => gs r.1 ∧ r.1.length ≤ z.length + 1 := by
  unfold m_law_spoiled
  have hf : fitsS z = true := fitsS_ok (by omega)
  refine Ok.gd hf (Ok.bd (take_ok (by omega) (by omega)) fun t1 h1 => ?_)
  unfold m_law_all_signs
  refine Ok.bde rfl (Ok.bd (take_ok (by decide) (by decide)) fun d hd => Ok.bd (ix_gs gs_SG hd.1 ?_ (by decide +kernel)) fun y hy => Ok.bd (take_ok (by decide) (by decide)) fun t2 h2 => ?_)
  · show d.1 < ((68 : Nat) : Int)
    exact hd.2
  have l1 := len_cut_to (s := z) h1.1
  have l2 := len_cut_from (s := z) h1.1
  have l3 := len_cut_from (s := z) (n := t1.1 + 1) (by omega)
  have g1 : gs (cutS z none (some t1.1)) := gs_cut g
  have g2 : gs (cutS z (some t1.1) none) := gs_cut g
  have g3 : gs (cutS z (some (t1.1 + 1)) none) := gs_cut g
  have l4 := len_app (cutS z none (some t1.1)) y
  refine Ok.ite (fun _ => Ok.gd hf (Ok.gd (catOk_ok (by omega)) (Ok.gd hf (Ok.gd (catOk_ok (by omega)) (Ok.sm ⟨gs_app (gs_app g1 hy.1) g2, ?_⟩))))) fun _ => Ok.ite (fun _ => Ok.gd hf (Ok.gd hf (Ok.gd (catOk_ok (by omega)) (Ok.sm ⟨gs_app g1 g3, ?_⟩)))) fun _ =>
    Ok.ite (fun _ => Ok.gd hf (Ok.gd (catOk_ok (by omega)) (Ok.gd hf (Ok.gd (catOk_ok (by omega)) (Ok.sm ⟨gs_app (gs_app g1 hy.1) g3, ?_⟩))))) fun _ => Ok.sm ⟨g, by show z.length ≤ _; omega⟩
  · show (_ ++ _ : Str).length ≤ _
    rw [len_app, len_app]; omega
  · show (_ ++ _ : Str).length ≤ _
    rw [len_app]; omega
  · show (_ ++ _ : Str).length ≤ _
    rw [len_app, len_app]; omega

/-! ### matching -/
theorem Ok.wh {S : Type} {c : S → Option (Bool × S)} {f : S → Option S} {Q : S → Prop} (I : S → Prop) (m : S → Nat) (hs : ∀ s, I s → Ok (c s) fun b => (b.1 = false ∧ Q b.2) ∨ (b.1 = true ∧ Ok (f b.2) fun s' => I s' ∧ m s' < m s)) : ∀ (N : Nat) (s : S), I s → m s < N → Ok (whileS c f N s) Q
  | 0, _, _, h => absurd h (Nat.not_lt_zero _)
  | N + 1, s, i, h => by
    obtain ⟨b, e, h1⟩ := hs s i
    show Ok ((c s).bind fun b => if b.1 = true then (f b.2).bind fun s' => whileS c f N s' else some b.2) Q
    rw [e]
    show Ok (if b.1 = true then (f b.2).bind fun s' => whileS c f N s' else some b.2) Q
    rcases h1 with ⟨hb, q⟩ | ⟨hb, h2⟩
    · rw [hb]; exact Ok.sm q
    · rw [hb]
      exact Ok.bd h2 fun s' ⟨i', h3⟩ => Ok.wh I m hs N s' i' (by omega)
theorem nodup_len : ∀ (n : Nat) (l : List Int), l.Nodup → (∀ x ∈ l, 0 ≤ x ∧ x < n) → l.length ≤ n
  | 0, l, _, h => by
    cases l with
    | nil => exact Nat.le_refl _
    | cons x l => have := h x List.mem_cons_self; omega
  | n + 1, l, hn, h => by
    have h1 := nodup_len n (l.erase (n : Int)) (hn.erase _) fun x hx => by
      rw [hn.mem_erase_iff] at hx
      have := h x hx.2
      have := hx.1
      omega
    by_cases hm : (n : Int) ∈ l
    · rw [List.length_erase_of_mem hm] at h1; omega
    · rw [List.erase_of_not_mem hm] at h1; omega
/-- what a cell takes -/
def tk (c x : Str) : Bool := if c = AN then true else if c = DG then inS x "0123456789" else if c = WD then inS x "ABCDEFGHIJKLMNOPQRSTUVWXYZabcdefghijklmnopqrstuvwxyz" else decide (c = x)
open Classical in
noncomputable def Pc (c : Str) (u : List Nat) : Prop := if c = AN then True else if c = DG ∨ c = WD then u ≠ [] ∧ ∀ x ∈ u, tk c ⟨#[x]⟩ = true else u = cl c
def Mt : List Str → List Nat → Prop
  | [], w => w = []
  | c :: cs, w => ∃ u v, w = u ++ v ∧ Pc c u ∧ Mt cs v
theorem Mt_snoc {c : Str} : ∀ {cs : List Str} {w : List Nat}, Mt (cs ++ [c]) w ↔ ∃ u v, w = u ++ v ∧ Mt cs u ∧ Pc c v
  | [], w => by
    constructor
    · rintro ⟨u, v, rfl, h, rfl⟩
      exact ⟨[], u, by simp, rfl, h⟩
    · rintro ⟨u, v, rfl, rfl, h⟩
      exact ⟨v, [], by simp, h, rfl⟩
  | d :: cs, w => by
    constructor
    · rintro ⟨u, v, rfl, h, k⟩
      obtain ⟨u2, v2, rfl, h2, k2⟩ := Mt_snoc.mp k
      exact ⟨u ++ u2, v2, by simp, ⟨u, u2, rfl, h, h2⟩, k2⟩
    · rintro ⟨u, v, rfl, ⟨u1, u2, rfl, h1, h2⟩, k⟩
      exact ⟨u1, u2 ++ v, by simp, h1, Mt_snoc.mpr ⟨u2, v, rfl, h2, k⟩⟩
theorem AN_ne : ¬ DG = AN ∧ ¬ WD = AN ∧ ¬ WD = DG := by decide +kernel
theorem Pc_any {u : List Nat} : Pc AN u := by unfold Pc; rw [if_pos rfl]; trivial
theorem Pc_run {c : Str} {u : List Nat} (h : c = DG ∨ c = WD) : Pc c u ↔ u ≠ [] ∧ ∀ x ∈ u, tk c ⟨#[x]⟩ = true := by
  have n : ¬ c = AN := by rcases h with rfl | rfl; exact AN_ne.1; exact AN_ne.2.1
  unfold Pc
  rw [if_neg n, if_pos h]
theorem Pc_fix {c : Str} {u : List Nat} (n : ¬ c = AN) (h : ¬ (c = DG ∨ c = WD)) : Pc c u ↔ u = cl c := by
  unfold Pc
  rw [if_neg n, if_neg h]
theorem takes_eq (c x : Str) : m_takes c x = some (tk c x) := by
  unfold m_takes tk
  by_cases h1 : c = AN
  · rw [if_pos (decide_eq_true h1), if_pos h1]
  · rw [if_neg (by rw [decide_eq_false h1]; decide), if_neg h1]
    by_cases h2 : c = DG
    · rw [if_pos (decide_eq_true h2), if_pos h2]
    · rw [if_neg (by rw [decide_eq_false h2]; decide), if_neg h2]
      by_cases h3 : c = WD
      · rw [if_pos (decide_eq_true h3), if_pos h3]
      · rw [if_neg (by rw [decide_eq_false h3]; decide), if_neg h3]
theorem ite_no {α : Type} {p : Prop} [Decidable p] {x y : α} (h : ¬ p) : (if decide p = true then x else y) = y := if_neg (by rw [decide_eq_false h]; decide)
theorem ite_ya {α : Type} {p : Prop} [Decidable p] {x y : α} (h : p) : (if decide p = true then x else y) = x := if_pos (decide_eq_true h)

theorem ltakes_eq (c x : Str) (h : c = DG ∨ c = WD) : m_law_takes c x = some (tk c x) := by
  unfold m_law_takes tk
  rcases h with rfl | rfl
  · rw [if_pos (decide_eq_true rfl), if_neg AN_ne.1, if_pos rfl]
  · rw [if_neg (by rw [decide_eq_false AN_ne.2.2]; decide), if_neg AN_ne.2.1, if_neg AN_ne.2.2, if_pos rfl, decide_eq_true rfl, Bool.true_and]
/-- the ends of a piece that begins at at_ -/
theorem ends_ok {c line : Str} {a : Int} (h0 : 0 ≤ a) (h1 : a ≤ line.length) (hl : line.length ≤ 4000000) (hc : c.length ≤ 500) :
    Ok (m_law_ends c line a) fun es => es.Nodup ∧ ∀ e, e ∈ es ↔ a ≤ e ∧ e ≤ line.length ∧ Pc c (((cl line).drop a.toNat).take (e.toNat - a.toNat)) := by
  have hf : fitsS line = true := fitsS_ok (by omega)
  have hfc : fitsS c = true := fitsS_ok (by omega)
  have rnd : ∀ a b : Int, (rng a b).Nodup := fun a b => by
    unfold rng
    refine List.Pairwise.map _ (fun x y h => ?_) List.nodup_range
    intro e
    apply h
    omega
  unfold m_law_ends
  by_cases n1 : c = AN
  · rw [ite_ya n1]
    refine Ok.gd hf (Ok.gd (rgFit_ok (by omega) (by omega) (by omega) (by omega)) (Ok.sm ⟨rnd _ _, fun e => ?_⟩))
    rw [rng_mem]
    subst n1
    constructor
    · intro h; exact ⟨h.1, by omega, Pc_any⟩
    · intro h; omega
  · rw [ite_no n1]
    by_cases n2 : c = DG ∨ c = WD
    · have mem : c ∈ [("<digits>" : Str), ("<word>" : Str)] := by
        rcases n2 with h | h
        · rw [h]; exact List.mem_cons_self
        · rw [h]; exact List.mem_cons_of_mem _ List.mem_cons_self
      rw [ite_ya mem]
      refine Ok.bd (P := fun es => es.Nodup ∧ ∀ e, e ∈ es ↔ a ≤ e ∧ e ≤ line.length ∧ Pc c (((cl line).drop a.toNat).take (e.toNat - a.toNat))) ?_ fun es hes => Ok.sm hes
      have ll : (cl line).length = line.length := (cl_len line).symm
      refine Ok.bd (P := fun s : List Int × Int => s.1 = rng (a + 1) (s.2 + 1) ∧ a ≤ s.2 ∧ s.2 ≤ line.length ∧ (∀ j : Nat, a ≤ j → (j : Int) < s.2 → ∃ x, (cl line)[j]? = some x ∧ tk c ⟨#[x]⟩ = true) ∧ (s.2 < line.length → ∃ x, (cl line)[s.2.toNat]? = some x ∧ tk c ⟨#[x]⟩ = false)) ?_ fun s ⟨e1, e2, e3, e4, e5⟩ => Ok.sm ⟨by rw [e1]; exact rnd _ _, fun e => ?_⟩
      · refine Ok.wh (fun s : List Int × Int => s.1 = rng (a + 1) (s.2 + 1) ∧ a ≤ s.2 ∧ s.2 ≤ line.length ∧ (∀ j : Nat, a ≤ j → (j : Int) < s.2 → ∃ x, (cl line)[j]? = some x ∧ tk c ⟨#[x]⟩ = true)) (fun s => line.length - s.2.toNat) (fun s ⟨e1, e2, e3, e4⟩ => ?_) fuel _ ⟨?_, Int.le_refl _, h1, fun j h2 h3 => absurd h3 (by omega)⟩ ?_
        · unfold m_law_ends_b1
          refine Ok.gd hf ?_
          by_cases hlt : s.2 < (line.length : Int)
          · rw [ite_ya hlt]
            have hlt2 : s.2.toNat < (cl line).length := by rw [ll]; omega
            have hz : ixS line s.2 = some ⟨#[(cl line)[s.2.toNat]]⟩ := by
              obtain ⟨z, e, x, hx, hz⟩ := ixS_ok (s := line) (i := s.2) (by omega) hlt (Nat.le_trans hl (Nat.le_trans (by decide) sizeLine_big))
              rw [e, hz]
              rw [List.getElem?_eq_getElem hlt2] at hx
              rw [Option.some.inj hx]
            rw [hz]
            show Ok (((m_law_takes c _).bind fun t68 => some t68).bind _) _
            rw [ltakes_eq c _ n2]
            show Ok (some (tk c _, (s.1, s.2))) _
            refine Ok.sm ?_
            cases hb : tk c ⟨#[(cl line)[s.2.toNat]]⟩ with
            | false => exact .inl ⟨rfl, e1, e2, e3, e4, fun _ => ⟨_, List.getElem?_eq_getElem hlt2, hb⟩⟩
            | true =>
              refine .inr ⟨rfl, ?_⟩
              unfold m_law_ends_b2
              refine Ok.gd (fits_ok ?_) (Ok.sm ⟨⟨?_, ?_, ?_, fun j h2 h3 => ?_⟩, ?_⟩)
              · show s.1.length < 16000000
                rw [e1, rng_len]; omega
              · show s.1 ++ [s.2 + 1] = rng (a + 1) (s.2 + 1 + 1)
                rw [rng_snoc (by omega), e1]
              · show a ≤ s.2 + 1
                omega
              · show s.2 + 1 ≤ line.length
                omega
              · have h3 : (j : Int) < s.2 + 1 := h3
                by_cases ej : (j : Int) < s.2
                · exact e4 j h2 ej
                · have : j = s.2.toNat := by omega
                  subst this
                  exact ⟨_, List.getElem?_eq_getElem hlt2, hb⟩
              · show line.length - (s.2 + 1).toNat < line.length - s.2.toNat
                omega
          · rw [ite_no hlt]
            show Ok (some (false, (s.1, s.2))) _
            exact Ok.sm (.inl ⟨rfl, e1, e2, e3, e4, fun h => absurd h hlt⟩)
        · show [] = rng (a + 1) (a + 1)
          unfold rng
          rw [show (a + 1 - (a + 1)).toNat = 0 by omega]; rfl
        · show line.length - a.toNat < 1000000000
          omega
      · show e ∈ s.1 ↔ _
        rw [e1, rng_mem, Pc_run n2]
        constructor
        · intro h
          refine ⟨by omega, by omega, ?_, fun x hx => ?_⟩
          · intro h2
            have := congrArg List.length h2
            rw [List.length_take, List.length_drop] at this
            simp at this
            omega
          · obtain ⟨i, hi⟩ := List.getElem?_of_mem hx
            rw [List.getElem?_take] at hi
            split at hi
            · rw [List.getElem?_drop] at hi
              obtain ⟨y, hy1, hy2⟩ := e4 (a.toNat + i) (by omega) (by omega)
              rw [hi] at hy1
              cases hy1
              exact hy2
            · cases hi
        · rintro ⟨h2, h3, h4, h5⟩
          refine ⟨?_, ?_⟩
          · apply Classical.byContradiction
            intro h6
            have : e.toNat - a.toNat = 0 := by omega
            rw [this] at h4
            exact h4 rfl
          · apply Classical.byContradiction
            intro h6
            obtain ⟨x, hx1, hx2⟩ := e5 (by omega)
            have := h5 x (by
              apply List.mem_of_getElem? (i := s.2.toNat - a.toNat)
              rw [List.getElem?_take, if_pos (by omega), List.getElem?_drop, ← hx1]
              congr 1
              omega)
            rw [this] at hx2
            cases hx2
    · have mem : ¬ c ∈ [("<digits>" : Str), ("<word>" : Str)] := by
        intro h
        rcases List.mem_cons.mp h with h | h
        · exact n2 (.inl h)
        · rcases List.mem_cons.mp h with h | h
          · exact n2 (.inr h)
          · cases h
      rw [ite_no mem]
      refine Ok.bd (P := fun es => es.Nodup ∧ ∀ e, e ∈ es ↔ a ≤ e ∧ e ≤ line.length ∧ Pc c (((cl line).drop a.toNat).take (e.toNat - a.toNat))) ?_ fun es hes => Ok.sm hes
      have ll : (cl line).length = line.length := (cl_len line).symm
      have cc : (cl c).length = c.length := (cl_len c).symm
      have ec : cl (cutS line (some a) (some (a + (c.length : Int)))) = ((cl line).drop a.toNat).take c.length := by
        rw [cl_cut, cut_mid _ h0 (by omega)]
        congr 1
        omega
      refine Ok.gd hfc (Ok.gd hf ?_)
      by_cases he : cutS line (some a) (some (a + (c.length : Int))) = c
      · rw [ite_ya he]
        rw [he] at ec
        refine Ok.gd hfc (Ok.gd (fits_ok (by simp)) (Ok.sm ⟨by simp, fun e => ?_⟩))
        rw [Pc_fix n1 n2]
        show e ∈ [a + (c.length : Int)] ↔ _
        rw [List.mem_singleton]
        have hlen := congrArg List.length ec
        rw [List.length_take, List.length_drop, cc, ll] at hlen
        constructor
        · rintro rfl
          refine ⟨by omega, by omega, ?_⟩
          rw [ec]
          congr 1
          omega
        · rintro ⟨h2, h3, h4⟩
          have := congrArg List.length h4
          rw [List.length_take, List.length_drop, cc, ll] at this
          omega
      · rw [ite_no he]
        refine Ok.sm ⟨List.nodup_nil, fun e => ?_⟩
        rw [Pc_fix n1 n2]
        constructor
        · intro h; cases h
        · rintro ⟨h2, h3, h4⟩
          exfalso
          apply he
          apply cl_inj
          rw [ec, ← h4]
          have := congrArg List.length h4
          rw [List.length_take, List.length_drop, cc, ll] at this
          congr 1
          omega

theorem take_mid {α : Type} {w : List α} {a b : Nat} (h : a ≤ b) : w.take b = w.take a ++ (w.drop a).take (b - a) := by
  have e : b = a + (b - a) := by omega
  rw [e, List.take_add, Nat.add_sub_cancel_left]
open Classical in
/-- a line fits parts -/
theorem fits_eq {ps : List Str} {line : Str} (hl : line.length ≤ 4000000) (hc : ∀ c ∈ ps, c.length ≤ 500) : m_law_fits ps line = some (decide (line ≠ "" ∧ Mt ps (cl line))) := by
  refine Ok.eq ?_
  have ll : (cl line).length = line.length := (cl_len line).symm
  have hf : fitsS line = true := fitsS_ok (by omega)
  unfold m_law_fits
  refine Ok.bd (Ok.loop (fun pre (s : List Int) => s.Nodup ∧ ∀ e, e ∈ s ↔ 0 ≤ e ∧ e ≤ line.length ∧ Mt pre ((cl line).take e.toNat)) ⟨by simp, fun e => ?_⟩ fun pre x post s hx ⟨nd, hs⟩ => ?_) fun s ⟨nd, hs⟩ => ?_
  · rw [List.mem_singleton]
    show e = 0 ↔ 0 ≤ e ∧ e ≤ line.length ∧ (cl line).take e.toNat = []
    constructor
    · rintro rfl; exact ⟨by omega, by omega, rfl⟩
    · rintro ⟨h1, h2, h3⟩
      have := congrArg List.length h3
      rw [List.length_take, ll] at this
      simp at this
      omega
  · unfold m_law_fits_b3
    refine Ok.bd (Ok.loop (fun pre2 (s2 : List Int) => s2.Nodup ∧ ∀ e, e ∈ s2 ↔ ∃ a ∈ pre2, a ≤ e ∧ e ≤ line.length ∧ Pc x (((cl line).drop a.toNat).take (e.toNat - a.toNat))) ⟨List.nodup_nil, fun e => ?_⟩ fun pre2 a post2 s2 ha ⟨nd2, hs2⟩ => ?_) fun s2 ⟨nd2, hs2⟩ => Ok.sm ⟨nd2, fun e => ?_⟩
    · constructor
      · intro h; cases h
      · rintro ⟨a, h, _⟩; cases h
    · have hab : a ∈ s := by rw [ha]; simp
      have hab2 := (hs a).mp hab
      have bnd : ∀ l : List Int, l.Nodup → (∀ e ∈ l, 0 ≤ e ∧ e ≤ line.length) → l.length ≤ 4000001 := fun l h h2 => by
        have := nodup_len (line.length + 1) l h fun e he => by have := h2 e he; omega
        omega
      have hb2 : ∀ e ∈ s2, 0 ≤ e ∧ e ≤ (line.length : Int) := fun e he => by
        obtain ⟨a', ha', h2, h3, _⟩ := (hs2 e).mp he
        have := ((hs a').mp (by rw [ha]; exact List.mem_append_left _ ha')).1
        omega
      unfold m_law_fits_b2
      refine Ok.bd (ends_ok hab2.1 hab2.2.1 hl (hc x (by rw [hx]; simp))) fun es ⟨nde, hes⟩ => ?_
      have hbe : ∀ e ∈ es, 0 ≤ e ∧ e ≤ (line.length : Int) := fun e he => by
        have := (hes e).mp he
        omega
      have l1 := bnd es nde hbe
      have l2 := bnd s2 nd2 hb2
      refine Ok.gd (fitsE_ok (by omega)) ?_
      refine Ok.bde (comp_pure (g := fun e => if (!decide (e ∈ s2)) = true then some e else none) fun e _ => ?_) ?_
      · unfold m_law_fits_b1
        cases decide (e ∈ s2) <;> rfl
      · rw [filterMap_ite]
        have l3 : (es.filter fun e => !decide (e ∈ s2)).length ≤ es.length := List.length_filter_le _ _
        refine Ok.gd (fits2_ok (by show s2.length + (es.filter fun e => !decide (e ∈ s2)).length ≤ 16000000; omega)) (Ok.sm ⟨?_, fun e => ?_⟩)
        · refine List.nodup_append.mpr ⟨nd2, nde.filter _, fun y hy z hz e => ?_⟩
          rw [List.mem_filter] at hz
          rw [e] at hy
          have h3 := hz.2
          simp [hy] at h3
        · rw [List.mem_append, List.mem_filter]
          constructor
          · rintro (h0 | ⟨h1, _⟩)
            · obtain ⟨a', h1, h2⟩ := (hs2 e).mp h0
              exact ⟨a', List.mem_append_left _ h1, h2⟩
            · exact ⟨a, by simp, (hes e).mp h1⟩
          · rintro ⟨a', h1, h2⟩
            rcases List.mem_append.mp h1 with h1 | h1
            · exact .inl ((hs2 e).mpr ⟨a', h1, h2⟩)
            · rw [List.mem_singleton] at h1
              subst h1
              by_cases h3 : e ∈ s2
              · exact .inl h3
              · exact .inr ⟨(hes e).mpr h2, by simp [h3]⟩
    · show e ∈ s2 ↔ _
      rw [hs2 e, Mt_snoc]
      constructor
      · rintro ⟨a, h1, h2, h3, h4⟩
        have h5 := (hs a).mp h1
        refine ⟨by omega, h3, (cl line).take a.toNat, _, take_mid (by omega), h5.2.2, h4⟩
      · rintro ⟨h1, h2, u, v, h3, h4, h5⟩
        have hlen := congrArg List.length h3
        rw [List.length_take, ll, List.length_append] at hlen
        have eu : u = (cl line).take u.length := by
          have h6 := congrArg (List.take u.length) h3
          rw [List.take_take, Nat.min_eq_left (by omega), List.take_left] at h6
          exact h6.symm
        have ev : v = ((cl line).drop u.length).take (e.toNat - u.length) := by
          have h6 := congrArg (List.drop u.length) h3
          rw [List.drop_take, List.drop_left] at h6
          exact h6.symm
        refine ⟨u.length, (hs _).mpr ⟨by omega, by omega, ?_⟩, by omega, h2, ?_⟩
        · rw [Int.toNat_natCast, ← eu]; exact h4
        · rw [Int.toNat_natCast, ← ev]; exact h5
  · by_cases hn : line = ""
    · rw [if_neg (by rw [decide_eq_true hn]; decide)]
      refine Ok.sm ?_
      rw [decide_eq_false (fun h => h.1 hn)]
    · rw [if_pos (by rw [decide_eq_false hn]; rfl)]
      refine Ok.bde (by rw [gd_true hf]) (Ok.sm ?_)
      have e1 : ((line.length : Int) ∈ s) ↔ Mt ps (cl line) := by
        rw [hs]
        rw [Int.toNat_natCast, ← ll, List.take_length]
        exact ⟨fun h => h.2.2, fun h => ⟨by omega, by omega, h⟩⟩
      by_cases hm : Mt ps (cl line)
      · rw [decide_eq_true (e1.mpr hm), decide_eq_true ⟨hn, hm⟩]
      · rw [decide_eq_false (fun h => hm (e1.mp h)), decide_eq_false (fun h => hm h.2)]

/-! ### positions -/
/-- a cell: one of the three others, or one sign -/
def cell (c : Str) : Prop := c = AN ∨ c = DG ∨ c = WD ∨ ∃ x, c = ⟨#[x]⟩ ∧ x ∈ cl SG
def Rp (cs : List Str) (w : List Nat) (p : Nat) : Prop := Mt (cs.take p) w
open Classical in
noncomputable def Sp (cs : List Str) (w : List Nat) (p : Nat) : Prop := if cs[p]? = some AN then Rp cs w (p + 1) else Rp cs w p
def Clo (cs : List Str) (F : Nat → Prop) : Nat → Prop
  | 0 => F 0
  | k + 1 => F (k + 1) ∨ (cs[k]? = some AN ∧ Clo cs F k)
theorem Clo_congr {cs : List Str} {F G : Nat → Prop} : ∀ {p : Nat}, (∀ q, q ≤ p → (F q ↔ G q)) → (Clo cs F p ↔ Clo cs G p)
  | 0, h => h 0 (Nat.le_refl _)
  | p + 1, h => by
    show (F (p + 1) ∨ _) ↔ (G (p + 1) ∨ _)
    rw [h (p + 1) (Nat.le_refl _), Clo_congr fun q hq => h q (Nat.le_succ_of_le hq)]
theorem Rp_succ {cs : List Str} {w : List Nat} {p : Nat} {c : Str} (h : cs[p]? = some c) : Rp cs w (p + 1) ↔ ∃ u v, w = u ++ v ∧ Rp cs u p ∧ Pc c v := by
  unfold Rp
  rw [List.take_succ, h]
  exact Mt_snoc
theorem Rp_zero {cs : List Str} {w : List Nat} : Rp cs w 0 ↔ w = [] := Iff.rfl
theorem Rp_any {cs : List Str} {w : List Nat} {x p : Nat} (h : cs[p]? = some AN) : Rp cs (w ++ [x]) (p + 1) ↔ Rp cs (w ++ [x]) p ∨ Rp cs w (p + 1) := by
  rw [Rp_succ h, Rp_succ h]
  constructor
  · rintro ⟨u, v, e, h1, _⟩
    rcases List.eq_nil_or_concat v with rfl | ⟨v', y, rfl⟩
    · rw [List.append_nil] at e; rw [e]; exact .inl h1
    · rw [List.concat_eq_append, ← List.append_assoc] at e
      obtain ⟨e1, _⟩ := List.append_inj' e rfl
      exact .inr ⟨u, v', e1, h1, Pc_any⟩
  · rintro (h1 | ⟨u, v, rfl, h1, _⟩)
    · exact ⟨_, [], by simp, h1, Pc_any⟩
    · exact ⟨u, v ++ [x], by simp, h1, Pc_any⟩
theorem Rp_le {cs : List Str} {w : List Nat} {p : Nat} (h : cs[p]? = some AN) (k : Rp cs w p) : Rp cs w (p + 1) := (Rp_succ h).mpr ⟨w, [], by simp, k, Pc_any⟩
theorem Rp_run {cs : List Str} {w : List Nat} {x p : Nat} {c : Str} (h : cs[p]? = some c) (hc : c = DG ∨ c = WD) : Rp cs (w ++ [x]) (p + 1) ↔ tk c ⟨#[x]⟩ = true ∧ (Rp cs w p ∨ Rp cs w (p + 1)) := by
  rw [Rp_succ h, Rp_succ h]
  constructor
  · rintro ⟨u, v, e, h1, h2⟩
    rw [Pc_run hc] at h2
    rcases List.eq_nil_or_concat v with rfl | ⟨v', y, rfl⟩
    · exact absurd rfl h2.1
    · rw [List.concat_eq_append] at e h2
      rw [← List.append_assoc] at e
      obtain ⟨e1, e2⟩ := List.append_inj' e rfl
      cases e2
      refine ⟨h2.2 x (by simp), ?_⟩
      by_cases hv : v' = []
      · subst hv; rw [List.append_nil] at e1; rw [e1]; exact .inl h1
      · exact .inr ⟨u, v', e1, h1, (Pc_run hc).mpr ⟨hv, fun z hz => h2.2 z (by simp [hz])⟩⟩
  · rintro ⟨ht, h1 | ⟨u, v, rfl, h1, h2⟩⟩
    · exact ⟨w, [x], rfl, h1, (Pc_run hc).mpr ⟨by simp, fun z hz => by rw [List.mem_singleton] at hz; rw [hz]; exact ht⟩⟩
    · rw [Pc_run hc] at h2
      exact ⟨u, v ++ [x], by simp, h1, (Pc_run hc).mpr ⟨by simp, fun z hz => by
        rcases List.mem_append.mp hz with hz | hz
        · exact h2.2 z hz
        · rw [List.mem_singleton] at hz; rw [hz]; exact ht⟩⟩
theorem sg_ne {y : Nat} : ¬ (⟨#[y]⟩ : Str) = AN ∧ ¬ ((⟨#[y]⟩ : Str) = DG ∨ (⟨#[y]⟩ : Str) = WD) := by
  have h : ∀ z : Str, (⟨#[y]⟩ : Str) = z → z.length = 1 := fun z e => by rw [← e]; rfl
  have h1 : ¬ AN.length = 1 := by decide +kernel
  have h2 : ¬ DG.length = 1 := by decide +kernel
  have h3 : ¬ WD.length = 1 := by decide +kernel
  exact ⟨fun e => h1 (h _ e), fun e => e.elim (fun e => h2 (h _ e)) fun e => h3 (h _ e)⟩
theorem Rp_fix {cs : List Str} {w : List Nat} {x y p : Nat} (h : cs[p]? = some ⟨#[y]⟩) : Rp cs (w ++ [x]) (p + 1) ↔ tk ⟨#[y]⟩ ⟨#[x]⟩ = true ∧ Rp cs w p := by
  obtain ⟨n1, n2⟩ := sg_ne (y := y)
  rw [Rp_succ h]
  have ht : tk ⟨#[y]⟩ ⟨#[x]⟩ = true ↔ y = x := by
    unfold tk
    rw [if_neg n1, if_neg fun e => n2 (.inl e), if_neg fun e => n2 (.inr e), decide_eq_true_eq]
    constructor
    · intro e; cases e; rfl
    · rintro rfl; rfl
  rw [ht]
  constructor
  · rintro ⟨u, v, e, h1, h2⟩
    rw [Pc_fix n1 n2, cl_sg] at h2
    subst h2
    obtain ⟨e1, e2⟩ := List.append_inj' e rfl
    cases e2
    exact ⟨rfl, e1 ▸ h1⟩
  · rintro ⟨rfl, h1⟩
    exact ⟨w, [y], rfl, h1, (Pc_fix n1 n2).mpr rfl⟩
/-- where a sign leads -/
def Fd (cs : List Str) (S : Nat → Prop) (x : Nat) (q : Nat) : Prop :=
  (∃ a c, S a ∧ cs[a]? = some c ∧ tk c ⟨#[x]⟩ = true ∧ q = if c = AN then a else a + 1) ∨ (S q ∧ 0 < q ∧ ∃ c, cs[q - 1]? = some c ∧ (c = DG ∨ c = WD) ∧ tk c ⟨#[x]⟩ = true)
theorem tk_any {x : Str} : tk AN x = true := by unfold tk; rw [if_pos rfl]
theorem Sp_any {cs : List Str} {w : List Nat} {p : Nat} (h : cs[p]? = some AN) : Sp cs w p ↔ Rp cs w (p + 1) := by unfold Sp; rw [if_pos h]
theorem Sp_no {cs : List Str} {w : List Nat} {p : Nat} (h : ¬ cs[p]? = some AN) : Sp cs w p ↔ Rp cs w p := by unfold Sp; rw [if_neg h]
theorem Sp_of {cs : List Str} {w : List Nat} {p : Nat} (h : Rp cs w p) : Sp cs w p := by
  by_cases e : cs[p]? = some AN
  · exact (Sp_any e).mpr (Rp_le e h)
  · exact (Sp_no e).mpr h
/-- a sign's step, whole -/
theorem step_iff {cs : List Str} (hc : ∀ c ∈ cs, cell c) {w : List Nat} {x : Nat} : ∀ p : Nat, p ≤ cs.length → (Clo cs (Fd cs (Sp cs w) x) p ↔ Sp cs (w ++ [x]) p) := by
  -- what the cell ahead gives
  have back : ∀ p : Nat, p + 1 ≤ cs.length → ∀ c, cs[p]? = some c → ¬ c = AN → (Fd cs (Sp cs w) x (p + 1) → Sp cs (w ++ [x]) (p + 1)) ∧ (Rp cs (w ++ [x]) (p + 1) → Fd cs (Sp cs w) x (p + 1)) := by
    intro p hp c h hn
    have hns : ¬ cs[p]? = some AN := by rw [h]; exact fun e => hn (Option.some.inj e)
    have hcell := hc c (List.mem_of_getElem? h)
    have rfix : c = DG ∨ c = WD ∨ ∃ y, c = ⟨#[y]⟩ := by
      rcases hcell with e | e | e | ⟨y, e, _⟩
      · exact absurd e hn
      · exact .inl e
      · exact .inr (.inl e)
      · exact .inr (.inr ⟨y, e⟩)
    constructor
    · rintro (⟨a, d, h1, h2, h3, h4⟩ | ⟨h1, _, d, h2, h3, h4⟩)
      · by_cases hd : d = AN
        · subst hd
          rw [if_pos rfl] at h4
          subst h4
          rw [Sp_any h2] at h1 ⊢
          exact (Rp_any h2).mpr (.inr h1)
        · rw [if_neg hd] at h4
          have e : a = p := by omega
          subst e
          rw [h] at h2
          cases h2
          rw [Sp_no hns] at h1
          refine Sp_of ?_
          rcases rfix with e | e | ⟨y, e⟩
          · exact (Rp_run h (.inl e)).mpr ⟨h3, .inl h1⟩
          · exact (Rp_run h (.inr e)).mpr ⟨h3, .inl h1⟩
          · subst e; exact (Rp_fix h).mpr ⟨h3, h1⟩
      · rw [Nat.add_sub_cancel, h] at h2
        cases h2
        by_cases e : cs[p + 1]? = some AN
        · rw [Sp_any e] at h1 ⊢
          exact (Rp_any e).mpr (.inr h1)
        · rw [Sp_no e] at h1 ⊢
          exact (Rp_run h h3).mpr ⟨h4, .inr h1⟩
    · intro h1
      rcases rfix with e | e | ⟨y, e⟩
      · obtain ⟨h2, h3 | h3⟩ := (Rp_run h (.inl e)).mp h1
        · exact .inl ⟨p, c, Sp_of h3, h, h2, by rw [if_neg hn]⟩
        · exact .inr ⟨Sp_of h3, Nat.succ_pos _, c, by rw [Nat.add_sub_cancel]; exact h, .inl e, h2⟩
      · obtain ⟨h2, h3 | h3⟩ := (Rp_run h (.inr e)).mp h1
        · exact .inl ⟨p, c, Sp_of h3, h, h2, by rw [if_neg hn]⟩
        · exact .inr ⟨Sp_of h3, Nat.succ_pos _, c, by rw [Nat.add_sub_cancel]; exact h, .inr e, h2⟩
      · subst e
        obtain ⟨h2, h3⟩ := (Rp_fix h).mp h1
        exact .inl ⟨p, _, Sp_of h3, h, h2, by rw [if_neg hn]⟩
  -- a cell for any signs that stays
  have stay : ∀ p, Fd cs (Sp cs w) x p → cs[p]? = some AN → (∃ p', p = p' + 1 ∧ cs[p']? = some AN) ∨ p = 0 → Sp cs (w ++ [x]) p := by
    rintro p (⟨a, d, h1, h2, h3, h4⟩ | ⟨h1, h0, d, h2, h3, h4⟩) hp hb
    · by_cases hd : d = AN
      · subst hd
        rw [if_pos rfl] at h4
        subst h4
        rw [Sp_any h2] at h1 ⊢
        exact (Rp_any h2).mpr (.inr h1)
      · rw [if_neg hd] at h4
        rcases hb with ⟨p', e1, e2⟩ | e
        · have : a = p' := by omega
          subst this
          rw [h2] at e2
          exact absurd (Option.some.inj e2) hd
        · omega
    · rw [Sp_any hp] at h1 ⊢
      exact (Rp_any hp).mpr (.inr h1)
  have stay2 : ∀ p, cs[p]? = some AN → Rp cs w (p + 1) → Fd cs (Sp cs w) x p := fun p h1 h2 => .inl ⟨p, AN, (Sp_any h1).mpr h2, h1, tk_any, by rw [if_pos rfl]⟩
  intro p
  induction p with
  | zero =>
    intro _
    show Fd cs (Sp cs w) x 0 ↔ _
    have nz : ¬ Rp cs (w ++ [x]) 0 := by rw [Rp_zero]; simp
    by_cases e : cs[0]? = some AN
    · rw [Sp_any e, Rp_any e]
      exact ⟨fun h => (Rp_any e).mp ((Sp_any e).mp (stay 0 h e (.inr rfl))), fun h => stay2 0 e (h.elim (fun h => absurd h nz) id)⟩
    · rw [Sp_no e]
      refine ⟨fun h => ?_, fun h => absurd h nz⟩
      rcases h with ⟨a, d, h1, h2, h3, h4⟩ | ⟨_, h0, _⟩
      · by_cases hd : d = AN
        · subst hd
          rw [if_pos rfl] at h4
          subst h4
          exact absurd h2 e
        · rw [if_neg hd] at h4; omega
      · omega
  | succ p ih =>
    intro hp
    have ih := ih (by omega)
    show (Fd cs (Sp cs w) x (p + 1) ∨ (cs[p]? = some AN ∧ Clo cs (Fd cs (Sp cs w) x) p)) ↔ _
    rw [ih]
    have hlt : p < cs.length := by omega
    obtain ⟨c, hcp⟩ : ∃ c, cs[p]? = some c := ⟨cs[p], List.getElem?_eq_getElem hlt⟩
    by_cases e : cs[p]? = some AN
    · -- the cell ahead is for any signs
      constructor
      · rintro (h | ⟨_, h⟩)
        · by_cases e1 : cs[p + 1]? = some AN
          · exact stay (p + 1) h e1 (.inl ⟨p, rfl, e⟩)
          · rcases h with ⟨a, d, h1, h2, h3, h4⟩ | ⟨_, _, d, h2, h3, _⟩
            · by_cases hd : d = AN
              · subst hd
                rw [if_pos rfl] at h4
                subst h4
                exact absurd h2 e1
              · rw [if_neg hd] at h4
                have : a = p := by omega
                subst this
                rw [h2] at e
                exact absurd (Option.some.inj e) hd
            · rw [Nat.add_sub_cancel, e] at h2
              cases h2
              rcases h3 with h3 | h3
              · exact absurd h3.symm AN_ne.1
              · exact absurd h3.symm AN_ne.2.1
        · rw [Sp_any e] at h
          exact Sp_of h
      · intro h
        by_cases e1 : cs[p + 1]? = some AN
        · rw [Sp_any e1, Rp_any e1] at h
          rcases h with h | h
          · exact .inr ⟨e, (Sp_any e).mpr h⟩
          · exact .inl (stay2 _ e1 h)
        · rw [Sp_no e1] at h
          exact .inr ⟨e, (Sp_any e).mpr h⟩
    · have hn : ¬ c = AN := fun z => e (by rw [hcp, z])
      obtain ⟨b1, b2⟩ := back p hp c hcp hn
      constructor
      · rintro (h | ⟨h, _⟩)
        · exact b1 h
        · exact absurd h e
      · intro h
        by_cases e1 : cs[p + 1]? = some AN
        · rw [Sp_any e1, Rp_any e1] at h
          rcases h with h | h
          · exact .inl (b2 h)
          · exact .inl (stay2 _ e1 h)
        · rw [Sp_no e1] at h
          exact .inl (b2 h)
/-- at the start -/
theorem start_iff {cs : List Str} (hc : ∀ c ∈ cs, cell c) : ∀ p : Nat, p ≤ cs.length → (Clo cs (fun q => q = 0) p ↔ Sp cs [] p) := by
  have nil : ∀ p c, cs[p]? = some c → (Rp cs [] (p + 1) ↔ c = AN ∧ Rp cs [] p) := by
    intro p c h
    rw [Rp_succ h]
    constructor
    · rintro ⟨u, v, e, h1, h2⟩
      obtain ⟨rfl, rfl⟩ := List.append_eq_nil_iff.mp e.symm
      refine ⟨?_, h1⟩
      rcases hc c (List.mem_of_getElem? h) with e | e | e | ⟨y, e, _⟩
      · exact e
      · exact absurd rfl ((Pc_run (.inl e)).mp h2).1
      · exact absurd rfl ((Pc_run (.inr e)).mp h2).1
      · subst e
        have := (Pc_fix sg_ne.1 sg_ne.2).mp h2
        cases this
    · rintro ⟨rfl, h1⟩
      exact ⟨[], [], rfl, h1, Pc_any⟩
  have sp : ∀ p, Sp cs [] p ↔ Rp cs [] p := by
    intro p
    by_cases e : cs[p]? = some AN
    · rw [Sp_any e, nil p AN e]; exact ⟨fun h => h.2, fun h => ⟨rfl, h⟩⟩
    · rw [Sp_no e]
  intro p
  induction p with
  | zero => intro _; rw [sp]; show (0 = 0) ↔ ([] : List Nat) = []; simp
  | succ p ih =>
    intro hp
    rw [sp]
    have hlt : p < cs.length := by omega
    have hcp : cs[p]? = some cs[p] := List.getElem?_eq_getElem hlt
    show (p + 1 = 0 ∨ (cs[p]? = some AN ∧ Clo cs _ p)) ↔ _
    rw [ih (by omega), sp, nil p _ hcp, hcp]
    constructor
    · rintro (h | ⟨h, h2⟩)
      · omega
      · exact ⟨Option.some.inj h, h2⟩
    · rintro ⟨h, h2⟩
      exact .inr ⟨by rw [h], h2⟩
open Classical in
/-- the numbers up to all cells that are told -/
noncomputable def told (cs : List Str) (F : Nat → Prop) : List Int := (rng 0 ((cs.length : Int) + 1)).filter fun i => decide (F i.toNat)
open Classical in
theorem told_congr {cs : List Str} {F G : Nat → Prop} (h : ∀ p, p ≤ cs.length → (F p ↔ G p)) : told cs F = told cs G := by
  unfold told
  refine List.filter_congr fun i hi => ?_
  rw [rng_mem] at hi
  by_cases e : F i.toNat
  · rw [decide_eq_true e, decide_eq_true ((h _ (by omega)).mp e)]
  · rw [decide_eq_false e, decide_eq_false fun z => e ((h _ (by omega)).mpr z)]
open Classical in
theorem told_mem {cs : List Str} {F : Nat → Prop} {i : Int} : i ∈ told cs F ↔ 0 ≤ i ∧ i ≤ cs.length ∧ F i.toNat := by
  unfold told
  rw [List.mem_filter, rng_mem, decide_eq_true_eq]
  constructor
  · intro h; exact ⟨by omega, by omega, h.2⟩
  · intro h; exact ⟨by omega, h.2.2⟩
theorem told_len {cs : List Str} {F : Nat → Prop} : (told cs F).length ≤ cs.length + 1 := by
  unfold told
  refine Nat.le_trans (List.length_filter_le _ _) ?_
  rw [rng_len]; omega
theorem filter_len {α : Type} (p : α → Bool) (xs : List α) : (xs.filter p).length ≤ xs.length := List.length_filter_le _ _
open Classical in
theorem closed_eq {cs : List Str} {ps : List Int} (hl : cs.length ≤ 500) : m_closed cs ps = some (told cs (Clo cs fun q => (q : Int) ∈ ps)) := by
  unfold m_closed
  rw [gd_true (rgOk_ok (by omega) (by omega) (by omega) (by omega))]
  refine Ok.eq (Ok.bde (loop_pick (fun i => @decide (Clo cs (fun q => (q : Int) ∈ ps) i.toNat) (Classical.propDecidable _)) fun pre x post e => ?_) (Ok.sm rfl))
  obtain ⟨e1, e2, e3, e4⟩ := rng_at e
  have hx : x.toNat = pre.length := by omega
  have hpl : pre.length ≤ 501 := by omega
  unfold m_closed_b1
  refine Ok.eq (Ok.bd (P := fun t => t = @decide (Clo cs (fun q => (q : Int) ∈ ps) x.toNat) (Classical.propDecidable _)) ?_ fun t ht => ?_)
  · by_cases hm : x ∈ ps
    · rw [ite_ya hm]
      refine Ok.sm ?_
      symm
      apply decide_eq_true
      cases hq : x.toNat with
      | zero =>
        show ((0 : Nat) : Int) ∈ ps
        have : x = ((0 : Nat) : Int) := by omega
        rw [← this]; exact hm
      | succ k =>
        refine .inl ?_
        show ((k + 1 : Nat) : Int) ∈ ps
        have : x = ((k + 1 : Nat) : Int) := by omega
        rw [← this]; exact hm
    · rw [ite_no hm]
      by_cases h0 : 0 < x
      · rw [ite_ya h0]
        obtain ⟨k, hk⟩ : ∃ k : Nat, x = ((k + 1 : Nat) : Int) := ⟨x.toNat - 1, by omega⟩
        have hk2 : x.toNat = k + 1 := by omega
        have hk1 : (x - 1).toNat = k := by omega
        have hlt : k < cs.length := by omega
        have hat : atI cs (x - 1) = some cs[k] := by
          rw [atI_nn (by omega) (by omega), hk1]; exact List.getElem?_eq_getElem hlt
        rw [hat]
        refine Ok.sm ?_
        show (decide (cs[k] = AN) && decide (x - 1 ∈ pre.filter _)) = _
        rw [← Bool.decide_and]
        have key : (cs[k] = AN ∧ x - 1 ∈ pre.filter fun i => @decide (Clo cs (fun q => (q : Int) ∈ ps) i.toNat) (Classical.propDecidable _)) ↔ Clo cs (fun q => (q : Int) ∈ ps) x.toNat := by
          rw [hk2]
          show _ ↔ (((k + 1 : Nat) : Int) ∈ ps ∨ (cs[k]? = some AN ∧ Clo cs _ k))
          rw [List.mem_filter, e2, rng_mem, decide_eq_true_eq, hk1, List.getElem?_eq_getElem hlt]
          constructor
          · rintro ⟨h1, _, h2⟩; exact .inr ⟨by rw [h1], h2⟩
          · rintro (h | ⟨h1, h2⟩)
            · exact absurd (by rw [hk]; exact h) hm
            · exact ⟨Option.some.inj h1, ⟨by omega, by omega⟩, h2⟩
        by_cases hz : Clo cs (fun q => (q : Int) ∈ ps) x.toNat
        · rw [decide_eq_true (key.mpr hz)]; exact (decide_eq_true hz).symm
        · rw [decide_eq_false fun z => hz (key.mp z)]; exact (decide_eq_false hz).symm
      · rw [ite_no h0]
        refine Ok.sm ?_
        symm
        apply decide_eq_false
        have : x.toNat = 0 := by omega
        rw [this]
        show ¬ ((0 : Nat) : Int) ∈ ps
        have : x = ((0 : Nat) : Int) := by omega
        rw [← this]; exact hm
  · rw [ht]
    refine Ok.ite (fun h => ?_) fun h => ?_
    · refine Ok.gd (fits_ok (Nat.lt_of_le_of_lt (filter_len _ _) (by omega))) (Ok.sm ?_)
      rw [if_pos h]
    · refine Ok.sm ?_
      rw [if_neg (by rw [h]; decide)]
theorem started_eq {cs : List Str} (hc : ∀ c ∈ cs, cell c) (hl : cs.length ≤ 500) : m_started cs = some (told cs (Sp cs [])) := by
  unfold m_started
  refine Ok.eq (Ok.bde (closed_eq hl) (Ok.sm ?_))
  refine told_congr fun p hp => ?_
  rw [← start_iff hc p hp]
  refine Clo_congr fun q _ => ?_
  rw [List.mem_singleton]; omega
theorem moved_eq {cs : List Str} (hc : ∀ c ∈ cs, cell c) (hl : cs.length ≤ 500) {w : List Nat} {x : Nat} : m_moved cs (told cs (Sp cs w)) ⟨#[x]⟩ = some (told cs (Sp cs (w ++ [x]))) := by
  unfold m_moved
  refine Ok.eq (Ok.bd (P := fun r : List Int => ∀ q : Nat, ((q : Int) ∈ r ↔ Fd cs (Sp cs w) x q)) ?_ fun r hr => Ok.bde (closed_eq hl) (Ok.sm ?_))
  · let G : Int → Nat → Prop := fun a q => (∃ c, cs[a.toNat]? = some c ∧ tk c ⟨#[x]⟩ = true ∧ q = if c = AN then a.toNat else a.toNat + 1) ∨ (q = a.toNat ∧ 0 < q ∧ ∃ c, cs[q - 1]? = some c ∧ (c = DG ∨ c = WD) ∧ tk c ⟨#[x]⟩ = true)
    refine (Ok.loop (fun pre (s : List Int) => s.length ≤ 2 * pre.length ∧ (∀ q : Nat, (q : Int) ∈ s ↔ ∃ a ∈ pre, G a q)) ⟨Nat.le_refl _, fun q => ?_⟩ fun pre a post s e ⟨hlen, hs⟩ => ?_).mono fun r ⟨_, hr⟩ q => ?_
    · constructor
      · intro h; cases h
      · rintro ⟨a, h, _⟩; cases h
    · have ha : a ∈ told cs (Sp cs w) := by rw [e]; simp
      obtain ⟨a0, a1, _⟩ := told_mem.mp ha
      have hpl : pre.length ≤ 501 := by
        have := congrArg List.length e
        have h2 := told_len (cs := cs) (F := Sp cs w)
        rw [List.length_append] at this
        omega
      unfold m_moved_b1
      -- the first: on
      refine Ok.bd (P := fun t : List Int => t.length ≤ s.length + 1 ∧ ∀ q : Nat, (q : Int) ∈ t ↔ (q : Int) ∈ s ∨ ∃ c, cs[a.toNat]? = some c ∧ tk c ⟨#[x]⟩ = true ∧ q = if c = AN then a.toNat else a.toNat + 1) ?_ fun t ⟨tl, ht⟩ => ?_
      · by_cases hlt : a < (cs.length : Int)
        · have hlt2 : a.toNat < cs.length := by omega
          have hat : atI cs a = some cs[a.toNat] := by rw [atI_nn a0 hlt]; exact List.getElem?_eq_getElem hlt2
          rw [ite_ya hlt, hat]
          show Ok (((((m_takes cs[a.toNat] ⟨#[x]⟩).bind fun t65 => some t65)).bind fun t55 => _)) _
          rw [takes_eq]
          show Ok (if tk cs[a.toNat] ⟨#[x]⟩ = true then _ else _) _
          refine Ok.ite (fun h => ?_) fun h => ?_
          · show Ok ((some cs[a.toNat]).bind _) _
            show Ok ((if decide (cs[a.toNat] = AN) = true then some a else some (a + 1)).bind _) _
            by_cases hA : cs[a.toNat] = AN
            · rw [ite_ya hA]
              refine Ok.gd (fits_ok (by omega)) (Ok.sm ⟨by simp, fun q => ?_⟩)
              show (q : Int) ∈ s ++ [a] ↔ _
              rw [List.mem_append, List.mem_singleton]
              refine or_congr Iff.rfl ⟨fun h2 => ⟨_, List.getElem?_eq_getElem hlt2, h, by rw [if_pos hA]; omega⟩, ?_⟩
              rintro ⟨c, h2, _, h3⟩
              rw [List.getElem?_eq_getElem hlt2] at h2
              cases h2
              rw [if_pos hA] at h3
              omega
            · rw [ite_no hA]
              refine Ok.gd (fits_ok (by omega)) (Ok.sm ⟨by simp, fun q => ?_⟩)
              show (q : Int) ∈ s ++ [a + 1] ↔ _
              rw [List.mem_append, List.mem_singleton]
              refine or_congr Iff.rfl ⟨fun h2 => ⟨_, List.getElem?_eq_getElem hlt2, h, by rw [if_neg hA]; omega⟩, ?_⟩
              rintro ⟨c, h2, _, h3⟩
              rw [List.getElem?_eq_getElem hlt2] at h2
              cases h2
              rw [if_neg hA] at h3
              omega
          · refine Ok.sm ⟨by omega, fun q => ⟨fun h2 => .inl h2, ?_⟩⟩
            rintro (h2 | ⟨c, h2, h3, _⟩)
            · exact h2
            · rw [List.getElem?_eq_getElem hlt2] at h2
              cases h2
              rw [h] at h3
              cases h3
        · rw [ite_no hlt]
          refine Ok.bde rfl (Ok.ite (fun h => absurd h (by decide)) fun _ => Ok.sm ⟨by omega, fun q => ⟨fun h2 => .inl h2, ?_⟩⟩)
          rintro (h2 | ⟨c, h2, h3, _⟩)
          · exact h2
          · rw [List.getElem?_eq_none (by omega)] at h2
            cases h2
      -- the second: it stays
      · have fin : ∀ z : List Int, (z.length ≤ t.length + 1 ∧ ∀ q : Nat, (q : Int) ∈ z ↔ (q : Int) ∈ t ∨ (q = a.toNat ∧ 0 < q ∧ ∃ c, cs[q - 1]? = some c ∧ (c = DG ∨ c = WD) ∧ tk c ⟨#[x]⟩ = true)) → z.length ≤ 2 * (pre ++ [a]).length ∧ ∀ q : Nat, (q : Int) ∈ z ↔ ∃ a' ∈ pre ++ [a], G a' q := by
          rintro z ⟨zl, hz⟩
          refine ⟨by simp; omega, fun q => ?_⟩
          rw [hz q, ht q, hs q]
          constructor
          · rintro ((⟨a', h1, h2⟩ | h) | h)
            · exact ⟨a', List.mem_append_left _ h1, h2⟩
            · exact ⟨a, by simp, .inl h⟩
            · exact ⟨a, by simp, .inr h⟩
          · rintro ⟨a', h1, h2⟩
            rcases List.mem_append.mp h1 with h1 | h1
            · exact .inl (.inl ⟨a', h1, h2⟩)
            · rw [List.mem_singleton] at h1
              subst h1
              rcases h2 with h2 | h2
              · exact .inl (.inr h2)
              · exact .inr h2
        refine Ok.mono ?_ fin
        by_cases h0 : 0 < a
        · have hlt2 : a.toNat - 1 < cs.length := by omega
          have hat : atI cs (a - 1) = some cs[a.toNat - 1] := by
            rw [atI_nn (by omega) (by omega), show (a - 1).toNat = a.toNat - 1 by omega]; exact List.getElem?_eq_getElem hlt2
          rw [ite_ya h0, hat]
          show Ok (((((if decide (cs[a.toNat - 1] ∈ [("<digits>" : Str), ("<word>" : Str)]) = true then _ else some false).bind _)).bind _)) _
          by_cases hm : cs[a.toNat - 1] ∈ [("<digits>" : Str), ("<word>" : Str)]
          · have hd : cs[a.toNat - 1] = DG ∨ cs[a.toNat - 1] = WD := by
              rcases List.mem_cons.mp hm with h | h
              · exact .inl h
              · exact .inr (List.mem_singleton.mp h)
            rw [ite_ya hm]
            show Ok (((((m_takes cs[a.toNat - 1] ⟨#[x]⟩).bind fun t201 => some t201).bind fun t191 => some t191)).bind fun t163 => if t163 = true then _ else _) _
            rw [takes_eq]
            show Ok (if tk cs[a.toNat - 1] ⟨#[x]⟩ = true then _ else _) _
            refine Ok.ite (fun h => ?_) fun h => ?_
            · refine Ok.gd (fits_ok (by omega)) (Ok.sm ⟨by simp, fun q => ?_⟩)
              rw [List.mem_append, List.mem_singleton]
              refine or_congr Iff.rfl ⟨fun h2 => ?_, fun h2 => by omega⟩
              have hq : q = a.toNat := by omega
              exact ⟨hq, by omega, _, by rw [hq]; exact List.getElem?_eq_getElem hlt2, hd, h⟩
            · refine Ok.sm ⟨by omega, fun q => ⟨fun h2 => .inl h2, ?_⟩⟩
              rintro (h2 | ⟨h2, _, c, h3, _, h4⟩)
              · exact h2
              · rw [h2, List.getElem?_eq_getElem hlt2] at h3
                cases h3
                rw [h] at h4
                cases h4
          · rw [ite_no hm]
            refine Ok.sm ⟨by omega, fun q => ⟨fun h2 => .inl h2, ?_⟩⟩
            rintro (h2 | ⟨h2, _, c, h3, h4, _⟩)
            · exact h2
            · rw [h2, List.getElem?_eq_getElem hlt2] at h3
              cases h3
              rcases h4 with h4 | h4
              · exact absurd (by rw [h4]; exact List.mem_cons_self) hm
              · exact absurd (by rw [h4]; exact List.mem_cons_of_mem _ List.mem_cons_self) hm
        · rw [ite_no h0]
          refine Ok.sm ⟨by omega, fun q => ⟨fun h2 => .inl h2, ?_⟩⟩
          rintro (h2 | ⟨h2, h3, _⟩)
          · exact h2
          · omega
    · rw [hr q]
      constructor
      · rintro ⟨a, h1, h2⟩
        obtain ⟨h3, h4, h5⟩ := told_mem.mp h1
        rcases h2 with ⟨c, h6, h7, h8⟩ | ⟨h6, h7⟩
        · exact .inl ⟨a.toNat, c, h5, h6, h7, h8⟩
        · exact .inr ⟨by rw [h6]; exact h5, h7⟩
      · rintro (⟨a, c, h1, h2, h3, h4⟩ | ⟨h1, h2, c, h3, h4⟩)
        · have hlt : a < cs.length := by
            apply Classical.byContradiction
            intro h5
            rw [List.getElem?_eq_none (by omega)] at h2
            cases h2
          exact ⟨(a : Int), told_mem.mpr ⟨by omega, by omega, by rw [Int.toNat_natCast]; exact h1⟩, .inl ⟨c, by rw [Int.toNat_natCast]; exact h2, h3, by rw [Int.toNat_natCast]; exact h4⟩⟩
        · have hlt : q - 1 < cs.length := by
            apply Classical.byContradiction
            intro h5
            rw [List.getElem?_eq_none (by omega)] at h3
            cases h3
          exact ⟨(q : Int), told_mem.mpr ⟨by omega, by omega, by rw [Int.toNat_natCast]; exact h1⟩, .inr ⟨by rw [Int.toNat_natCast], h2, c, h3, h4⟩⟩
  · refine told_congr fun p hp => ?_
    rw [← step_iff hc p hp]
    exact Clo_congr fun q _ => hr q

/-! ### cells -/
def cellsT (ps : List Str) : List Str := ps.flatMap fun p => if p ∈ ([DG, WD, AN] : List Str) then [p] else sgns p
theorem sgns_len (z : Str) : (sgns z).length = z.length := by rw [sgns_cl, List.length_map, ← cl_len]
theorem cellsT_snoc (ps : List Str) (p : Str) : cellsT (ps ++ [p]) = cellsT ps ++ if p ∈ ([DG, WD, AN] : List Str) then [p] else sgns p := by
  unfold cellsT; rw [List.flatMap_append]; simp
theorem cellsT_len {ps : List Str} (h : ∀ p ∈ ps, part p) : (cellsT ps).length ≤ 8 * ps.length := by
  induction ps with
  | nil => exact Nat.le_refl _
  | cons p ps ih =>
    have ih := ih fun q hq => h q (List.mem_cons_of_mem _ hq)
    show ((if p ∈ ([DG, WD, AN] : List Str) then [p] else sgns p) ++ cellsT ps).length ≤ _
    rw [List.length_append, List.length_cons]
    have : (if p ∈ ([DG, WD, AN] : List Str) then [p] else sgns p).length ≤ 8 := by
      split
      · simp
      · rw [sgns_len]; exact (part_len (h p List.mem_cons_self)).2
    omega
theorem cellsT_cell {ps : List Str} (h : ∀ p ∈ ps, part p) : ∀ c ∈ cellsT ps, cell c := by
  intro c hc
  obtain ⟨p, hp, h2⟩ := List.mem_flatMap.mp hc
  split at h2
  · rename_i hf
    rw [List.mem_singleton] at h2
    subst h2
    rcases List.mem_cons.mp hf with e | hf
    · exact .inr (.inl e)
    · rcases List.mem_cons.mp hf with e | hf
      · exact .inr (.inr (.inl e))
      · exact .inl (List.mem_singleton.mp hf)
  · rename_i hf
    rcases h p hp with e | e | e | ⟨g, _⟩
    · exact absurd (by rw [e]; simp) hf
    · exact absurd (by rw [e]; simp) hf
    · exact absurd (by rw [e]; simp) hf
    · rw [sgns_cl, List.mem_map] at h2
      obtain ⟨y, hy, rfl⟩ := h2
      exact .inr (.inr (.inr ⟨y, rfl, g y hy⟩))
theorem cells_of_eq {ps : List Str} (h : ∀ p ∈ ps, part p) (hl : ps.length ≤ 50) : m_cells_of ps = some (cellsT ps) := by
  unfold m_cells_of
  refine Ok.eq (Ok.bd (Ok.loop (fun pre s => s = cellsT pre) rfl fun pre x post s e hs => ?_) fun s hs => Ok.sm hs)
  have hp : ∀ p ∈ pre, part p := fun p hp => h p (by rw [e]; exact List.mem_append_left _ hp)
  have hx : part x := h x (by rw [e]; simp)
  have l1 := cellsT_len hp
  have l2 := congrArg List.length e
  rw [List.length_append] at l2
  have l3 := part_len hx
  subst hs
  unfold m_cells_of_b1
  by_cases hf : x ∈ ([DG, WD, AN] : List Str)
  · rw [ite_ya hf]
    exact Ok.gd (fits_ok (by omega)) (Ok.sm (by rw [cellsT_snoc, if_pos hf]))
  · rw [ite_no hf]
    exact Ok.gd (fitsS_ok (by omega)) (Ok.gd (fits2_ok (by rw [sgns_len]; omega)) (Ok.sm (by rw [cellsT_snoc, if_neg hf])))

/-! ### lines -/
theorem inS_one (x : Str) (c : Nat) : inS ⟨#[c]⟩ x = decide (c ∈ cl x) := StrLaws.found_one x c
def isL (z : Str) : Bool := !decide (z = "") && (sgns z).all fun x => inS x SG
theorem line_loop : ∀ xs : List Str, loopC m_is_line_b1 xs () = some (if (xs.all fun x => inS x SG) = true then .nx () else .rt false)
  | [] => rfl
  | x :: xs => by
    show ((m_is_line_b1 x ()).bind _) = _
    unfold m_is_line_b1
    rw [List.all_cons]
    cases h : inS x SG with
    | false => rfl
    | true =>
      show loopC m_is_line_b1 xs () = _
      rw [line_loop xs]; rfl
theorem is_line_str (z : Str) : m_is_line (Th.d (PyData.str z)) = some (isL z) := by
  unfold m_is_line isL
  show ((if decide (z = "") = true then some false else ((loopC m_is_line_b1 (sgns z) ()).bind fun t23 => aft t23 fun s46 => some true))) = _
  rw [line_loop]
  by_cases h : z = ""
  · rw [if_pos (decide_eq_true h), decide_eq_true h]; rfl
  · rw [if_neg (by rw [decide_eq_false h]; decide), decide_eq_false h]
    cases (sgns z).all fun x => inS x SG <;> rfl
theorem isL_gs {z : Str} (g : gs z) (h : 1 ≤ z.length) : isL z = true := by
  have hn : ¬ z = "" := fun e => by
    have : z.length = 0 := by rw [e]; decide +kernel
    omega
  unfold isL
  rw [decide_eq_false hn]
  show ((sgns z).all fun x => inS x SG) = true
  rw [List.all_eq_true]
  intro x hx
  rw [sgns_cl, List.mem_map] at hx
  obtain ⟨c, hc, rfl⟩ := hx
  rw [inS_one]
  exact decide_eq_true (g c hc)

/-! ### forms that are allowed -/
def fr (t : Str) : Prop := t = AN ∨ t = DG ∨ t = WD
theorem fr_mem {t : Str} : t ∈ ([DG, WD, AN] : List Str) ↔ fr t := by
  unfold fr
  simp only [List.mem_cons, List.not_mem_nil, or_false]
  constructor
  · rintro (h | h | h)
    · exact .inr (.inl h)
    · exact .inr (.inr h)
    · exact .inl h
  · rintro (h | h | h)
    · exact .inr (.inr h)
    · exact .inl h
    · exact .inr (.inl h)
theorem fr_mem2 {t : Str} : t ∈ ([AN, DG, WD] : List Str) ↔ fr t := by
  unfold fr
  simp only [List.mem_cons, List.not_mem_nil, or_false]
/-- a part at its place -/
def okAt (ps : List Str) (k : Nat) (s : Str) : Prop := (s = AN ∧ AN ∉ ps.take k) ∨ s = DG ∨ s = WD ∨ (gs s ∧ 1 ≤ s.length ∧ s.length ≤ 4 ∧ ∀ t, 0 < k → ps[k - 1]? = some t → fr t)
def alw (ps : List Str) : Prop := ∀ k s, ps[k]? = some s → okAt ps k s
theorem alw_part {ps : List Str} (h : alw ps) : ∀ s ∈ ps, part s := by
  intro s hs
  obtain ⟨k, hk⟩ := List.getElem?_of_mem hs
  rcases h k s hk with ⟨e, _⟩ | e | e | ⟨g, l, l2, _⟩
  · exact .inl e
  · exact .inr (.inl e)
  · exact .inr (.inr (.inl e))
  · exact .inr (.inr (.inr ⟨g, l, l2⟩))
theorem okAt_app {ps : List Str} {k : Nat} {s z : Str} (h : k ≤ ps.length) (o : okAt ps k s) : okAt (ps ++ [z]) k s := by
  rcases o with ⟨e, n⟩ | e | e | ⟨g, l, l2, n⟩
  · exact .inl ⟨e, by rw [List.take_append_of_le_length h]; exact n⟩
  · exact .inr (.inl e)
  · exact .inr (.inr (.inl e))
  · refine .inr (.inr (.inr ⟨g, l, l2, fun t h0 ht => n t h0 ?_⟩))
    rw [List.getElem?_append_left (by omega)] at ht
    exact ht
theorem alw_snoc {ps : List Str} {z : Str} (h : alw ps) (o : okAt ps ps.length z) : alw (ps ++ [z]) := by
  intro k s hk
  by_cases hlt : k < ps.length
  · rw [List.getElem?_append_left hlt] at hk
    exact okAt_app (by omega) (h k s hk)
  · rw [List.getElem?_append_right (by omega)] at hk
    have hz : k - ps.length = 0 := by
      apply Classical.byContradiction
      intro hne
      rw [List.getElem?_eq_none (by simp; omega)] at hk
      cases hk
    rw [hz] at hk
    cases hk
    have : k = ps.length := by omega
    subst this
    exact okAt_app (Nat.le_refl _) o
theorem rich_alw {p : Int × Int} : Ok (m_law_rich p) fun r => alw r.1 ∧ 1 ≤ r.1.length ∧ r.1.length ≤ 4 := by
  unfold m_law_rich
  refine Ok.bd (take_ok (by decide) (by decide)) fun t1 h1 => Ok.gd (rgOk_ok (by omega) (by omega) (by omega) (by omega)) ?_
  refine Ok.bd (Ok.loop (fun pre s => alw s.2 ∧ s.2.length = pre.length) ⟨fun k s hk => by simp at hk, rfl⟩ fun pre x post s e ⟨g, l⟩ => ?_) fun s ⟨g, l⟩ => Ok.sm ⟨g, ?_, ?_⟩
  · have hp : pre.length < 100 := by
      have := congrArg List.length e
      rw [rng_len] at this
      simp at this
      omega
    have fin : ∀ z : Str, okAt s.2 s.2.length z → alw (s.2 ++ [z]) ∧ (s.2 ++ [z]).length = (pre ++ [x]).length := fun z hz => ⟨alw_snoc g hz, by simp [l]⟩
    have hf : fits s.2 = true := fits_ok (by omega)
    have gp := alw_part g
    unfold m_law_rich_b1
    refine Ok.bd (take_ok (by decide) (by decide)) fun t2 h2 => Ok.gd (shp_lS fun z hz => part_ok (gp z hz)) (Ok.gd (shp_lS fun z hz => absurd hz List.not_mem_nil) ?_)
    refine Ok.bd (P := fun b => b = false → ∀ t, 0 < s.2.length → s.2[s.2.length - 1]? = some t → fr t) (Ok.ite (fun hn => ?_) fun hn => Ok.sm fun _ t h0 => ?_) fun b hb => ?_
    · have hn : s.2 ≠ [] := by simpa using hn
      obtain ⟨q, z, hq⟩ : ∃ q z, s.2 = q ++ [z] := ⟨s.2.dropLast, s.2.getLast hn, (List.dropLast_concat_getLast hn).symm⟩
      refine Ok.bde (a := z) (by rw [hq]; exact atI_last) (Ok.sm fun hz t h0 ht => ?_)
      have e2 : s.2.length - 1 = q.length := by rw [hq]; simp
      rw [e2, hq, List.getElem?_append_right (Nat.le_refl _), Nat.sub_self] at ht
      cases ht
      have hm : z ∈ ([AN, DG, WD] : List Str) := by
        apply Classical.byContradiction
        intro hne
        rw [decide_eq_false hne] at hz
        cases hz
      exact fr_mem2.mp hm
    · have : s.2 = [] := by simpa using hn
      rw [this] at h0
      exact absurd h0 (by decide)
    · refine Ok.ite (fun hA => Ok.gd hf (Ok.sm (fin _ (.inl ⟨rfl, ?_⟩)))) fun _ => Ok.ite (fun _ => Ok.gd hf (Ok.sm (fin _ (.inr (.inl rfl))))) fun _ => Ok.ite (fun _ => Ok.gd hf (Ok.sm (fin _ (.inr (.inr (.inl rfl)))))) fun hW => ?_
      · have := (Bool.and_eq_true_iff.mp hA).2
        rw [List.take_of_length_le (Nat.le_refl _)]
        simpa using this
      · have hb0 : b = false := (Bool.or_eq_false_iff.mp hW).2
        exact Ok.bd text_ok fun t3 h3 => Ok.gd hf (Ok.sm (fin _ (.inr (.inr (.inr ⟨h3.1, h3.2.1, h3.2.2, hb hb0⟩)))))
  · show 1 ≤ s.2.length
    rw [l, rng_len]; omega
  · show s.2.length ≤ 4
    rw [l, rng_len]; omega
theorem allowed_eq {ps : List Str} (h : alw ps) (hl : ps.length ≤ 4) {k : Nat} (hk : k < ps.length) : m_is_allowed ps (k : Int) = some true := by
  have hs : ps[k]? = some ps[k] := List.getElem?_eq_getElem hk
  have hat : atI ps (k : Int) = some ps[k] := by rw [atI_nn (by omega) (by omega), Int.toNat_natCast]; exact hs
  have ho := h k _ hs
  unfold m_is_allowed
  refine Ok.eq (Ok.bde hat ?_)
  rw [if_neg (by rw [decide_eq_false (show ¬ (4 : Int) ≤ (k : Int) by omega)]; decide)]
  by_cases hA : ps[k] = AN
  · rw [ite_ya hA, cut_to _ (by omega), Int.toNat_natCast]
    refine Ok.sm ?_
    rcases ho with ⟨_, n⟩ | e | e | ⟨g, l, l2, _⟩
    · rw [decide_eq_false n]; rfl
    · rw [hA] at e; exact absurd e.symm AN_ne.1
    · rw [hA] at e; exact absurd e.symm AN_ne.2.1
    · rw [hA] at l2
      exact absurd l2 (by decide +kernel)
  · rw [ite_no hA]
    by_cases hF : ps[k] ∈ ([DG, WD, AN] : List Str)
    · rw [ite_ya hF]; exact Ok.sm rfl
    · rw [ite_no hF]
      rcases ho with ⟨e, _⟩ | e | e | ⟨g, l, l2, n⟩
      · exact absurd e hA
      · exact absurd (fr_mem.mpr (.inr (.inl e))) hF
      · exact absurd (fr_mem.mpr (.inr (.inr e))) hF
      · refine Ok.bd (P := fun t => t = false) ?_ fun t ht => ?_
        · by_cases h0 : (0 : Int) < (k : Int)
          · rw [ite_ya h0]
            have hlt : k - 1 < ps.length := by omega
            have ht : ps[k - 1]? = some ps[k - 1] := List.getElem?_eq_getElem hlt
            refine Ok.bde (a := ps[k - 1]) (by rw [atI_nn (by omega) (by omega), show ((k : Int) - 1).toNat = k - 1 by omega]; exact ht) (Ok.sm ?_)
            rw [decide_eq_true (fr_mem.mpr (n _ (by omega) ht))]; rfl
          · rw [ite_no h0]; exact Ok.sm rfl
        · rw [ht, if_neg (by decide)]
          refine Ok.bde (is_line_str _) ?_
          rw [isL_gs g l, if_pos rfl]
          exact Ok.bde (by rw [gd_true (fitsS_ok (by omega))]) (Ok.sm (decide_eq_true (show ((ps[k].length : Int)) ≤ 4 by omega)))
theorem init_eq {ps : List Str} (h : alw ps) (hl : ps.length ≤ 4) (h1 : 1 ≤ ps.length) : m_Form___init__ ps = some ps := by
  unfold m_Form___init__
  rw [ite_no (show ¬ (ps.length : Int) = 0 by omega), gd_true (rgOk_ok (by omega) (by omega) (by omega) (by omega))]
  refine Ok.eq (Ok.bd (Ok.loop (fun _ _ => True) trivial fun pre x post s e _ => ?_) fun _ _ => Ok.sm rfl)
  obtain ⟨e1, e2, e3, e4⟩ := rng_at e
  unfold m_Form___init___b1
  have hx : x = (x.toNat : Int) := by omega
  rw [hx]
  refine Ok.bde (allowed_eq h hl (by omega)) ?_
  rw [if_neg (by decide)]
  exact Ok.sm trivial
theorem law_form_eq {ps : List Str} (h : alw ps) (hl : ps.length ≤ 4) (h1 : 1 ≤ ps.length) : m_law_form ps = some ps := by
  unfold m_law_form
  have at_ : ∀ (k : Nat) (hk : k < ps.length), atI ps (k : Int) = some ps[k] := fun k hk => by rw [atI_nn (by omega) (by omega), Int.toNat_natCast]; exact List.getElem?_eq_getElem hk
  match ps, h, hl, h1, at_ with
  | [a], h, _, _, at_ => exact Ok.eq (by rw [ite_ya (show (([a] : List Str).length : Int) = 1 from rfl)]; exact Ok.bde (at_ 0 (by simp)) (Ok.bde (init_eq h (by simp) (by simp)) (Ok.sm rfl)))
  | [a, b], h, _, _, at_ => exact Ok.eq (by rw [ite_no (show ¬ (([a, b] : List Str).length : Int) = 1 from by simp), ite_ya (show (([a, b] : List Str).length : Int) = 2 from rfl)]; exact Ok.bde (at_ 0 (by simp)) (Ok.bde (at_ 1 (by simp)) (Ok.bde (init_eq h (by simp) (by simp)) (Ok.sm rfl))))
  | [a, b, c], h, _, _, at_ => exact Ok.eq (by rw [ite_no (show ¬ (([a, b, c] : List Str).length : Int) = 1 from by simp), ite_no (show ¬ (([a, b, c] : List Str).length : Int) = 2 from by simp), ite_ya (show (([a, b, c] : List Str).length : Int) = 3 from rfl)]; exact Ok.bde (at_ 0 (by simp)) (Ok.bde (at_ 1 (by simp)) (Ok.bde (at_ 2 (by simp)) (Ok.bde (init_eq h (by simp) (by simp)) (Ok.sm rfl)))))
  | [a, b, c, d], h, _, _, at_ => exact Ok.eq (by rw [ite_no (show ¬ (([a, b, c, d] : List Str).length : Int) = 1 from by simp), ite_no (show ¬ (([a, b, c, d] : List Str).length : Int) = 2 from by simp), ite_no (show ¬ (([a, b, c, d] : List Str).length : Int) = 3 from by simp)]; exact Ok.bde (at_ 0 (by simp)) (Ok.bde (at_ 1 (by simp)) (Ok.bde (at_ 2 (by simp)) (Ok.bde (at_ 3 (by simp)) (Ok.bde (init_eq h (by simp) (by simp)) (Ok.sm rfl))))))
  | _ :: _ :: _ :: _ :: _ :: _, _, hl, _, _ => exact absurd hl (by simp)

/-! ### states of forms -/
theorem comp_map {α β : Type} {f : α → Unit → Option (Option β × Unit)} (g : α → β) {xs : List α} (h : ∀ x ∈ xs, f x () = some (some (g x), ())) : comp f xs () = some (xs.map g, ()) := by
  rw [comp_pure (g := fun x => some (g x)) h]
  congr 2
  induction xs with
  | nil => rfl
  | cons x xs ih => rw [List.filterMap_cons, List.map_cons, ih fun y hy => h y (List.mem_cons_of_mem _ hy)]
theorem bs {α β : Type} (a : α) (f : α → Option β) : (some a).bind f = f a := rfl
def allForms (fs : List (List Str)) : Prop := fs.length ≤ 100 ∧ ∀ ps ∈ fs, alw ps ∧ 1 ≤ ps.length ∧ ps.length ≤ 4
theorem form_cells {ps : List Str} (h : alw ps ∧ 1 ≤ ps.length ∧ ps.length ≤ 4) : m_cells_of ps = some (cellsT ps) ∧ (∀ c ∈ cellsT ps, cell c) ∧ (cellsT ps).length ≤ 32 := by
  have hp := alw_part h.1
  have := cellsT_len hp
  exact ⟨cells_of_eq hp (by have := h.2.2; omega), cellsT_cell hp, by have := h.2.2; omega⟩
theorem Mt_app {cs ds : List Str} : ∀ {w : List Nat}, Mt (cs ++ ds) w ↔ ∃ u v, w = u ++ v ∧ Mt cs u ∧ Mt ds v := by
  induction cs with
  | nil =>
    intro w
    constructor
    · intro h; exact ⟨[], w, rfl, rfl, h⟩
    · rintro ⟨u, v, rfl, rfl, h⟩; exact h
  | cons c cs ih =>
    intro w
    constructor
    · rintro ⟨u, v, rfl, h1, h2⟩
      obtain ⟨u2, v2, rfl, h3, h4⟩ := ih.mp h2
      exact ⟨u ++ u2, v2, by simp, ⟨u, u2, rfl, h1, h3⟩, h4⟩
    · rintro ⟨u, v, rfl, ⟨u1, u2, rfl, h1, h2⟩, h3⟩
      exact ⟨u1, u2 ++ v, by simp, h1, ih.mpr ⟨u2, v, rfl, h2, h3⟩⟩
theorem Mt_signs : ∀ {l w : List Nat}, Mt (l.map fun c => (⟨#[c]⟩ : Str)) w ↔ w = l
  | [], w => Iff.rfl
  | c :: l, w => by
    constructor
    · rintro ⟨u, v, rfl, h1, h2⟩
      rw [Pc_fix sg_ne.1 sg_ne.2, cl_sg] at h1
      rw [h1, Mt_signs.mp h2]; rfl
    · rintro rfl
      exact ⟨[c], l, rfl, (Pc_fix sg_ne.1 sg_ne.2).mpr rfl, Mt_signs.mpr rfl⟩
/-- cells and parts take the same -/
theorem Mt_cells {ps : List Str} (h : ∀ p ∈ ps, part p) : ∀ {w : List Nat}, Mt (cellsT ps) w ↔ Mt ps w := by
  induction ps with
  | nil => intro w; exact Iff.rfl
  | cons p ps ih =>
    intro w
    have ih := @ih fun q hq => h q (List.mem_cons_of_mem _ hq)
    have e : cellsT (p :: ps) = (if p ∈ ([DG, WD, AN] : List Str) then [p] else sgns p) ++ cellsT ps := by unfold cellsT; rw [List.flatMap_cons]
    rw [e, Mt_app]
    have one : ∀ u, Mt (if p ∈ ([DG, WD, AN] : List Str) then [p] else sgns p) u ↔ Pc p u := by
      intro u
      by_cases hf : p ∈ ([DG, WD, AN] : List Str)
      · rw [if_pos hf]
        constructor
        · rintro ⟨a, b, rfl, h1, rfl⟩; rw [List.append_nil]; exact h1
        · intro h1; exact ⟨u, [], by simp, h1, rfl⟩
      · rw [if_neg hf, sgns_cl, Mt_signs]
        have hn : ¬ fr p := fun z => hf (fr_mem.mpr z)
        rw [Pc_fix (fun z => hn (.inl z)) fun z => hn (z.elim (fun z => .inr (.inl z)) fun z => .inr (.inr z))]
    constructor
    · rintro ⟨u, v, rfl, h1, h2⟩
      exact ⟨u, v, rfl, (one u).mp h1, ih.mp h2⟩
    · rintro ⟨u, v, rfl, h1, h2⟩
      exact ⟨u, v, rfl, (one u).mpr h1, ih.mpr h2⟩

theorem join_cl (xs : List Str) : cl (Txt.join "" xs) = xs.flatMap cl := by
  have e0 : ("" : Str).cps = #[] := by decide +kernel
  have fold : ∀ (ps : List Str) (acc : Array Nat), (ps.foldl (fun acc p => acc ++ ("" : Str).cps ++ p.cps) acc).toList = acc.toList ++ ps.flatMap cl := by
    intro ps
    induction ps with
    | nil => intro acc; simp
    | cons p ps ih =>
      intro acc
      rw [List.foldl_cons, ih, e0, List.flatMap_cons]
      show (acc ++ #[] ++ p.cps).toList ++ _ = _
      rw [Array.toList_append, Array.toList_append]
      simp [cl]
  cases xs with
  | nil => rfl
  | cons p ps =>
    show (ps.foldl (fun acc p => acc ++ ("" : Str).cps ++ p.cps) p.cps).toList = _
    rw [fold, List.flatMap_cons]; rfl
/-! ### lines by length, then by signs -/
def slt (u v : List Nat) : Prop := u.length < v.length ∨ (u.length = v.length ∧ u < v)
def sle (u v : List Nat) : Prop := u = v ∨ slt u v
theorem slt_irrefl (u : List Nat) : ¬ slt u u := fun h => h.elim (Nat.lt_irrefl _) fun h => List.lt_irrefl u h.2
theorem slt_trans {u v w : List Nat} (h : slt u v) (k : slt v w) : slt u w := by
  rcases h with h | ⟨h1, h2⟩
  · rcases k with k | ⟨k1, _⟩
    · exact .inl (Nat.lt_trans h k)
    · exact .inl (by omega)
  · rcases k with k | ⟨k1, k2⟩
    · exact .inl (by omega)
    · exact .inr ⟨h1.trans k1, List.lt_trans h2 k2⟩
theorem sle_trans {u v w : List Nat} (h : sle u v) (k : sle v w) : sle u w := by
  rcases h with rfl | h
  · exact k
  · rcases k with rfl | k
    · exact .inr h
    · exact .inr (slt_trans h k)
theorem sle_anti {u v : List Nat} (h : sle u v) (k : sle v u) : u = v := by
  rcases h with rfl | h
  · rfl
  · rcases k with rfl | k
    · rfl
    · exact absurd (slt_trans h k) (slt_irrefl u)
/-! ### all states -/
def tx (u : List Nat) : Str := ⟨u.toArray⟩
def pw {α : Type} : List α → List (List α)
  | [] => [[]]
  | x :: xs => (pw xs).map (x :: ·) ++ pw xs
/-- a line, by its signs -/
def ln (w : List Nat) : Prop := w ≠ [] ∧ ∀ c ∈ w, c ∈ cl SG
/-! ### least lines of patterns -/
def evP (F : List Str → Bool) : Pat → Bool
  | .form ps => F ps
  | .both l r => evP F l && evP F r
  | .either l r => evP F l || evP F r
theorem cut_left {α : Type} (xs ys : List α) : cut (xs ++ ys) none (some (xs.length : Int)) = xs := by
  rw [cut_to _ (by omega), Int.toNat_natCast, List.take_left]
theorem cut_right {α : Type} (xs ys : List α) : cut (xs ++ ys) (some (xs.length : Int)) none = ys := by
  rw [cut_from _ (by omega), Int.toNat_natCast, List.drop_left]
theorem forms_ne : ∀ a : Pat, 1 ≤ a.forms.length
  | .form _ => Nat.le_refl _
  | .both l r => by
    show 1 ≤ (l.forms ++ r.forms).length
    rw [List.length_append]; have := forms_ne l; omega
  | .either l r => by
    show 1 ≤ (l.forms ++ r.forms).length
    rw [List.length_append]; have := forms_ne l; omega
theorem holds_map (F : List Str → Bool) : ∀ a : Pat, a.holds (a.forms.map F) = some (evP F a)
  | .form ps => rfl
  | .both l r => by
    have e : (Pat.both l r).forms.map F = l.forms.map F ++ r.forms.map F := List.map_append
    rw [e]
    show ((l.holds (cut (l.forms.map F ++ r.forms.map F) none (some (l.forms.length : Int)))).bind fun b => if b = true then r.holds (cut (l.forms.map F ++ r.forms.map F) (some (l.forms.length : Int)) none) else some false) = some (evP F l && evP F r)
    rw [show (l.forms.length : Int) = ((l.forms.map F).length : Int) by rw [List.length_map], cut_left, cut_right, holds_map F l, holds_map F r]
    show (if evP F l = true then some (evP F r) else some false) = _
    cases evP F l <;> rfl
  | .either l r => by
    have e : (Pat.either l r).forms.map F = l.forms.map F ++ r.forms.map F := List.map_append
    rw [e]
    show ((l.holds (cut (l.forms.map F ++ r.forms.map F) none (some (l.forms.length : Int)))).bind fun b => if b = true then some true else r.holds (cut (l.forms.map F ++ r.forms.map F) (some (l.forms.length : Int)) none)) = some (evP F l || evP F r)
    rw [show (l.forms.length : Int) = ((l.forms.map F).length : Int) by rw [List.length_map], cut_left, cut_right, holds_map F l, holds_map F r]
    show (if evP F l = true then some true else some (evP F r)) = _
    cases evP F l <;> rfl
open Classical in
/-- the line fits the pattern -/
noncomputable def fitB (a : Pat) (w : List Nat) : Bool := evP (fun ps => decide (Mt (cellsT ps) w)) a
/-- a pattern whose forms are allowed -/
structure okP (a : Pat) : Prop where
  ht : a.ht ≤ 3
  fs : ∀ ps ∈ a.forms, alw ps ∧ 1 ≤ ps.length ∧ ps.length ≤ 4
  few : a.forms.length ≤ 16
theorem okP.all {a : Pat} (h : okP a) : allForms a.forms := ⟨by have := h.few; omega, h.fs⟩
theorem pat_forms_eq {a : Pat} (h : okP a) : m_pat_forms a = some a.forms := patN_of h.ht h.few
theorem pat_holds_eq {a : Pat} (h : okP a) (F : List Str → Bool) : m_pat_holds a (a.forms.map F) = some (evP F a) := (patN_of h.ht h.few).trans (holds_map F a)
/-- the first line, by length and signs, of which P holds -/
def Least (P : List Nat → Prop) (o : Option Str) : Prop := (o = none ∧ ∀ w, ln w → ¬ P w) ∨ ∃ u, o = some (tx u) ∧ ln u ∧ P u ∧ ∀ w, ln w → P w → sle u w
theorem Least.one {P : List Nat → Prop} {o o' : Option Str} (h : Least P o) (k : Least P o') : o = o' := by
  rcases h with ⟨rfl, h⟩ | ⟨u, rfl, h1, h2, h3⟩
  · rcases k with ⟨rfl, _⟩ | ⟨v, rfl, k1, k2, _⟩
    · rfl
    · exact absurd k2 (h v k1)
  · rcases k with ⟨rfl, k⟩ | ⟨v, rfl, k1, k2, k3⟩
    · exact absurd h2 (k u h1)
    · rw [sle_anti (h3 v k1 k2) (k3 u h1 h2)]
theorem Least.congr {P P' : List Nat → Prop} {o : Option Str} (e : ∀ w, ln w → (P w ↔ P' w)) (h : Least P o) : Least P' o := by
  rcases h with ⟨rfl, h⟩ | ⟨u, rfl, h1, h2, h3⟩
  · exact .inl ⟨rfl, fun w hw z => h w hw ((e w hw).mpr z)⟩
  · exact .inr ⟨u, rfl, h1, (e u h1).mp h2, fun w hw z => h3 w hw ((e w hw).mpr z)⟩
theorem form_okP {ps : List Str} (h : alw ps) (h1 : 1 ≤ ps.length) (h2 : ps.length ≤ 4) : okP (.form ps) := ⟨Nat.zero_le _, fun qs hq => by rw [List.mem_singleton.mp hq]; exact ⟨h, h1, h2⟩, show 1 ≤ 16 by decide⟩
open Classical in
theorem contains_eq {a : Pat} (h : okP a) {z : Str} (g : gs z) (h1 : 1 ≤ z.length) (hz : z.length ≤ 500) : m_pat___contains__ a z = some (fitB a (cl z)) := by
  have hn : z ≠ "" := fun e => by rw [e] at h1; exact absurd h1 (by decide +kernel)
  have one : ∀ ps ∈ a.forms, ∀ s : List Bool, s.length ≤ 100 → m_pat___contains___b2 z ps s = some (s ++ [decide (Mt (cellsT ps) (cl z))]) := fun ps hps s hs => by
    have hf := h.fs ps hps
    obtain ⟨e1, e2, e3⟩ := form_cells hf
    have hp := alw_part hf.1
    have hloop : loopS (m_pat___contains___b1 (cellsT ps)) (sgns z) (told (cellsT ps) (Sp (cellsT ps) [])) = some (told (cellsT ps) (Sp (cellsT ps) (cl z))) := by
      refine Ok.eq ((Ok.loop (fun pre (s : List Int) => ∃ q : List Nat, pre = q.map (fun c => (⟨#[c]⟩ : Str)) ∧ s = told (cellsT ps) (Sp (cellsT ps) q)) ⟨[], rfl, rfl⟩ fun pre x post s e ⟨q, hq, hs⟩ => ?_).mono fun r ⟨q, hq, hr⟩ => ?_)
      · have hx : x ∈ sgns z := by rw [e]; simp
        rw [sgns_cl, List.mem_map] at hx
        obtain ⟨c, _, rfl⟩ := hx
        subst hs
        unfold m_pat___contains___b1
        exact Ok.bde (moved_eq e2 (by omega)) (Ok.sm ⟨q ++ [c], by rw [hq]; simp, rfl⟩)
      · have inj : ∀ {l m : List Nat}, l.map (fun c => (⟨#[c]⟩ : Str)) = m.map (fun c => (⟨#[c]⟩ : Str)) → l = m := by
          intro l
          induction l with
          | nil => intro m h; cases m with
            | nil => rfl
            | cons _ _ => cases h
          | cons a l ih => intro m h; cases m with
            | nil => cases h
            | cons b m =>
              rw [List.map_cons, List.map_cons] at h
              obtain ⟨h1, h2⟩ := List.cons.inj h
              cases h1
              rw [ih h2]
        rw [sgns_cl] at hq
        rw [hr, inj hq]
    have key : (((cellsT ps).length : Int) ∈ told (cellsT ps) (Sp (cellsT ps) (cl z))) ↔ Mt (cellsT ps) (cl z) := by
      rw [told_mem, Int.toNat_natCast, Sp_no (by rw [List.getElem?_eq_none (Nat.le_refl _)]; exact fun e => nomatch e)]
      unfold Rp
      rw [List.take_length]
      exact ⟨fun h => h.2.2, fun h => ⟨by omega, by omega, h⟩⟩
    unfold m_pat___contains___b2 m_Form_parts m_is_done
    rw [bs, e1, bs, started_eq e2 (by omega), bs, hloop, bs, bs, gd_true (fits_ok (by omega))]
    congr 2
    by_cases hm : Mt (cellsT ps) (cl z)
    · rw [decide_eq_true (key.mpr hm), decide_eq_true hm]
    · rw [decide_eq_false fun q => hm (key.mp q), decide_eq_false hm]
  have all : loopS (m_pat___contains___b2 z) a.forms [] = some (a.forms.map fun ps => decide (Mt (cellsT ps) (cl z))) := by
    refine Ok.eq ((Ok.loop (fun pre (s : List Bool) => s = pre.map fun ps => decide (Mt (cellsT ps) (cl z))) rfl fun pre x post s e hs => ?_).mono fun r h => h)
    have hl := congrArg List.length e
    rw [List.length_append, List.length_cons] at hl
    have := h.few
    refine Ok.of (one x (by rw [e]; simp) s (by rw [hs, List.length_map]; omega)) ?_
    rw [hs, List.map_append]; rfl
  unfold m_pat___contains__
  rw [is_line_str z, bs, isL_gs g h1, if_neg (by decide), pat_forms_eq h, bs, all, bs, pat_holds_eq h, bs]; rfl

/-- lines of signs -/
def lines (ls : List Str) : Prop := ∀ z ∈ ls, gs z ∧ 1 ≤ z.length ∧ z.length ≤ 500
/-! ### tables of least lines, sorted two ways -/
theorem first_leastL {A : List (List Nat)} {p : List Nat → Bool} (pw : A.Pairwise slt) (hin : ∀ w ∈ A, ln w) (low : ∀ w, ln w → p w = true → ∃ v ∈ A, p v = true ∧ sle v w) : Least (fun w => p w = true) ((A.find? p).map tx) := by
  cases h : A.find? p with
  | none =>
    refine .inl ⟨rfl, fun w hw z => ?_⟩
    obtain ⟨v, hv, hp, _⟩ := low w hw z
    exact List.find?_eq_none.mp h v hv hp
  | some u =>
    obtain ⟨hu, as, bs', e, hno⟩ := List.find?_eq_some_iff_append.mp h
    refine .inr ⟨u, rfl, hin u (by rw [e]; simp), hu, fun w hw z => ?_⟩
    obtain ⟨v, hv, hp, q⟩ := low w hw z
    rw [e] at hv pw
    rcases List.mem_append.mp hv with k | k
    · have := hno v k
      rw [hp] at this
      cases this
    · rcases List.mem_cons.mp k with k | k
      · rw [← k]; exact q
      · exact sle_trans (.inr ((List.pairwise_cons.mp (List.pairwise_append.mp pw).2.1).1 v k)) q
def qLk (p : List Nat → Bool) (lk : List Nat → List Int) (l : List Int) (v : List Nat) : Bool := p v && decide (lk v = l)
def foldT (p : List Nat → Bool) (lk : List Nat → List Int) (A : List (List Nat)) : List (List Int × Str) := A.foldl (fun T w => if p w = true then sdefKV (lk w) (tx w) T else T) []
theorem memKV_key {α β : Type} [DecidableEq α] {a : α} {xs : List (α × β)} : memKV a xs = true ↔ a ∈ xs.map (·.1) := by
  unfold memKV
  rw [decide_eq_true_eq]
theorem memKV_iff {T : List (List Int × Str)} {l : List Int} : memKV l T = true ↔ ∃ z, (l, z) ∈ T := by
  rw [memKV_key]
  constructor
  · intro h
    obtain ⟨q, hq, e⟩ := List.mem_map.mp h
    exact ⟨q.2, by rw [← e]; exact hq⟩
  · rintro ⟨z, hz⟩
    exact List.mem_map.mpr ⟨_, hz, rfl⟩
theorem foldT_ok (p : List Nat → Bool) (lk : List Nat → List Int) : ∀ A : List (List Nat), ((foldT p lk A).map (·.1)).Nodup ∧ ∀ l z, (l, z) ∈ foldT p lk A ↔ (A.find? (qLk p lk l)).map tx = some z := by
  have step : ∀ (A : List (List Nat)) (w : List Nat), (((foldT p lk A).map (·.1)).Nodup ∧ ∀ l z, (l, z) ∈ foldT p lk A ↔ (A.find? (qLk p lk l)).map tx = some z) →
      (((foldT p lk (A ++ [w])).map (·.1)).Nodup ∧ ∀ l z, (l, z) ∈ foldT p lk (A ++ [w]) ↔ ((A ++ [w]).find? (qLk p lk l)).map tx = some z) := by
    intro A w ⟨h1, h2⟩
    have e : foldT p lk (A ++ [w]) = if p w = true then sdefKV (lk w) (tx w) (foldT p lk A) else foldT p lk A := by
      unfold foldT; rw [List.foldl_append]; rfl
    have f : ∀ l, (A ++ [w]).find? (qLk p lk l) = (A.find? (qLk p lk l)).or (if qLk p lk l w = true then some w else none) := fun l => by
      rw [List.find?_append, List.find?_cons]
      cases qLk p lk l w <;> rfl
    rw [e]
    by_cases hp : p w = true
    · rw [if_pos hp]
      unfold sdefKV
      by_cases hm : memKV (lk w) (foldT p lk A) = true
      · rw [if_pos hm]
        refine ⟨h1, fun l z => ?_⟩
        rw [h2, f]
        by_cases hl : lk w = l
        · obtain ⟨z', hz'⟩ := memKV_iff.mp hm
          rw [hl, h2] at hz'
          obtain ⟨u, hu, _⟩ := Option.map_eq_some_iff.mp hz'
          rw [hu]; rfl
        · have q : qLk p lk l w = false := by unfold qLk; rw [decide_eq_false hl, Bool.and_false]
          rw [q, if_neg (by decide), Option.or_none]
      · rw [if_neg hm]
        refine ⟨?_, fun l z => ?_⟩
        · rw [List.map_append, List.nodup_append]
          refine ⟨h1, by simp, fun a ha b hb => ?_⟩
          rw [List.map_cons, List.map_nil, List.mem_singleton] at hb
          rintro rfl
          exact hm (memKV_key.mpr (by rw [show lk w = a from hb.symm]; exact ha))
        · rw [List.mem_append, h2, f, List.mem_singleton]
          by_cases hl : lk w = l
          · have no : A.find? (qLk p lk l) = none := by
              cases hu : A.find? (qLk p lk l) with
              | none => rfl
              | some u => exact absurd (memKV_iff.mpr ⟨tx u, (h2 (lk w) (tx u)).mpr (by rw [hl, hu]; rfl)⟩) hm
            have q : qLk p lk l w = true := by unfold qLk; rw [hp, decide_eq_true hl]; rfl
            rw [no, q, if_pos rfl]
            show (none = some z ∨ _) ↔ some (tx w) = some z
            constructor
            · rintro (h | h)
              · cases h
              · rw [(Prod.mk.inj h).2]
            · intro h
              refine .inr ?_
              rw [hl, Option.some.inj h]
          · have q : qLk p lk l w = false := by unfold qLk; rw [decide_eq_false hl, Bool.and_false]
            rw [q, if_neg (by decide), Option.or_none]
            exact ⟨fun h => h.elim id fun h => absurd (Prod.mk.inj h).1.symm hl, .inl⟩
    · rw [if_neg hp]
      refine ⟨h1, fun l z => ?_⟩
      have q : qLk p lk l w = false := by unfold qLk; rw [Bool.eq_false_iff.mpr hp]; rfl
      rw [h2, f, q, if_neg (by decide), Option.or_none]
  intro A
  have key : ∀ (post pre : List (List Nat)), A = pre ++ post → (((foldT p lk pre).map (·.1)).Nodup ∧ ∀ l z, (l, z) ∈ foldT p lk pre ↔ (pre.find? (qLk p lk l)).map tx = some z) → (((foldT p lk A).map (·.1)).Nodup ∧ ∀ l z, (l, z) ∈ foldT p lk A ↔ (A.find? (qLk p lk l)).map tx = some z) := by
    intro post
    induction post with
    | nil => intro pre e h; rw [e, List.append_nil]; exact h
    | cons w post ih => intro pre e h; exact ih (pre ++ [w]) (by rw [e]; simp) (step pre w h)
  exact key A [] rfl ⟨List.nodup_nil, fun l z => by show (l, z) ∈ [] ↔ none = some z; simp⟩
theorem foldT_len (p : List Nat → Bool) (lk : List Nat → List Int) (A : List (List Nat)) : (foldT p lk A).length ≤ A.length := by
  have go : ∀ (A : List (List Nat)) (T : List (List Int × Str)), (A.foldl (fun T w => if p w = true then sdefKV (lk w) (tx w) T else T) T).length ≤ T.length + A.length := by
    intro A
    induction A with
    | nil => intro T; exact Nat.le_refl _
    | cons w A ih =>
      intro T
      refine Nat.le_trans (ih _) ?_
      have : (if p w = true then sdefKV (lk w) (tx w) T else T).length ≤ T.length + 1 := by
        split
        · unfold sdefKV
          split
          · omega
          · rw [List.length_append]; exact Nat.le_refl _
        · omega
      rw [List.length_cons]
      show (if p w = true then sdefKV (lk w) (tx w) T else T).length + A.length ≤ _
      omega
  have := go A []
  rw [List.length_nil, Nat.zero_add] at this
  exact this
/-- a row of lines that shows each look's least line -/
structure Shows (p : List Nat → Bool) (lk : List Nat → List Int) (A : List (List Nat)) : Prop where
  pw : A.Pairwise slt
  inn : ∀ w ∈ A, ln w
  low : ∀ w, ln w → p w = true → ∃ v ∈ A, p v = true ∧ lk v = lk w ∧ sle v w
theorem Shows.least {p : List Nat → Bool} {lk : List Nat → List Int} {A : List (List Nat)} (h : Shows p lk A) (l : List Int) : Least (fun w => qLk p lk l w = true) ((A.find? (qLk p lk l)).map tx) :=
  first_leastL h.pw h.inn fun w hw z => by
    unfold qLk at z
    rw [Bool.and_eq_true, decide_eq_true_eq] at z
    obtain ⟨v, hv, h1, h2, h3⟩ := h.low w hw z.1
    exact ⟨v, hv, by unfold qLk; rw [h1, decide_eq_true (h2.trans z.2)]; rfl, h3⟩
theorem Shows.same {p : List Nat → Bool} {lk : List Nat → List Int} {A B : List (List Nat)} (h : Shows p lk A) (k : Shows p lk B) (l : List Int) (z : Str) : (l, z) ∈ foldT p lk A ↔ (l, z) ∈ foldT p lk B := by
  rw [(foldT_ok p lk A).2, (foldT_ok p lk B).2, (h.least l).one (k.least l)]
/-! the order of rows of numbers, of pairs -/
theorem leT (a b : List Int) : PySem.W.dataLe false (dT dI).d a b = decide (a ≤ b) := by
  show (!PySem.W.dataLt (.tuple (b.map .int)) (.tuple (a.map .int))) = _
  rw [PySem.W.dataLt_tuple]
  show (!PySem.W.rowLt (b.map .int) (a.map .int)) = _
  rw [PySem.W.dataLt_ints]
  by_cases h : b < a
  · have h' : ¬ a ≤ b := fun r => List.not_lt.mpr r h
    simp [h, h']
  · have h' : a ≤ b := List.not_lt.mp h
    simp [h, h']
theorem leP (p q : List Int × Str) : PySem.W.dataLe false (d2 (dT dI) dS).d p q = decide (p.1 < q.1 ∨ (p.1 = q.1 ∧ p.2.cps.toList ≤ q.2.cps.toList)) := by
  show (!PySem.W.dataLt (.tuple [(dT dI).d q.1, .str q.2]) (.tuple [(dT dI).d p.1, .str p.2])) = _
  rw [PySem.W.dataLt_pair (Ord1.al (D := dT dI) _ _) rfl, eqv_dec (dT dI)]
  have e1 : PySem.W.dataLt ((dT dI).d q.1) ((dT dI).d p.1) = decide (q.1 < p.1) := by
    show PySem.W.dataLt (.tuple (q.1.map .int)) (.tuple (p.1.map .int)) = _
    rw [PySem.W.dataLt_tuple]
    exact PySem.W.dataLt_ints _ _
  rw [e1]
  by_cases h : q.1 = p.1
  · rw [decide_eq_true h, if_pos rfl, PySem.W.dataLt_str]
    have n1 : ¬ p.1 < q.1 := fun z => by rw [h] at z; exact List.lt_irrefl _ z
    have e2 : PyData.eqv (.str q.2) (.str p.2) = decide (q.2 = p.2) := eqv_dec dS q.2 p.2
    rw [e2]
    by_cases h3 : q.2 = p.2
    · rw [decide_eq_true h3, if_pos rfl]
      refine (decide_eq_true (.inr ⟨h.symm, ?_⟩)).symm
      rw [h3]; exact List.le_refl _
    · rw [decide_eq_false h3, if_neg (by decide)]
      by_cases h4 : q.2.cps.toList < p.2.cps.toList
      · rw [decide_eq_true h4]
        refine (decide_eq_false ?_).symm
        rintro (z | ⟨_, z⟩)
        · exact n1 z
        · exact List.not_lt.mpr z h4
      · rw [decide_eq_false h4]
        exact (decide_eq_true (.inr ⟨h.symm, List.not_lt.mp h4⟩)).symm
  · rw [decide_eq_false h, if_neg (by decide)]
    by_cases h4 : q.1 < p.1
    · rw [decide_eq_true h4]
      refine (decide_eq_false ?_).symm
      rintro (z | ⟨z, _⟩)
      · exact List.lt_irrefl _ (List.lt_trans z h4)
      · exact h z.symm
    · rw [decide_eq_false h4]
      have z : p.1 ≤ q.1 := List.not_lt.mp h4
      refine (decide_eq_true (.inl ?_)).symm
      rcases Classical.em (p.1 < q.1) with k | k
      · exact k
      · exact absurd (List.le_antisymm (List.not_lt.mp k) z) h
theorem srtT_pw (ks : List (List Int)) : (srtD (dT dI) ks).Pairwise (· ≤ ·) := by
  unfold srtD
  have q := List.pairwise_mergeSort (le := PySem.W.dataLe false (dT dI).d) (fun a b c h1 h2 => by
    rw [leT, decide_eq_true_eq] at h1 h2 ⊢
    exact List.le_trans h1 h2) (fun a b => by
    rw [leT, leT, Bool.or_eq_true, decide_eq_true_eq, decide_eq_true_eq]
    exact List.le_total a b) ks
  exact q.imp fun {a b} h => by rw [leT, decide_eq_true_eq] at h; exact h
theorem srtP_pw (T : List (List Int × Str)) : ((srtD (d2 (dT dI) dS) T).map (·.1)).Pairwise (· ≤ ·) := by
  unfold srtD
  have q := List.pairwise_mergeSort (le := PySem.W.dataLe false (d2 (dT dI) dS).d) (fun a b c h1 h2 => by
    rw [leP, decide_eq_true_eq] at h1 h2 ⊢
    rcases h1 with h1 | ⟨h1, h1'⟩
    · rcases h2 with h2 | ⟨h2, _⟩
      · exact .inl (List.lt_trans h1 h2)
      · exact .inl (h2 ▸ h1)
    · rcases h2 with h2 | ⟨h2, h2'⟩
      · exact .inl (h1 ▸ h2)
      · exact .inr ⟨h1.trans h2, List.le_trans h1' h2'⟩) (fun a b => by
    rw [leP, leP, Bool.or_eq_true, decide_eq_true_eq, decide_eq_true_eq]
    rcases Classical.em (a.1 < b.1) with k | k
    · exact .inl (.inl k)
    · rcases Classical.em (b.1 < a.1) with k2 | k2
      · exact .inr (.inl k2)
      · have e : a.1 = b.1 := List.le_antisymm (List.not_lt.mp k2) (List.not_lt.mp k)
        rcases List.le_total a.2.cps.toList b.2.cps.toList with z | z
        · exact .inl (.inr ⟨e, z⟩)
        · exact .inr (.inr ⟨e.symm, z⟩)) T
  rw [List.pairwise_map]
  refine q.imp fun {a b} h => ?_
  rw [leP, decide_eq_true_eq] at h
  rcases h with h | ⟨h, _⟩
  · exact List.le_of_lt h
  · rw [h]; exact List.le_refl _
theorem getKV_mem {T : List (List Int × Str)} (hn : (T.map (·.1)).Nodup) {l : List Int} {z : Str} (h : (l, z) ∈ T) : getKV l T = some z := by
  unfold getKV
  induction T with
  | nil => cases h
  | cons q T ih =>
    rw [List.map_cons, List.nodup_cons] at hn
    rw [List.find?_cons]
    rcases List.mem_cons.mp h with k | k
    · rw [← k, decide_eq_true rfl]; rfl
    · have ne : ¬ q.1 = l := fun e => hn.1 (by rw [e]; exact List.mem_map.mpr ⟨_, k, rfl⟩)
      rw [decide_eq_false ne]
      exact ih hn.2 k
/-- the pairs sorted are the sorted keys with what stands at them -/
theorem tab_sorted {T U : List (List Int × Str)} (hT : (T.map (·.1)).Nodup) (hU : (U.map (·.1)).Nodup) (h : ∀ l z, (l, z) ∈ T ↔ (l, z) ∈ U) :
    (∀ k ∈ srtD (dT dI) (U.map (·.1)), ∃ z, getKV k U = some z) ∧ (srtD (dT dI) (U.map (·.1))).map (fun k => (k, (getKV k U).getD Str.empty)) = srtD (d2 (dT dI) dS) T := by
  have pT : (srtD (d2 (dT dI) dS) T).Perm T := List.mergeSort_perm _ _
  have pU : (srtD (dT dI) (U.map (·.1))).Perm (U.map (·.1)) := List.mergeSort_perm _ _
  have pk : (T.map (·.1)).Perm (U.map (·.1)) := (List.perm_ext_iff_of_nodup hT hU).mpr fun l => by
    constructor
    · intro k
      obtain ⟨q, hq, rfl⟩ := List.mem_map.mp k
      exact List.mem_map.mpr ⟨q, (h q.1 q.2).mp hq, rfl⟩
    · intro k
      obtain ⟨q, hq, rfl⟩ := List.mem_map.mp k
      exact List.mem_map.mpr ⟨q, (h q.1 q.2).mpr hq, rfl⟩
  have e : (srtD (d2 (dT dI) dS) T).map (·.1) = srtD (dT dI) (U.map (·.1)) :=
    List.Perm.eq_of_pairwise (le := (· ≤ ·)) (fun a b _ _ h1 h2 => List.le_antisymm h1 h2) (srtP_pw T) (srtT_pw _) (((pT.map _).trans pk).trans pU.symm)
  refine ⟨fun k hk => ?_, ?_⟩
  · obtain ⟨q, hq, rfl⟩ := List.mem_map.mp (pU.mem_iff.mp hk)
    exact ⟨q.2, getKV_mem hU hq⟩
  · rw [← e, List.map_map]
    conv => rhs; rw [← List.map_id (srtD (d2 (dT dI) dS) T)]
    refine List.map_congr_left fun q hq => ?_
    have hq2 : (q.1, q.2) ∈ U := (h q.1 q.2).mp (pT.mem_iff.mp hq)
    show (q.1, (getKV q.1 U).getD Str.empty) = q
    rw [getKV_mem hU hq2]
    rfl

/-! ### drawn shapes -/
inductive ShR : Shp → Nat → Nat → Prop
  | lf (k : Nat) : ShR (.lf k) k 1
  | nd {op : Str} {l r : Shp} {lo a b : Nat} (h : op = "&" ∨ op = "|") (hl : ShR l lo a) (hr : ShR r (lo + a) b) : ShR (.nd op l r) lo (a + b)
def shDep : Shp → Nat
  | .lf _ => 1
  | .nd _ l r => max (shDep l) (shDep r) + 1
theorem ShR.pos {s : Shp} {lo n : Nat} (h : ShR s lo n) : 1 ≤ n := by
  induction h with
  | lf k => exact Nat.le_refl _
  | nd h hl hr i j => omega
theorem ShR.dep_le {s : Shp} {lo n : Nat} (h : ShR s lo n) : shDep s ≤ n := by
  induction h with
  | lf k => exact Nat.le_refl _
  | nd h hl hr i j =>
    have := hl.pos
    have := hr.pos
    show max _ _ + 1 ≤ _
    omega
/-- shapes one behind the other -/
inductive Chn : List Shp → Nat → Nat → Prop
  | nil {lo : Nat} : Chn [] lo lo
  | cons {s : Shp} {l : List Shp} {lo n hi : Nat} (h : ShR s lo n) (t : Chn l (lo + n) hi) : Chn (s :: l) lo hi
theorem Chn.app {A B : List Shp} {lo mid hi : Nat} (h : Chn A lo mid) (k : Chn B mid hi) : Chn (A ++ B) lo hi := by
  induction h with
  | nil => exact k
  | cons h t ih => exact .cons h (ih k)
theorem Chn.split {B : List Shp} {hi : Nat} : ∀ {A : List Shp} {lo : Nat}, Chn (A ++ B) lo hi → ∃ mid, Chn A lo mid ∧ Chn B mid hi
  | [], lo, h => ⟨lo, .nil, h⟩
  | s :: A, lo, .cons h t => by
    obtain ⟨mid, h1, h2⟩ := Chn.split t
    exact ⟨mid, .cons h h1, h2⟩
theorem shape_ok {p : Int × Int} {n : Nat} (h1 : 1 ≤ n) (h2 : n ≤ 100) : Ok (m_law_shape p (n : Int)) fun r => ShR r.1 0 n := by
  unfold m_law_shape
  refine Ok.gd (rgOk_ok (by omega) (by omega) (by omega) (by omega)) (Ok.gd (fitsE_ok (by rw [rng_len]; omega)) ?_)
  refine Ok.bde (comp_map (fun k => Shp.lf k) fun k _ => rfl) ?_
  have start : ∀ (m lo : Nat), Chn ((rng lo ((lo + m : Nat) : Int)).map fun k => Shp.lf k) lo (lo + m) := by
    intro m
    induction m with
    | zero =>
      intro lo
      have e : rng (lo : Int) ((lo + 0 : Nat) : Int) = [] := List.eq_nil_of_length_eq_zero (by rw [rng_len]; omega)
      rw [e]; exact .nil
    | succ m ih =>
      intro lo
      have e : rng (lo : Int) ((lo + (m + 1) : Nat) : Int) = (lo : Int) :: rng ((lo + 1 : Nat) : Int) ((lo + 1 + m : Nat) : Int) := by
        unfold rng
        have e1 : (((lo + (m + 1) : Nat) : Int) - (lo : Int)).toNat = m + 1 := by omega
        have e2 : (((lo + 1 + m : Nat) : Int) - ((lo + 1 : Nat) : Int)).toNat = m := by omega
        rw [e1, e2, List.range_succ_eq_map, List.map_cons, List.map_map]
        rw [show (lo : Int) + ((0 : Nat) : Int) = lo by omega]
        congr 1
        refine List.map_congr_left fun i _ => ?_
        show (lo : Int) + ((i + 1 : Nat) : Int) = ((lo + 1 : Nat) : Int) + (i : Int)
        omega
      rw [e, List.map_cons]
      have := ih (lo + 1)
      have e3 : lo + 1 + m = lo + (m + 1) := by omega
      rw [e3] at this ⊢
      exact .cons (.lf lo) this
  have s0 := start n 0
  rw [Nat.zero_add] at s0
  refine Ok.bd (Ok.wh (Q := fun s => Chn s.2 0 n ∧ s.2.length = 1) (fun s => Chn s.2 0 n ∧ 1 ≤ s.2.length ∧ s.2.length ≤ 100) (fun s => s.2.length) (fun s ⟨c, l1, l2⟩ => ?turn) fuel _ ⟨s0, ?a1, ?a2⟩ ?a3) fun s ⟨c, l⟩ => ?fin
  case turn =>
    unfold m_law_shape_b2
    refine Ok.sm ?_
    show (decide (1 < (s.2.length : Int)) = false ∧ _) ∨ (decide (1 < (s.2.length : Int)) = true ∧ _)
    by_cases hl : 1 < s.2.length
    · refine .inr ⟨decide_eq_true (by omega), ?_⟩
      unfold m_law_shape_b3
      refine Ok.bd (take_ok (by show (0 : Int) < (s.2.length : Int) - 1; omega) (by show (s.2.length : Int) - 1 < _; omega)) fun a ha => Ok.bd (take_ok (by decide) (by decide)) fun o ho => ?_
      have ha2 : a.1 < (s.2.length : Int) - 1 := ha.2
      have op : ∃ z, atI [("&" : Str), ("|" : Str)] o.1 = some z ∧ (z = "&" ∨ z = "|") := by
        have : o.1 = 0 ∨ o.1 = 1 := by omega
        rcases this with e | e <;> rw [e]
        · exact ⟨_, rfl, .inl rfl⟩
        · exact ⟨_, rfl, .inr rfl⟩
      obtain ⟨z, ez, hz⟩ := op
      have i1 : a.1.toNat < s.2.length := by omega
      have i2 : a.1.toNat + 1 < s.2.length := by omega
      have ha1 := ha.1
      have e1 : atI s.2 a.1 = some s.2[a.1.toNat] := by rw [atI_nn ha1 (by omega)]; exact List.getElem?_eq_getElem i1
      have e2 : atI s.2 (a.1 + 1) = some s.2[a.1.toNat + 1] := by rw [atI_nn (by omega) (by omega), show (a.1 + 1).toNat = a.1.toNat + 1 by omega]; exact List.getElem?_eq_getElem i2
      refine Ok.bde ez (Ok.bde e1 (Ok.bde e2 ?_))
      show Ok (gd (fits2 (cut s.2 none (some a.1)) [Shp.nd z s.2[a.1.toNat] s.2[a.1.toNat + 1]]) _) _
      rw [cut_to _ ha.1, cut_from _ (by omega), show (a.1 + 2).toNat = a.1.toNat + 2 by omega]
      have e : s.2 = s.2.take a.1.toNat ++ s.2[a.1.toNat] :: s.2[a.1.toNat + 1] :: s.2.drop (a.1.toNat + 2) := by
        conv => lhs; rw [← List.take_append_drop a.1.toNat s.2]
        rw [List.drop_eq_getElem_cons i1, List.drop_eq_getElem_cons i2]
      have lt : (s.2.take a.1.toNat).length = a.1.toNat := by rw [List.length_take]; omega
      have ld : (s.2.drop (a.1.toNat + 2)).length = s.2.length - (a.1.toNat + 2) := List.length_drop ..
      refine Ok.gd (fits2_ok (by rw [lt, List.length_singleton]; omega)) (Ok.gd (fits2_ok (by rw [List.length_append, lt, List.length_singleton, ld]; omega)) (Ok.sm ⟨⟨?_, ?_, ?_⟩, ?_⟩))
      · have c' : Chn (s.2.take a.1.toNat ++ s.2[a.1.toNat] :: s.2[a.1.toNat + 1] :: s.2.drop (a.1.toNat + 2)) 0 n := by rw [← e]; exact c
        obtain ⟨mid, c1, c2⟩ := c'.split
        cases c2 with
        | cons h t =>
          cases t with
          | cons h' t' =>
            refine (c1.app (.cons (.nd hz h h') .nil)).app ?_
            rw [← Nat.add_assoc]
            exact t'
      · show 1 ≤ (s.2.take a.1.toNat ++ [_] ++ s.2.drop (a.1.toNat + 2)).length
        rw [List.length_append, List.length_append, lt, List.length_singleton]; omega
      · show (s.2.take a.1.toNat ++ [_] ++ s.2.drop (a.1.toNat + 2)).length ≤ 100
        rw [List.length_append, List.length_append, lt, List.length_singleton, ld]; omega
      · show (s.2.take a.1.toNat ++ [_] ++ s.2.drop (a.1.toNat + 2)).length < s.2.length
        rw [List.length_append, List.length_append, lt, List.length_singleton, ld]; omega
    · exact .inl ⟨decide_eq_false (by omega), c, show s.2.length = 1 by omega⟩
  case a1 =>
    show 1 ≤ ((rng 0 (n : Int)).map _).length
    rw [List.length_map, rng_len]
    omega
  case a2 =>
    show ((rng 0 (n : Int)).map _).length ≤ 100
    rw [List.length_map, rng_len]; omega
  case a3 =>
    unfold fuel
    show ((rng 0 (n : Int)).map _).length < 1000000000
    rw [List.length_map, rng_len]
    have : ((n : Int) - 0).toNat = n := by omega
    rw [this]
    omega
  case fin =>
    obtain ⟨x, hx⟩ := List.length_eq_one_iff.mp l
    refine Ok.bde (a := x) (by rw [hx]; rfl) (Ok.sm ?_)
    rw [hx] at c
    cases c with
    | cons h t =>
      cases t
      rw [Nat.zero_add] at *
      exact h
/-- the pattern of a shape -/
def patSh (fs : List (List Str)) : Shp → Pat
  | .lf k => .form ((fs[k.toNat]?).getD [])
  | .nd op l r => if op = "&" then .both (patSh fs l) (patSh fs r) else .either (patSh fs l) (patSh fs r)
theorem patSh_forms {fs : List (List Str)} {s : Shp} {lo n : Nat} (h : ShR s lo n) (hl : lo + n ≤ fs.length) : (patSh fs s).forms = (fs.drop lo).take n := by
  induction h with
  | lf k =>
    show [(fs[(k : Int).toNat]?).getD []] = _
    rw [Int.toNat_natCast, List.getElem?_eq_getElem (by omega), List.drop_eq_getElem_cons (by omega)]
    rfl
  | @nd op l r lo a b h hl' hr i j =>
    have e : (patSh fs (.nd op l r)).forms = (patSh fs l).forms ++ (patSh fs r).forms := by
      show (if op = "&" then Pat.both (patSh fs l) (patSh fs r) else .either (patSh fs l) (patSh fs r)).forms = _
      split <;> rfl
    rw [e, i (by omega), j (by omega), List.take_add, List.drop_drop]
theorem patSh_ht {fs : List (List Str)} {s : Shp} {lo n : Nat} (h : ShR s lo n) : (patSh fs s).ht + 1 ≤ n := by
  induction h with
  | lf k => exact Nat.le_refl _
  | @nd op l r lo a b h hl hr i j =>
    have e : (patSh fs (.nd op l r)).ht = max (patSh fs l).ht (patSh fs r).ht + 1 := by
      show (if op = "&" then Pat.both (patSh fs l) (patSh fs r) else .either (patSh fs l) (patSh fs r)).ht = _
      split <;> rfl
    rw [e]; omega
theorem patSh_ok {fs : List (List Str)} (hf : ∀ ps ∈ fs, alw ps ∧ 1 ≤ ps.length ∧ ps.length ≤ 4) {s : Shp} {lo n : Nat} (h : ShR s lo n) (hl : lo + n ≤ fs.length) (hn : n ≤ 4) : okP (patSh fs s) := by
  have e := patSh_forms h hl
  have ht := patSh_ht (fs := fs) h
  refine ⟨by omega, fun ps hp => ?_, ?_⟩
  · rw [e] at hp
    exact hf ps (List.mem_of_mem_drop (List.mem_of_mem_take hp))
  · rw [e, List.length_take]; omega
theorem amp_ne : ("|" : Str) ≠ "&" := by decide +kernel
theorem built_eq12 {fs : List (List Str)} (hf : ∀ ps ∈ fs, alw ps ∧ 1 ≤ ps.length ∧ ps.length ≤ 4) {s : Shp} {lo n : Nat} (h : ShR s lo n) (hl : lo + n ≤ fs.length) (hn : n ≤ 3) (hfl : fs.length ≤ 100) : ∀ m, shDep s ≤ m → m_law_built m s fs = some (patSh fs s) := by
  induction h with
  | lf k =>
    intro m hm
    obtain ⟨m, rfl⟩ : ∃ q, m = q + 1 := ⟨m - 1, by have : 1 ≤ m := hm; omega⟩
    show (if decide ((1 : Int) = 1) = true then (some (k : Int)).bind _ else _) = _
    rw [ite_ya rfl, bs, atI_nn (by omega) (by omega), Int.toNat_natCast, List.getElem?_eq_getElem (by omega), bs]
    show _ = some (Pat.form ((fs[(k : Int).toNat]?).getD []))
    rw [Int.toNat_natCast, List.getElem?_eq_getElem (by omega)]
    rfl
  | @nd op l r lo a b h hl' hr i j =>
    intro m hm
    have hd : max (shDep l) (shDep r) + 1 ≤ m := hm
    have pa := hl'.pos
    have pb := hr.pos
    obtain ⟨m, rfl⟩ : ∃ q, m = q + 1 := ⟨m - 1, by omega⟩
    show (if decide ((3 : Int) = 1) = true then _ else (some l).bind _) = _
    rw [ite_no (by decide), bs, i (by omega) (by omega) m (by omega), bs]
    show ((some r).bind _) = _
    rw [bs, j (by omega) (by omega) m (by omega), bs]
    show ((some op).bind _) = _
    rw [bs]
    have o1 := patSh_ok hf hl' (by omega) (by omega)
    have o2 := patSh_ok hf hr (by omega) (by omega)
    have l1 : (patSh fs l).forms.length = a := by rw [patSh_forms hl' (by omega), List.length_take, List.length_drop]; omega
    have l2 : (patSh fs r).forms.length = b := by rw [patSh_forms hr (by omega), List.length_take, List.length_drop]; omega
    show _ = some (if op = "&" then Pat.both (patSh fs l) (patSh fs r) else .either (patSh fs l) (patSh fs r))
    rcases h with e | e
    · rw [ite_ya e, if_pos e]
      unfold m_Pattern___and__ m_Both___init__
      rw [pat_forms_eq o1, bs, pat_forms_eq o2, bs, ite_no (by omega), bs, bs]
    · rw [ite_no (by rw [e]; exact amp_ne), if_neg (by rw [e]; exact amp_ne)]
      unfold m_Pattern___or__ m_Either___init__
      rw [pat_forms_eq o1, bs, pat_forms_eq o2, bs, ite_no (by omega), bs, bs]
theorem holds_sh {fs : List (List Str)} (F : List Str → Bool) {s : Shp} {lo n : Nat} (h : ShR s lo n) (hl : lo + n ≤ fs.length) : ∀ m, shDep s ≤ m → m_law_holds m s (fs.map F) = some (evP F (patSh fs s)) := by
  induction h with
  | lf k =>
    intro m hm
    obtain ⟨m, rfl⟩ : ∃ q, m = q + 1 := ⟨m - 1, by have : 1 ≤ m := hm; omega⟩
    show (if decide ((1 : Int) = 1) = true then (some (k : Int)).bind _ else _) = _
    rw [ite_ya rfl, bs, atI_nn (by omega) (by rw [List.length_map]; omega), Int.toNat_natCast, List.getElem?_map, List.getElem?_eq_getElem (by omega)]
    show (some (F fs[k])).bind _ = some (F ((fs[(k : Int).toNat]?).getD []))
    rw [bs, Int.toNat_natCast, List.getElem?_eq_getElem (by omega)]
    rfl
  | @nd op l r lo a b h hl' hr i j =>
    intro m hm
    have hd : max (shDep l) (shDep r) + 1 ≤ m := hm
    obtain ⟨m, rfl⟩ : ∃ q, m = q + 1 := ⟨m - 1, by omega⟩
    show (if decide ((3 : Int) = 1) = true then _ else (some l).bind _) = _
    rw [ite_no (by decide), bs, i (by omega) m (by omega), bs]
    show ((some r).bind _) = _
    rw [bs, j (by omega) m (by omega), bs]
    show ((some op).bind _) = _
    rw [bs]
    show _ = some (evP F (if op = "&" then Pat.both (patSh fs l) (patSh fs r) else .either (patSh fs l) (patSh fs r)))
    rcases h with e | e
    · rw [ite_ya e, if_pos e]; rfl
    · rw [ite_no (by rw [e]; exact amp_ne), if_neg (by rw [e]; exact amp_ne)]; rfl

/-! ### texts of legal signs and known lengths -/
def lw (s : Str) (n : Nat) : Prop := (∀ c ∈ cl s, c < 1114112) ∧ (cl s).length ≤ n
theorem lw_ok {s : Str} {n : Nat} (h : lw s n) : okS s := by
  show (s.cps.all (· < 0x110000)) = true
  rw [Array.all_eq_true_iff_forall_mem]
  intro c hc
  exact decide_eq_true (h.1 c (Array.mem_toList_iff.mpr hc))
theorem ok_lw {s : Str} (h : okS s) : ∀ c ∈ cl s, c < 1114112 := by
  intro c hc
  have k : (s.cps.all (· < 0x110000)) = true := h
  rw [Array.all_eq_true_iff_forall_mem] at k
  exact of_decide_eq_true (k c (Array.mem_toList_iff.mp hc))
theorem lw_app {s t : Str} {n m : Nat} (h : lw s n) (k : lw t m) : lw (s ++ t) (n + m) := by
  refine ⟨fun c hc => ?_, ?_⟩
  · rw [cl_app, List.mem_append] at hc
    exact hc.elim (h.1 c) (k.1 c)
  · rw [cl_app, List.length_append]
    exact Nat.add_le_add h.2 k.2

/-! ### the text of a pattern, what a shape shows -/
def pTxt : Pat → Str
  | .form ps => Txt.join ("" : Str) ps
  | .both l r => joinP (" & " : Str) (pTxt l) (pTxt r)
  | .either l r => joinP (" | " : Str) (pTxt l) (pTxt r)
theorem e0len : ("" : Str).length = 0 := by decide +kernel
theorem join_lw {ps : List Str} (h : ∀ p ∈ ps, part p) (hl : ps.length ≤ 4) : joinOk ("" : Str) ps = true ∧ lw (Txt.join ("" : Str) ps) 32 := by
  have fl : ∀ {qs : List Str}, (∀ p ∈ qs, part p) → (qs.flatMap cl).length ≤ 8 * qs.length ∧ (qs.map (·.length)).sum ≤ 8 * qs.length := fun {qs} h => by
    induction qs with
    | nil => exact ⟨Nat.le_refl _, Nat.le_refl _⟩
    | cons q qs ih =>
      obtain ⟨i1, i2⟩ := ih fun p hp => h p (List.mem_cons_of_mem _ hp)
      have := part_len (h q List.mem_cons_self)
      rw [List.flatMap_cons, List.length_append, List.map_cons, List.sum_cons, List.length_cons, ← cl_len]
      omega
  obtain ⟨f1, f2⟩ := fl h
  refine ⟨decide_eq_true (by rw [e0len]; omega), fun c hc => ?_, ?_⟩
  · rw [join_cl] at hc
    obtain ⟨p, hp, hc⟩ := List.mem_flatMap.mp hc
    exact ok_lw (part_ok (h p hp)) c hc
  · rw [join_cl]; omega
theorem joinP_lw {m s t : Str} {a b : Nat} (hm : lw m 3) (hs : lw s a) (ht : lw t b) (hab : a + b ≤ 1000) : joinPok m s t = true ∧ lw (joinP m s t) (a + b + 5) := by
  have c1 : lw ("(" : Str) 1 := ⟨by decide +kernel, by decide +kernel⟩
  have c2 : lw (")" : Str) 1 := ⟨by decide +kernel, by decide +kernel⟩
  have c0 : lw Str.empty 0 := ⟨(fun c hc => nomatch hc), Nat.le_refl _⟩
  have k := lw_app (lw_app (lw_app (lw_app (lw_app c0 c1) hs) hm) ht) c2
  have k2 : lw (joinP m s t) (a + b + 5) := ⟨k.1, Nat.le_trans k.2 (by omega)⟩
  have z : ∀ {u : Str} {n : Nat}, lw u n → n ≤ 2000 → u.length ≤ sizeLine := fun {u n} h hn => by
    rw [sizeLine_eq, cl_len]; have := h.2; omega
  refine ⟨?_, k2⟩
  unfold joinPok
  rw [decide_eq_true (z hs (by omega)), decide_eq_true (z ht (by omega)), decide_eq_true (z k2 (by omega))]
  rfl
theorem amp3 : lw (" & " : Str) 3 ∧ lw (" | " : Str) 3 := ⟨⟨by decide +kernel, by decide +kernel⟩, ⟨by decide +kernel, by decide +kernel⟩⟩
theorem pTxt_ok : ∀ {P : Pat}, (∀ ps ∈ P.forms, alw ps ∧ 1 ≤ ps.length ∧ ps.length ≤ 4) → P.forms.length ≤ 16 → P.str = some (pTxt P) ∧ lw (pTxt P) (37 * P.forms.length - 5)
  | .form ps, h, _ => by
    obtain ⟨a, b, c⟩ := h ps (List.mem_singleton.mpr rfl)
    obtain ⟨j1, j2⟩ := join_lw (alw_part a) c
    refine ⟨?_, j2⟩
    show gd (joinOk ("" : Str) ps) _ = _
    rw [gd_true j1]; rfl
  | .both l r, h, hl => by
    have e : (Pat.both l r).forms.length = l.forms.length + r.forms.length := List.length_append
    obtain ⟨i1, i2⟩ := pTxt_ok (P := l) (fun ps hp => h ps (List.mem_append_left _ hp)) (by omega)
    obtain ⟨j1, j2⟩ := pTxt_ok (P := r) (fun ps hp => h ps (List.mem_append_right _ hp)) (by omega)
    have n1 := forms_ne l
    have n2 := forms_ne r
    obtain ⟨k1, k2⟩ := joinP_lw amp3.1 i2 j2 (by omega)
    refine ⟨?_, k2.1, ?_⟩
    · show (l.str.bind fun x => r.str.bind fun y => gd (joinPok (" & " : Str) x y) (some (joinP (" & " : Str) x y))) = _
      rw [i1, bs, j1, bs, gd_true k1]; rfl
    · have : (cl (pTxt (.both l r))).length ≤ _ := k2.2
      rw [e]; omega
  | .either l r, h, hl => by
    have e : (Pat.either l r).forms.length = l.forms.length + r.forms.length := List.length_append
    obtain ⟨i1, i2⟩ := pTxt_ok (P := l) (fun ps hp => h ps (List.mem_append_left _ hp)) (by omega)
    obtain ⟨j1, j2⟩ := pTxt_ok (P := r) (fun ps hp => h ps (List.mem_append_right _ hp)) (by omega)
    have n1 := forms_ne l
    have n2 := forms_ne r
    obtain ⟨k1, k2⟩ := joinP_lw amp3.2 i2 j2 (by omega)
    refine ⟨?_, k2.1, ?_⟩
    · show (l.str.bind fun x => r.str.bind fun y => gd (joinPok (" | " : Str) x y) (some (joinP (" | " : Str) x y))) = _
      rw [i1, bs, j1, bs, gd_true k1]; rfl
    · have : (cl (pTxt (.either l r))).length ≤ _ := k2.2
      rw [e]; omega
theorem str_eq {P : Pat} (h : okP P) : m_pat___str__ P = some (pTxt P) := (patN_of h.ht h.few).trans (pTxt_ok h.fs h.few).1
theorem cl_amp : cl (" & " : Str) = cl (" " : Str) ++ cl ("&" : Str) ++ cl (" " : Str) ∧ cl (" | " : Str) = cl (" " : Str) ++ cl ("|" : Str) ++ cl (" " : Str) := by decide +kernel
theorem shown_eq {fs : List (List Str)} (hf : ∀ ps ∈ fs, alw ps ∧ 1 ≤ ps.length ∧ ps.length ≤ 4) {s : Shp} {lo n : Nat} (h : ShR s lo n) (hl : lo + n ≤ fs.length) (hn : n ≤ 4) : ∀ m, shDep s ≤ m → m_law_shown m s fs = some (pTxt (patSh fs s)) := by
  induction h with
  | lf k =>
    intro m hm
    obtain ⟨m, rfl⟩ : ∃ q, m = q + 1 := ⟨m - 1, by have : 1 ≤ m := hm; omega⟩
    show (if decide ((1 : Int) = 1) = true then (some (k : Int)).bind _ else _) = _
    rw [ite_ya rfl, bs, atI_nn (by omega) (by omega), Int.toNat_natCast, List.getElem?_eq_getElem (by omega), bs]
    obtain ⟨a, b, c⟩ := hf fs[k] (List.getElem_mem (by omega))
    rw [gd_true (join_lw (alw_part a) c).1]
    show _ = some (Txt.join ("" : Str) ((fs[(k : Int).toNat]?).getD []))
    rw [Int.toNat_natCast, List.getElem?_eq_getElem (by omega)]
    rfl
  | @nd op l r lo a b h hl' hr i j =>
    intro m hm
    have hd : max (shDep l) (shDep r) + 1 ≤ m := hm
    have pa := hl'.pos
    have pb := hr.pos
    obtain ⟨m, rfl⟩ : ∃ q, m = q + 1 := ⟨m - 1, by omega⟩
    show (if decide ((3 : Int) = 1) = true then _ else (some l).bind _) = _
    rw [ite_no (by decide), bs, i (by omega) (by omega) m (by omega), bs]
    have o1 := patSh_ok hf hl' (by omega) (by omega)
    have o2 := patSh_ok hf hr (by omega) (by omega)
    have f1 : (patSh fs l).forms.length = a := by rw [patSh_forms hl' (by omega), List.length_take, List.length_drop]; omega
    have f2 : (patSh fs r).forms.length = b := by rw [patSh_forms hr (by omega), List.length_take, List.length_drop]; omega
    have w1 := (pTxt_ok o1.fs o1.few).2.2
    have w2 := (pTxt_ok o2.fs o2.few).2.2
    rw [f1, ← cl_len] at w1
    rw [f2, ← cl_len] at w2
    generalize hx : pTxt (patSh fs l) = X at *
    generalize hy : pTxt (patSh fs r) = Y at *
    have q1 : ("(" : Str).length = 1 := by decide +kernel
    have q2 : (" " : Str).length = 1 := by decide +kernel
    have q3 : (")" : Str).length = 1 := by decide +kernel
    have q4 : op.length = 1 := by rcases h with e | e <;> rw [e] <;> decide +kernel
    have L : ∀ {s t : Str}, s.length + t.length ≤ 16000000 → catOk s t = true := fun h => catOk_ok h
    rw [gd_true (L (by omega)), gd_true (L (by rw [len_app]; omega))]
    show ((some op).bind _) = _
    rw [bs, gd_true (L (by rw [len_app, len_app]; omega)), gd_true (L (by rw [len_app, len_app, len_app]; omega))]
    show ((some r).bind _) = _
    rw [bs, j (by omega) (by omega) m (by omega), bs, gd_true (L (by rw [len_app, len_app, len_app, len_app]; omega)), gd_true (L (by rw [len_app, len_app, len_app, len_app, len_app]; omega))]
    congr 1
    show _ = pTxt (if op = "&" then Pat.both (patSh fs l) (patSh fs r) else .either (patSh fs l) (patSh fs r))
    rcases h with e | e
    · rw [if_pos e, e]
      show _ = joinP (" & " : Str) (pTxt (patSh fs l)) (pTxt (patSh fs r))
      rw [hx, hy]
      refine cl_inj ?_
      unfold joinP
      simp only [cl_app, cl_amp.1, List.append_assoc]
      rfl
    · rw [if_neg (by rw [e]; exact amp_ne), e]
      show _ = joinP (" | " : Str) (pTxt (patSh fs l)) (pTxt (patSh fs r))
      rw [hx, hy]
      refine cl_inj ?_
      unfold joinP
      simp only [cl_app, cl_amp.2, List.append_assoc]
      rfl
/-! flags of any kind -/
def evS (t : List Bool) : Shp → Bool
  | .lf k => (t[k.toNat]?).getD false
  | .nd op l r => if op = "&" then evS t l && evS t r else evS t l || evS t r
theorem holds_any {t : List Bool} {s : Shp} {lo n : Nat} (h : ShR s lo n) (hl : lo + n ≤ t.length) : ∀ m, shDep s ≤ m → m_law_holds m s t = some (evS t s) := by
  induction h with
  | lf k =>
    intro m hm
    obtain ⟨m, rfl⟩ : ∃ q, m = q + 1 := ⟨m - 1, by have : 1 ≤ m := hm; omega⟩
    show (if decide ((1 : Int) = 1) = true then (some (k : Int)).bind _ else _) = _
    rw [ite_ya rfl, bs, atI_nn (by omega) (by omega), Int.toNat_natCast, List.getElem?_eq_getElem (by omega), bs]
    show some t[k] = some ((t[(k : Int).toNat]?).getD false)
    rw [Int.toNat_natCast, List.getElem?_eq_getElem (by omega)]
    rfl
  | @nd op l r lo a b h hl' hr i j =>
    intro m hm
    have hd : max (shDep l) (shDep r) + 1 ≤ m := hm
    obtain ⟨m, rfl⟩ : ∃ q, m = q + 1 := ⟨m - 1, by omega⟩
    show (if decide ((3 : Int) = 1) = true then _ else (some l).bind _) = _
    rw [ite_no (by decide), bs, i (by omega) m (by omega), bs]
    show ((some r).bind _) = _
    rw [bs, j (by omega) m (by omega), bs]
    show ((some op).bind _) = _
    rw [bs]
    show _ = some (if op = "&" then evS t l && evS t r else evS t l || evS t r)
    rcases h with e | e
    · rw [ite_ya e, if_pos e]; rfl
    · rw [ite_no (by rw [e]; exact amp_ne), if_neg (by rw [e]; exact amp_ne)]; rfl
theorem pholds_any {fs : List (List Str)} {t : List Bool} {s : Shp} {lo n : Nat} (h : ShR s lo n) (hl : lo + n ≤ fs.length) (ht : t.length = fs.length) : (patSh fs s).holds ((t.drop lo).take n) = some (evS t s) := by
  induction h with
  | lf k =>
    show atI ((t.drop k).take 1) 0 = some ((t[(k : Int).toNat]?).getD false)
    rw [Int.toNat_natCast, List.drop_eq_getElem_cons (by omega), List.getElem?_eq_getElem (by omega)]
    rfl
  | @nd op l r lo a b h hl' hr i j =>
    have f1 : (patSh fs l).forms.length = a := by rw [patSh_forms hl' (by omega), List.length_take, List.length_drop]; omega
    have e : (t.drop lo).take (a + b) = (t.drop lo).take a ++ (t.drop (lo + a)).take b := by rw [List.take_add, List.drop_drop]
    have la : ((t.drop lo).take a).length = a := by rw [List.length_take, List.length_drop]; omega
    have c1 : cut ((t.drop lo).take (a + b)) none (some ((patSh fs l).forms.length : Int)) = (t.drop lo).take a := by
      rw [e, f1]
      conv => lhs; rw [show (a : Int) = (((t.drop lo).take a).length : Int) by rw [la]]
      exact cut_left _ _
    have c2 : cut ((t.drop lo).take (a + b)) (some ((patSh fs l).forms.length : Int)) none = (t.drop (lo + a)).take b := by
      rw [e, f1]
      conv => lhs; rw [show (a : Int) = (((t.drop lo).take a).length : Int) by rw [la]]
      exact cut_right _ _
    show (if op = "&" then Pat.both (patSh fs l) (patSh fs r) else .either (patSh fs l) (patSh fs r)).holds _ = some (if op = "&" then evS t l && evS t r else evS t l || evS t r)
    by_cases eo : op = "&"
    · rw [if_pos eo, if_pos eo]
      show (((patSh fs l).holds (cut _ none (some ((patSh fs l).forms.length : Int)))).bind fun b' => if b' = true then (patSh fs r).holds (cut _ (some ((patSh fs l).forms.length : Int)) none) else some false) = _
      rw [c1, c2, i (by omega), j (by omega), bs]
      cases evS t l <;> rfl
    · rw [if_neg eo, if_neg eo]
      show (((patSh fs l).holds (cut _ none (some ((patSh fs l).forms.length : Int)))).bind fun b' => if b' = true then some true else (patSh fs r).holds (cut _ (some ((patSh fs l).forms.length : Int)) none)) = _
      rw [c1, c2, i (by omega), j (by omega), bs]
      cases evS t l <;> rfl
theorem evS_map {fs : List (List Str)} (F : List Str → Bool) {s : Shp} {lo n : Nat} (h : ShR s lo n) (hl : lo + n ≤ fs.length) : evS (fs.map F) s = evP F (patSh fs s) := by
  have h1 := holds_any (t := fs.map F) h (by rw [List.length_map]; exact hl) (shDep s) (Nat.le_refl _)
  have h2 := holds_sh F h hl (shDep s) (Nat.le_refl _)
  exact Option.some.inj (h1.symm.trans h2)

/-! ### joined by signs that may refuse -/
theorem exB_k {ε α β : Type} {a : α} {k : α → Option (Except ε β)} : exB (.ok a) k = k a := rfl
theorem amp_x {l r : Pat} (h1 : okP l) (h2 : okP r) : m_Pattern___and___vx l r = some (if 3 < l.forms.length + r.forms.length then .error (some 3) else .ok (.both l r)) ∧ m_Pattern___or___vx l r = some (if 3 < l.forms.length + r.forms.length then .error (some 3) else .ok (.either l r)) := by
  unfold m_Pattern___and___vx m_Pattern___or___vx m_Both___init___vx m_Either___init___vx
  rw [pat_forms_eq h1, bs, pat_forms_eq h2, bs]
  by_cases h : 3 < l.forms.length + r.forms.length
  · rw [ite_ya (show (3 : Int) < (l.forms.length : Int) + (r.forms.length : Int) by omega), if_pos h, if_pos h]
    exact ⟨rfl, rfl⟩
  · rw [ite_no (show ¬ (3 : Int) < (l.forms.length : Int) + (r.forms.length : Int) by omega), if_neg h, if_neg h]
    exact ⟨rfl, rfl⟩
theorem built_x {fs : List (List Str)} (hf : ∀ ps ∈ fs, alw ps ∧ 1 ≤ ps.length ∧ ps.length ≤ 4) {s : Shp} {lo n : Nat} (h : ShR s lo n) (hl : lo + n ≤ fs.length) (hn : n ≤ 4) (hfl : fs.length ≤ 100) : ∀ m, shDep s ≤ m → m_law_built_vx m s fs = some (if 3 < n then .error (some 3) else .ok (patSh fs s)) := by
  induction h with
  | lf k =>
    intro m hm
    obtain ⟨m, rfl⟩ : ∃ q, m = q + 1 := ⟨m - 1, by have : 1 ≤ m := hm; omega⟩
    show (if decide ((1 : Int) = 1) = true then (some (k : Int)).bind _ else _) = _
    rw [ite_ya rfl, bs, atI_nn (by omega) (by omega), Int.toNat_natCast, List.getElem?_eq_getElem (by omega), bs, if_neg (by decide)]
    show _ = some (Except.ok (Pat.form ((fs[(k : Int).toNat]?).getD [])))
    rw [Int.toNat_natCast, List.getElem?_eq_getElem (by omega)]
    rfl
  | @nd op l r lo a b h hl' hr i j =>
    intro m hm
    have hd : max (shDep l) (shDep r) + 1 ≤ m := hm
    have pa := hl'.pos
    have pb := hr.pos
    obtain ⟨m, rfl⟩ : ∃ q, m = q + 1 := ⟨m - 1, by omega⟩
    show (if decide ((3 : Int) = 1) = true then _ else (some l).bind _) = _
    rw [ite_no (by decide), bs, i (by omega) (by omega) m (by omega), bs, if_neg (by omega), exB_k]
    show ((some r).bind _) = _
    rw [bs, j (by omega) (by omega) m (by omega), bs, if_neg (by omega), exB_k]
    show ((some op).bind _) = _
    rw [bs]
    have o1 := patSh_ok hf hl' (by omega) (by omega)
    have o2 := patSh_ok hf hr (by omega) (by omega)
    have f1 : (patSh fs l).forms.length = a := by rw [patSh_forms hl' (by omega), List.length_take, List.length_drop]; omega
    have f2 : (patSh fs r).forms.length = b := by rw [patSh_forms hr (by omega), List.length_take, List.length_drop]; omega
    obtain ⟨x1, x2⟩ := amp_x o1 o2
    rw [f1, f2] at x1 x2
    show _ = some (if 3 < a + b then Except.error (some 3) else Except.ok (if op = "&" then Pat.both (patSh fs l) (patSh fs r) else .either (patSh fs l) (patSh fs r)))
    rcases h with e | e
    · rw [ite_ya e, if_pos e, x1, bs]
      by_cases q : 3 < a + b
      · rw [if_pos q]; rfl
      · rw [if_neg q]; rfl
    · rw [ite_no (by rw [e]; exact amp_ne), x2, bs]
      rw [show (if op = "&" then Pat.both (patSh fs l) (patSh fs r) else Pat.either (patSh fs l) (patSh fs r)) = Pat.either (patSh fs l) (patSh fs r) from if_neg (by rw [e]; exact amp_ne)]
      by_cases q : 3 < a + b
      · rw [if_pos q]; rfl
      · rw [if_neg q]; rfl
theorem refused_ok {fs : List (List Str)} (hf : ∀ ps ∈ fs, alw ps ∧ 1 ≤ ps.length ∧ ps.length ≤ 4) {s : Shp} (h : ShR s 0 fs.length) (h4 : fs.length = 4) : m_law_refused s fs = some true := by
  unfold m_law_refused
  rw [built_x hf h (by omega) (by omega) (by omega) 4 (by have := h.dep_le; omega), bs, if_pos (by omega)]
  show gd (shp (dO dI) (some 3)) _ = _
  rw [gd_true (show shp (dO dI) (some 3) = true by decide +kernel), gd_true (show shp (dO dI) (some 3) = true by decide +kernel)]
  rfl
theorem cls_and {fs : List (List Str)} {s : Shp} {lo n : Nat} (h : ShR s lo n) : decide ((patSh fs s).cls = "Both") = s.isOp "&" ∧ decide ((patSh fs s).cls = "Either") = s.isOp "|" ∧ shOkS s = true := by
  have d1 : ("Form" : Str) ≠ "Both" ∧ ("Form" : Str) ≠ "Either" ∧ ("Both" : Str) ≠ "Either" ∧ ("Either" : Str) ≠ "Both" := by decide +kernel
  cases h with
  | lf k =>
    refine ⟨?_, ?_, rfl⟩
    · show decide (("Form" : Str) = "Both") = decide ((none : Option Str) = some "&")
      rw [decide_eq_false d1.1]; rfl
    · show decide (("Form" : Str) = "Either") = decide ((none : Option Str) = some "|")
      rw [decide_eq_false d1.2.1]; rfl
  | @nd op l r lo a b h hl hr =>
    have e : (patSh fs (.nd op l r)).cls = if op = "&" then "Both" else "Either" := by
      show (if op = "&" then Pat.both (patSh fs l) (patSh fs r) else .either (patSh fs l) (patSh fs r)).cls = _
      split <;> rfl
    rw [e]
    rcases h with z | z
    · subst z
      rw [if_pos rfl]
      refine ⟨?_, ?_, ?_⟩
      · rw [decide_eq_true rfl]
        show true = decide ((some "&" : Option Str) = some "&")
        decide +kernel
      · rw [decide_eq_false d1.2.2.1]
        show false = decide ((some "&" : Option Str) = some "|")
        decide +kernel
      · show SeqAt.shaped (PyData.str "&") = true
        decide +kernel
    · subst z
      rw [if_neg amp_ne]
      refine ⟨?_, ?_, ?_⟩
      · rw [decide_eq_false d1.2.2.2]
        show false = decide ((some "|" : Option Str) = some "&")
        decide +kernel
      · rw [decide_eq_true rfl]
        show true = decide ((some "|" : Option Str) = some "|")
        decide +kernel
      · show SeqAt.shaped (PyData.str "|") = true
        decide +kernel
theorem shp_str {P : Pat} (h : okP P) : okS (pTxt P) := lw_ok (pTxt_ok h.fs h.few).2
theorem contains_none (a : Pat) : m_pat___contains__ a "" = some false := by
  unfold m_pat___contains__
  rw [is_line_str, bs, show isL "" = false by decide +kernel]
  rfl
open Classical in
noncomputable def fitG (w : List Nat) (ps : List Str) : Bool := decide (Mt (cellsT ps) w)
theorem evP_false5 : ∀ a : Pat, evP (fun _ => false) a = false
  | .form _ => rfl
  | .both l r => by show (evP _ l && evP _ r) = false; rw [evP_false5 l]; rfl
  | .either l r => by show (evP _ l || evP _ r) = false; rw [evP_false5 l, evP_false5 r]; rfl
open Classical in
theorem fits_any {ps : List Str} (h : alw ps) {z : Str} (hz : z.length ≤ 500) : m_law_fits ps z = some (if z = "" then false else fitG (cl z) ps) := by
  rw [fits_eq (by omega) fun c hc => by have := part_len (alw_part h c hc); omega]
  by_cases e : z = ""
  · rw [if_pos e, decide_eq_false fun q => q.1 e]
  · rw [if_neg e]
    unfold fitG
    congr 1
    rw [decide_eq_decide, Mt_cells (alw_part h)]
    exact ⟨fun q => q.2, fun q => ⟨e, q⟩⟩
theorem eq_pat {P R : Pat} (h : okP P) (k : okP R) : m_Pattern___eq__ P R = some (decide (pTxt P = pTxt R)) := by
  unfold m_Pattern___eq__
  rw [str_eq h, bs, str_eq k, bs]
theorem right5 {p : Int × Int} {fs : List (List Str)} {s : Shp} (hf : ∀ ps ∈ fs, alw ps ∧ 1 ≤ ps.length ∧ ps.length ≤ 4) (hs : ShR s 0 fs.length) (h1 : 1 ≤ fs.length) (h4 : fs.length ≤ 4) : Ok (m_law_right p fs s) fun r => r.1 = true := by
  have hd := hs.dep_le
  unfold m_law_right
  refine Ok.gd (fitsE_ok (by omega)) (Ok.bde (comp_map (fun ps => ps) fun ps hp => ?_) ?_)
  · unfold m_law_right_b1
    obtain ⟨a, b, c⟩ := hf ps hp
    rw [law_form_eq a c b]; rfl
  rw [show fs.map (fun ps => ps) = fs from List.map_id' fs]
  have okf : ∀ ps ∈ fs, okP (.form ps) := fun ps hp => form_okP (hf ps hp).1 (hf ps hp).2.1 (hf ps hp).2.2
  have shJ : shp (dL dS) (fs.map fun ps => Txt.join ("" : Str) ps) = true := shpD (i := sL) fun z hz => by
    obtain ⟨ps, hp, rfl⟩ := List.mem_map.mp hz
    exact shp_str (okf ps hp)
  have stA : ∀ {f : List Str → Unit → Option (Option Str × Unit)}, (∀ ps, f ps () = (m_pat___str__ (Pat.form ps)).bind fun t => some (some t, ())) → comp f fs () = some (fs.map (fun ps => Txt.join ("" : Str) ps), ()) := fun {f} h => comp_map _ fun ps hp => by
    rw [h, str_eq (okf ps hp)]; rfl
  by_cases e4 : fs.length = 4
  · rw [ite_ya (show (fs.length : Int) = 4 by omega)]
    refine Ok.gd (fitsE_ok (by omega)) (Ok.bde (comp_map (fun ps => Txt.join ("" : Str) ps) fun ps hp => ?_) (Ok.bde (refused_ok hf hs e4) ?_))
    · unfold m_law_right_b2
      rw [gd_true (join_lw (alw_part (hf ps hp).1) (hf ps hp).2.2).1]
    · refine Ok.bde (a := true) ?_ (Ok.sm rfl)
      rw [if_pos rfl, gd_true (fitsE_ok (by show fs.length ≤ _; omega)), show comp m_law_right_b5 ((fs, ()) : List (List Str) × Unit).1 () = _ from stA fun ps => rfl, bs, gd_true shJ, gd_true shJ, decide_eq_true rfl]
  · rw [ite_no (show ¬ (fs.length : Int) = 4 by omega)]
    have n3 : fs.length ≤ 3 := by omega
    have hP : okP (patSh fs s) := patSh_ok hf hs (by omega) (by omega)
    have eF : (patSh fs s).forms = fs := by rw [patSh_forms hs (by omega), List.drop_zero, List.take_length]
    have eB : m_law_built 4 s fs = some (patSh fs s) := built_eq12 hf hs (by omega) n3 (by omega) 4 (by omega)
    refine Ok.bde eB (Ok.bde (str_eq hP) (Ok.bde (shown_eq hf hs (by omega) h4 4 (by omega)) ?_))
    rw [if_neg (by rw [decide_eq_true rfl]; decide)]
    refine Ok.bde (pat_forms_eq hP) ?_
    rw [eF]
    refine Ok.gd (fitsE_ok (by omega)) (Ok.bde (stA fun ps => rfl) (Ok.gd (fitsE_ok (by show fs.length ≤ _; omega)) (Ok.bde (stA fun ps => rfl) (Ok.gd shJ (Ok.gd shJ ?_)))))
    rw [if_neg (by rw [decide_eq_true rfl]; decide)]
    obtain ⟨c1, c2, c3⟩ := cls_and (fs := fs) hs
    refine Ok.gd c3 ?_
    rw [c1, if_neg (by rw [decide_eq_true rfl]; decide)]
    refine Ok.gd c3 ?_
    rw [c2, if_neg (by rw [decide_eq_true rfl]; decide)]
    refine Ok.gd (by decide +kernel) (Ok.gd (by decide +kernel) ?_)
    refine Ok.bd (Ok.loopN (fun _ _ => True) trivial fun pre x post _ e _ => ?_) ?_
    · obtain ⟨a1, a2, a3, a4⟩ := rng_at e
      unfold m_law_right_b9
      refine Ok.gd (rgOk_ok (by omega) (by omega) (by omega) (by omega)) (Ok.gd (fitsE_ok (by rw [rng_len]; omega)) ?_)
      refine Ok.bde (comp_map (fun k => decide ((x / (([1, 2, 4] : List Int)[k.toNat]?).getD 1) % 2 = 1)) fun k hk => ?_) ?_
      · obtain ⟨k1, k2⟩ := rng_mem.mp hk
        unfold m_law_right_b8
        have k3 : k = 0 ∨ k = 1 ∨ k = 2 := by omega
        rcases k3 with rfl | rfl | rfl <;> rfl
      have lt : ((rng 0 (fs.length : Int)).map fun k => decide ((x / (([1, 2, 4] : List Int)[k.toNat]?).getD 1) % 2 = 1)).length = fs.length := by rw [List.length_map, rng_len]; omega
      generalize ((rng 0 (fs.length : Int)).map fun k => decide ((x / (([1, 2, 4] : List Int)[k.toNat]?).getD 1) % 2 = 1)) = t at lt
      have h1 : m_pat_holds (patSh fs s) t = some (evS t s) := by
        refine (patN_of hP.ht hP.few).trans ?_
        have := pholds_any hs (by omega) lt
        rwa [List.drop_zero, ← lt, List.take_length] at this
      refine Ok.bde h1 (Ok.bde (holds_any (t := t) hs (by omega) 4 (by omega)) ?_)
      rw [if_neg (by rw [decide_eq_true rfl]; decide)]
      exact Ok.sm ⟨_, rfl, trivial⟩
    · rintro _ ⟨_, rfl, _⟩
      show Ok ((loopC (m_law_right_b11 fs s (patSh fs s)) fs p).bind _) _
      refine Ok.bd (Ok.loopN (fun _ _ => True) trivial fun pre ps post q e _ => ?_) ?_
      · have hp : ps ∈ fs := by rw [e]; simp
        unfold m_law_right_b11
        refine Ok.bd (line_ok (alw_part (hf ps hp).1) (hf ps hp).2.2) fun t1 ⟨g1, l1⟩ => Ok.bd (spoiled_ok g1 (by omega)) fun t2 ⟨g2, l2⟩ => ?_
        have lz : t2.1.length ≤ 500 := by omega
        refine Ok.bde (a := if t2.1 = "" then false else fitB (patSh fs s) (cl t2.1)) ?_ (Ok.gd (fitsE_ok (by omega)) (Ok.bde (comp_map (fun ps => if t2.1 = "" then false else fitG (cl t2.1) ps) fun ps hp => ?_) ?_))
        · by_cases z : t2.1 = ""
          · rw [if_pos z, z]; exact contains_none _
          · rw [if_neg z]
            refine contains_eq hP g2 ?_ lz
            have hne : cl t2.1 ≠ [] := fun q => z (cl_inj (by rw [q]; decide +kernel))
            have := List.length_pos_iff.mpr hne
            rw [cl_len]; omega
        · unfold m_law_right_b10
          rw [fits_any (hf ps hp).1 lz]; rfl
        refine Ok.bde (holds_sh (fun ps => if t2.1 = "" then false else fitG (cl t2.1) ps) hs (by omega) 4 (by omega)) ?_
        have ev : evP (fun ps => if t2.1 = "" then false else fitG (cl t2.1) ps) (patSh fs s) = if t2.1 = "" then false else fitB (patSh fs s) (cl t2.1) := by
          by_cases z : t2.1 = ""
          · simp only [if_pos z]; exact evP_false5 _
          · simp only [if_neg z]; rfl
        rw [ev, if_neg (by rw [decide_eq_true rfl]; decide)]
        exact Ok.sm ⟨_, rfl, trivial⟩
      · rintro _ ⟨q, rfl, _⟩
        refine Ok.bde (str_eq hP) (Ok.bde rfl ?_)
        rw [if_neg (by decide)]
        refine Ok.bde eB (Ok.bde (eq_pat hP hP) (Ok.sm (decide_eq_true rfl)))
theorem comp_all5 {α β S : Type} {f : α → S → Option (Option β × S)} {P : β → Prop} : ∀ {xs : List α} {s : S}, (∀ x ∈ xs, ∀ s, Ok (f x s) fun o => ∃ y, o.1 = some y ∧ P y) → Ok (comp f xs s) fun r => r.1.length = xs.length ∧ ∀ y ∈ r.1, P y
  | [], s, _ => Ok.sm ⟨rfl, fun y hy => absurd hy List.not_mem_nil⟩
  | x :: xs, s, h => by
    show Ok ((f x s).bind _) _
    refine Ok.bd (h x List.mem_cons_self s) fun o ⟨y, ho, hy⟩ => Ok.bd (comp_all5 fun z hz => h z (List.mem_cons_of_mem _ hz)) fun r ⟨hl, hr⟩ => ?_
    rw [ho]
    refine Ok.sm ⟨by show (y :: r.1).length = _; rw [List.length_cons, hl, List.length_cons], fun z hz => ?_⟩
    rcases List.mem_cons.mp hz with rfl | hz
    · exact hy
    · exact hr z hz
theorem x_alw : alw ["x"] := by
  intro k s hk
  match k, hk with
  | 0, hk => cases hk; exact .inr (.inr (.inr ⟨fun c hc => (by decide +kernel : ∀ c ∈ cl ("x" : Str), c ∈ cl SG) c hc, by decide +kernel, by decide +kernel, fun t h0 => absurd h0 (by decide)⟩))
theorem math (ns : List Int) (h : ns.length ≤ 63) : m_law ns = some true := by
  unfold m_law
  have hm : 0 ≤ maxI 1 (minI 24 (ns.length : Int)) ∧ maxI 1 (minI 24 (ns.length : Int)) ≤ 24 := by
    unfold maxI minI
    split <;> split <;> omega
  refine Ok.eq (Ok.bde (init_eq x_alw (by decide) (by decide)) (Ok.gd (rgOk_ok (by omega) (by omega) (by omega) (by omega)) ?_))
  have okx : okP (.form ["x"]) := form_okP x_alw (by decide) (by decide)
  refine Ok.bd (Ok.loopN (fun _ (q : Pat × Str) => okP q.1 ∧ pTxt q.1 = q.2) ⟨okx, by decide +kernel⟩ fun pre k post q e ⟨hq, tq⟩ => ?_) ?_
  · have hk := (rng_at e).2.2
    unfold m_law_b3
    refine Ok.bd (pool_ok (by omega) (by omega)) fun p1 _ => Ok.bd (take_ok (by decide) (by decide)) fun d1 h1 => Ok.gd (rgOk_ok (by omega) (by omega) (by omega) (by omega)) (Ok.gd (fitsE_ok (by rw [rng_len]; omega)) ?_)
    refine Ok.bd (comp_all5 (P := fun ps => alw ps ∧ 1 ≤ ps.length ∧ ps.length ≤ 4) fun x _ s => ?_) fun t60 ⟨lf, hfs⟩ => ?_
    · unfold m_law_b1
      exact Ok.bd rich_alw fun r hr => Ok.sm ⟨r.1, rfl, hr⟩
    rw [rng_len] at lf
    have n1 : 1 ≤ t60.1.length := by omega
    have n4 : t60.1.length ≤ 4 := by omega
    refine Ok.bd (shape_ok n1 (by omega)) fun t hsh => Ok.bd (right5 hfs hsh n1 n4) fun u hu => ?_
    rw [hu, if_neg (by decide)]
    by_cases h3 : t60.1.length < 4
    · rw [ite_ya (show (t60.1.length : Int) < 4 by omega)]
      refine Ok.gd (fitsE_ok (by omega)) (Ok.bde (comp_map (fun ps => ps) fun ps hp => ?_) ?_)
      · unfold m_law_b2
        obtain ⟨a, b, c⟩ := hfs ps hp
        rw [law_form_eq a c b]; rfl
      rw [show t60.1.map (fun ps => ps) = t60.1 from List.map_id' _]
      have hd := hsh.dep_le
      have hP : okP (patSh t60.1 t.1) := patSh_ok hfs hsh (by omega) (by omega)
      have eS := shown_eq hfs hsh (by omega) n4 4 (by omega)
      refine Ok.bde (built_eq12 hfs hsh (by omega) (by omega) (by omega) 4 (by omega)) (Ok.bde (eq_pat hP hq) (Ok.bde eS ?_))
      rw [tq, if_neg (by rw [decide_eq_true rfl]; decide)]
      exact Ok.bde eS (Ok.sm ⟨_, rfl, hP, rfl⟩)
    · rw [ite_no (show ¬ (t60.1.length : Int) < 4 by omega)]
      exact Ok.sm ⟨_, rfl, hq, tq⟩
  · rintro _ ⟨s, rfl, _⟩
    exact Ok.sm rfl

def fn : List He.DefD := [⟨("is_line", none), "is_line", "is_line", defArgs s_is_line, defBody s_is_line, defScope s_is_line, [], []⟩,
  ⟨("is_allowed", none), "is_allowed", "is_allowed", defArgs s_is_allowed, defBody s_is_allowed, defScope s_is_allowed, [], []⟩,
  ⟨("Form", some "__init__"), "__init__", "Form.__init__", defArgs s_Form___init__, defBody s_Form___init__, defScope s_Form___init__, [], []⟩,
  ⟨("_law_pool", none), "_law_pool", "_law_pool", defArgs s_law_pool, defBody s_law_pool, defScope s_law_pool, [], []⟩,
  ⟨("_law_take", none), "_law_take", "_law_take", defArgs s_law_take, defBody s_law_take, defScope s_law_take, [], []⟩,
  ⟨("_law_shape", none), "_law_shape", "_law_shape", defArgs s_law_shape, defBody s_law_shape, defScope s_law_shape, [], []⟩,
  ⟨("_law_all_signs", none), "_law_all_signs", "_law_all_signs", defArgs s_law_all_signs, defBody s_law_all_signs, defScope s_law_all_signs, [], []⟩,
  ⟨("_law_text", none), "_law_text", "_law_text", defArgs s_law_text, defBody s_law_text, defScope s_law_text, [], []⟩,
  ⟨("_law_rich", none), "_law_rich", "_law_rich", defArgs s_law_rich, defBody s_law_rich, defScope s_law_rich, [], []⟩,
  ⟨("Form", some "__str__"), "__str__", "Form.__str__", defArgs s_Form___str__, defBody s_Form___str__, defScope s_Form___str__, [], []⟩,
  ⟨("Both", some "__str__"), "__str__", "Both.__str__", defArgs s_Both___str__, defBody s_Both___str__, defScope s_Both___str__, [], []⟩,
  ⟨("Either", some "__str__"), "__str__", "Either.__str__", defArgs s_Either___str__, defBody s_Either___str__, defScope s_Either___str__, [], []⟩,
  ⟨("Pattern", some "__eq__"), "__eq__", "Pattern.__eq__", defArgs s_Pattern___eq__, defBody s_Pattern___eq__, defScope s_Pattern___eq__, [], []⟩,
  ⟨("Form", some "forms"), "forms", "Form.forms", defArgs s_Form_forms, defBody s_Form_forms, defScope s_Form_forms, [], []⟩,
  ⟨("Either", some "forms"), "forms", "Either.forms", defArgs s_Either_forms, defBody s_Either_forms, defScope s_Either_forms, [], []⟩,
  ⟨("Both", some "forms"), "forms", "Both.forms", defArgs s_Both_forms, defBody s_Both_forms, defScope s_Both_forms, [], []⟩,
  ⟨("Either", some "__init__"), "__init__", "Either.__init__", defArgs s_Either___init__, defBody s_Either___init__, defScope s_Either___init__, [], []⟩,
  ⟨("Pattern", some "__or__"), "__or__", "Pattern.__or__", defArgs s_Pattern___or__, defBody s_Pattern___or__, defScope s_Pattern___or__, [], []⟩,
  ⟨("Both", some "__init__"), "__init__", "Both.__init__", defArgs s_Both___init__, defBody s_Both___init__, defScope s_Both___init__, [], []⟩,
  ⟨("Pattern", some "__and__"), "__and__", "Pattern.__and__", defArgs s_Pattern___and__, defBody s_Pattern___and__, defScope s_Pattern___and__, [], []⟩,
  ⟨("_law_built", none), "_law_built", "_law_built", defArgs s_law_built, defBody s_law_built, defScope s_law_built, [], []⟩,
  ⟨("_law_form", none), "_law_form", "_law_form", defArgs s_law_form, defBody s_law_form, defScope s_law_form, [], []⟩,
  ⟨("_law_shown", none), "_law_shown", "_law_shown", defArgs s_law_shown, defBody s_law_shown, defScope s_law_shown, [], []⟩,
  ⟨("_law_spoiled", none), "_law_spoiled", "_law_spoiled", defArgs s_law_spoiled, defBody s_law_spoiled, defScope s_law_spoiled, [], []⟩,
  ⟨("Form", some "__contains__"), "__contains__", "Pattern.__contains__", defArgs s_Form___contains__, defBody s_Form___contains__, defScope s_Form___contains__, [], []⟩,
  ⟨("Both", some "__contains__"), "__contains__", "Pattern.__contains__", defArgs s_Both___contains__, defBody s_Both___contains__, defScope s_Both___contains__, [], []⟩,
  ⟨("Either", some "__contains__"), "__contains__", "Pattern.__contains__", defArgs s_Either___contains__, defBody s_Either___contains__, defScope s_Either___contains__, [], []⟩,
  ⟨("Form", some "holds"), "holds", "Form.holds", defArgs s_Form_holds, defBody s_Form_holds, defScope s_Form_holds, [], []⟩,
  ⟨("Either", some "holds"), "holds", "Either.holds", defArgs s_Either_holds, defBody s_Either_holds, defScope s_Either_holds, [], []⟩,
  ⟨("Both", some "holds"), "holds", "Both.holds", defArgs s_Both_holds, defBody s_Both_holds, defScope s_Both_holds, [], []⟩,
  ⟨("cells_of", none), "cells_of", "cells_of", defArgs s_cells_of, defBody s_cells_of, defScope s_cells_of, [], []⟩,
  ⟨("closed", none), "closed", "closed", defArgs s_closed, defBody s_closed, defScope s_closed, [], []⟩,
  ⟨("started", none), "started", "started", defArgs s_started, defBody s_started, defScope s_started, [], []⟩,
  ⟨("Form", some "parts"), "parts", "Form.parts", defArgs s_Form_parts, defBody s_Form_parts, defScope s_Form_parts, [], []⟩,
  ⟨("takes", none), "takes", "takes", defArgs s_takes, defBody s_takes, defScope s_takes, [], []⟩,
  ⟨("moved", none), "moved", "moved", defArgs s_moved, defBody s_moved, defScope s_moved, [], []⟩,
  ⟨("is_done", none), "is_done", "is_done", defArgs s_is_done, defBody s_is_done, defScope s_is_done, [], []⟩,
  ⟨("_law_refused", none), "_law_refused", "_law_refused", defArgs s_law_refused, defBody s_law_refused, defScope s_law_refused, [], []⟩,
  ⟨("_law_holds", none), "_law_holds", "_law_holds", defArgs s_law_holds, defBody s_law_holds, defScope s_law_holds, [], []⟩,
  ⟨("_law_line", none), "_law_line", "_law_line", defArgs s_law_line, defBody s_law_line, defScope s_law_line, [], []⟩,
  ⟨("_law_takes", none), "_law_takes", "_law_takes", defArgs s_law_takes, defBody s_law_takes, defScope s_law_takes, [], []⟩,
  ⟨("_law_ends", none), "_law_ends", "_law_ends", defArgs s_law_ends, defBody s_law_ends, defScope s_law_ends, [], []⟩,
  ⟨("_law_fits", none), "_law_fits", "_law_fits", defArgs s_law_fits, defBody s_law_fits, defScope s_law_fits, [], []⟩,
  ⟨("_law_right", none), "_law_right", "_law_right", defArgs s_law_right, defBody s_law_right, defScope s_law_right, [], []⟩,
  ⟨("law", none), "law", "law", defArgs s_law, defBody s_law, defScope s_law, [], []⟩]
def fa : List He.Fa := [.glo "is_line", .glo "is_allowed", .glo "_law_pool", .glo "_law_take", .glo "_law_shape", .glo "_law_all_signs", .glo "_law_text", .glo "_law_rich", .glo "_law_built", .glo "_law_form", .glo "_law_shown", .glo "_law_spoiled", .glo "cells_of", .glo "closed", .glo "started", .glo "takes", .glo "moved", .glo "is_done", .glo "_law_refused", .glo "_law_holds", .glo "_law_line", .glo "_law_takes", .glo "_law_ends", .glo "_law_fits", .glo "_law_right", .glo "law", .glo "Form", .cls "Form", .noat "Form" "pieces", .mkr "Form", .meth "Form" "__str__", .meth "Form" "forms", .meth "Form" "__contains__", .meth "Form" "holds", .meth "Form" "parts", .glo "Both", .cls "Both", .noat "Both" "left", .noat "Both" "right", .meth "Both" "__str__", .meth "Both" "forms", .mkr "Both", .meth "Both" "__contains__", .meth "Both" "holds", .glo "Either", .cls "Either", .noat "Either" "left", .noat "Either" "right", .meth "Either" "__str__", .meth "Either" "forms", .mkr "Either", .meth "Either" "__contains__", .meth "Either" "holds", .glo "Pattern", .cls "Pattern", .meth "Pattern" "__eq__", .meth "Pattern" "__or__", .meth "Pattern" "__and__", .glo "NoForm", .free "int", .free "isinstance", .free "len", .free "list", .free "max", .free "min", .free "range", .free "str", .free "tuple", .str "ANY_CELL" "<any>", .str "DIGITS_CELL" "<digits>", .str "DIGIT_SIGNS" "0123456789", .glo "FREE_CELLS", .str "LETTER_SIGNS" "ABCDEFGHIJKLMNOPQRSTUVWXYZabcdefghijklmnopqrstuvwxyz", .int "MOST_FORMS" 3, .int "MOST_PARTS" 4, .int "MOST_SIGNS" 4, .str "SIGNS" " #-.0123456789:>ABCDEFGHIJKLMNOPQRSTUVWXYZabcdefghijklmnopqrstuvwxyz", .str "WORD_CELL" "<word>"]
def fw_NoForm (K : PySem.W.Frag) : Prop := He.fnW K ("NoForm", some "__init__") = some (("__init__" : Str), ("NoForm.__init__" : Str), defArgs si_NoForm, FuncBody.stmts (defBody si_NoForm), defScope si_NoForm, mainGlobals, [(("__class__" : Str), ccOf K "NoForm")], builtinsNs)
def tabs (P : Program) (K : PySem.W.Frag) : Bool := (patB K && (He.tupB K "FREE_CELLS" [.str "<digits>", .str "<word>", .str "<any>"] && (errB P K "NoForm" "NoForm.__init__" ["at"] && (exmB K "NoForm" "NoForm" && (patEB K && true)))))
theorem txHead {P : Program} {K : PySem.W.Frag} {h : Heap} {mg : Str → Option Value} (X : K.In h) (G : h.Ns mainGlobals mg) (c : He.SaysD fa fn K) (t : tabs P K = true) (e_NoForm : fw_NoForm K) : Tx P K mg := {
  F_is_line := fd_of c 0
  g_is_line := He.glo_ok X G (c.fact 0)
  F_is_allowed := fd_of c 1
  g_is_allowed := He.glo_ok X G (c.fact 1)
  F_Form___init__ := fd_of c 2
  F_law_pool := fd_of c 3
  g_law_pool := He.glo_ok X G (c.fact 2)
  F_law_take := fd_of c 4
  g_law_take := He.glo_ok X G (c.fact 3)
  F_law_shape := fd_of c 5
  g_law_shape := He.glo_ok X G (c.fact 4)
  F_law_all_signs := fd_of c 6
  g_law_all_signs := He.glo_ok X G (c.fact 5)
  F_law_text := fd_of c 7
  g_law_text := He.glo_ok X G (c.fact 6)
  F_law_rich := fd_of c 8
  g_law_rich := He.glo_ok X G (c.fact 7)
  F_Form___str__ := fd_of c 9
  F_Both___str__ := fd_of c 10
  F_Either___str__ := fd_of c 11
  F_Pattern___eq__ := fd_of c 12
  F_Form_forms := fd_of c 13
  F_Either_forms := fd_of c 14
  F_Both_forms := fd_of c 15
  F_Either___init__ := fd_of c 16
  F_Pattern___or__ := fd_of c 17
  F_Both___init__ := fd_of c 18
  F_Pattern___and__ := fd_of c 19
  F_law_built := fd_of c 20
  g_law_built := He.glo_ok X G (c.fact 8)
  F_law_form := fd_of c 21
  g_law_form := He.glo_ok X G (c.fact 9)
  F_law_shown := fd_of c 22
  g_law_shown := He.glo_ok X G (c.fact 10)
  F_law_spoiled := fd_of c 23
  g_law_spoiled := He.glo_ok X G (c.fact 11)
  F_Form___contains__ := fd_of c 24
  F_Both___contains__ := fd_of c 25
  F_Either___contains__ := fd_of c 26
  F_Form_holds := fd_of c 27
  F_Either_holds := fd_of c 28
  F_Both_holds := fd_of c 29
  F_cells_of := fd_of c 30
  g_cells_of := He.glo_ok X G (c.fact 12)
  F_closed := fd_of c 31
  g_closed := He.glo_ok X G (c.fact 13)
  F_started := fd_of c 32
  g_started := He.glo_ok X G (c.fact 14)
  F_Form_parts := fd_of c 33
  F_takes := fd_of c 34
  g_takes := He.glo_ok X G (c.fact 15)
  F_moved := fd_of c 35
  g_moved := He.glo_ok X G (c.fact 16)
  F_is_done := fd_of c 36
  g_is_done := He.glo_ok X G (c.fact 17)
  F_law_refused := fd_of c 37
  g_law_refused := He.glo_ok X G (c.fact 18)
  F_law_holds := fd_of c 38
  g_law_holds := He.glo_ok X G (c.fact 19)
  F_law_line := fd_of c 39
  g_law_line := He.glo_ok X G (c.fact 20)
  F_law_takes := fd_of c 40
  g_law_takes := He.glo_ok X G (c.fact 21)
  F_law_ends := fd_of c 41
  g_law_ends := He.glo_ok X G (c.fact 22)
  F_law_fits := fd_of c 42
  g_law_fits := He.glo_ok X G (c.fact 23)
  F_law_right := fd_of c 43
  g_law_right := He.glo_ok X G (c.fact 24)
  F_law := fd_of c 44
  g_law := He.glo_ok X G (c.fact 25)
  c_Form := He.cls_ok (c.fact 27)
  gc_Form := He.glo_ok X G (c.fact 26)
  na_Form_pieces := He.noat_ok (c.fact 28)
  mk_Form := He.mkr_ok (c.fact 29)
  me_Form___str__ := He.meth_ok (c.fact 30)
  me_Form_forms := He.meth_ok (c.fact 31)
  me_Form___contains__ := He.meth_ok (c.fact 32)
  me_Form_holds := He.meth_ok (c.fact 33)
  me_Form_parts := He.meth_ok (c.fact 34)
  c_Both := He.cls_ok (c.fact 36)
  gc_Both := He.glo_ok X G (c.fact 35)
  na_Both_left := He.noat_ok (c.fact 37)
  na_Both_right := He.noat_ok (c.fact 38)
  me_Both___str__ := He.meth_ok (c.fact 39)
  me_Both_forms := He.meth_ok (c.fact 40)
  mk_Both := He.mkr_ok (c.fact 41)
  me_Both___contains__ := He.meth_ok (c.fact 42)
  me_Both_holds := He.meth_ok (c.fact 43)
  c_Either := He.cls_ok (c.fact 45)
  gc_Either := He.glo_ok X G (c.fact 44)
  na_Either_left := He.noat_ok (c.fact 46)
  na_Either_right := He.noat_ok (c.fact 47)
  me_Either___str__ := He.meth_ok (c.fact 48)
  me_Either_forms := He.meth_ok (c.fact 49)
  mk_Either := He.mkr_ok (c.fact 50)
  me_Either___contains__ := He.meth_ok (c.fact 51)
  me_Either_holds := He.meth_ok (c.fact 52)
  c_Pattern := He.cls_ok (c.fact 54)
  gc_Pattern := He.glo_ok X G (c.fact 53)
  me_Pattern___eq__ := He.meth_ok (c.fact 55)
  me_Pattern___or__ := He.meth_ok (c.fact 56)
  me_Pattern___and__ := He.meth_ok (c.fact 57)
  pf := patB_ok (He.ba t).1 (He.cls_ok (c.fact 27)) (He.cls_ok (c.fact 36)) (He.cls_ok (c.fact 45))
  er_NoForm := er_ok X G (He.ba (He.ba (He.ba t).2).2).1 e_NoForm
  xm_NoForm_NoForm := exmB_ok (He.ba (He.ba (He.ba (He.ba t).2).2).2).1
  pe := patEB_ok (He.ba (He.ba (He.ba (He.ba (He.ba t).2).2).2).2).1
  gx_NoForm := He.glo_ok X G (c.fact 58)
  k_ANY_CELL := He.str_ok X G (c.fact 68)
  k_DIGITS_CELL := He.str_ok X G (c.fact 69)
  k_DIGIT_SIGNS := He.str_ok X G (c.fact 70)
  g_FREE_CELLS := He.glo_ok X G (c.fact 71)
  q_FREE_CELLS := fun F => ⟨_, _, rfl, He.tupB_ok (He.ba (He.ba t).2).1 F, (.cons rfl (.cons rfl (.cons rfl .nil)))⟩
  k_LETTER_SIGNS := He.str_ok X G (c.fact 72)
  k_MOST_FORMS := He.int_ok X G (c.fact 73)
  k_MOST_PARTS := He.int_ok X G (c.fact 74)
  k_MOST_SIGNS := He.int_ok X G (c.fact 75)
  k_SIGNS := He.str_ok X G (c.fact 76)
  k_WORD_CELL := He.str_ok X G (c.fact 77)
  n_int := He.free_ok X G (c.fact 59)
  n_isinstance := He.free_ok X G (c.fact 60)
  n_len := He.free_ok X G (c.fact 61)
  n_list := He.free_ok X G (c.fact 62)
  n_max := He.free_ok X G (c.fact 63)
  n_min := He.free_ok X G (c.fact 64)
  n_range := He.free_ok X G (c.fact 65)
  n_str := He.free_ok X G (c.fact 66)
  n_tuple := He.free_ok X G (c.fact 67)
}

theorem law_fn {P : Program} {w : World} {K : PySem.W.Frag} {h : Heap} {mg : Str → Option Value} {f : Addr} (X : K.In h) (G : h.Ns mainGlobals mg) (hfa : mg ("law" : Str) = some (.ref f)) (c : He.SaysD fa fn K) (t : tabs P K = true) (e_NoForm : fw_NoForm K) :
    ∃ (K' : PySem.W.Frag) (fd : FuncData) (sp : L2.Sp), K'.In h ∧ (∀ (s : Shared) (v : Value), BindsTo s fd ⟨[v], []⟩ [("_law_script", v)]) ∧ (∀ (H : Hp) (a : Addr) (ns : List Int), ns.length ≤ 63 → Only H → SqL K' H a (ns.map V.int) → sp [.ref a] H (fun v _ => v = .bl true) fun _ _ _ => False) ∧ ∀ base : Heap, K'.In base → base.Ns mainGlobals mg → FnOk P w K' mg base CX0 15 f fd ["_law_script"] sp := by
  have T : Tx P K mg := txHead X G c t e_NoForm
  have e := hfa.symm.trans T.g_law
  cases e
  have b := FunD.bindsA (ps := ["_law_script"]) T.F_law fun _ _ _ _ _ _ us hl => match us, hl with | [_], _ => rfl
  refine ⟨K, _, sp_law K, X, fun s v => b s [v] rfl, fun H a ns hl _ hS => ?_, fun base _ _ => ok_law T⟩
  exact ⟨H, .ref a, ns, true, rfl, Same.refl H, ⟨a, rfl, hS⟩, math ns hl, fun v F' H' _ hv => hv⟩
end Law
open PySem PySem.W PySem.Calls PyProof.Rows
theorem PySem.Challenge.cw_gluedlines_k05_patterns_joined_holds : PySem.Challenge.rw_gluedlines_k05_patterns_joined.Holds := by
  w_on; o_law; k_head; (case hw => w_witness2)
  k_fill
  refine L2.walk_ofE (l := PySem.Challenge.rw_gluedlines_k05_patterns_joined) (n := 63) (k := 15) (x := "_law_script") (CX := L2.CX0) rfl (by decide) (by rfl) ⟨rfl, by decide, by decide⟩ ?F (fun _ _ _ _ z => z)
  intro w mg fa h Y G hmg
  refine Law.law_fn (PySem.W.kIn_of Y) G hmg ?c ?t ?eNoForm
  case c => (unfold He.SaysD; kernel_rfl)
  case t => kernel_rfl
  case eNoForm => (unfold Law.fw_NoForm; kernel_rfl)
#print axioms PySem.Challenge.cw_gluedlines_k05_patterns_joined_holds
