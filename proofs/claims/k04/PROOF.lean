import PyProof.Rows.All
import Wide.All
import OpenK.AllK
import Wide.FinOn
import KE.KStateDown
import HandS.ForMost
import HandS.Exc
import HandS.WordsExc
import HandS.Defaults
import HandS.Conv
import HandS.Flow
import HandS.IsInst
import HandS.Codes
import HandS.Dict
import HandS.Star
import HandS.Iter
import HandS.Zip
import HandS.Text
import HandS.TupAny
import HandS.Style
import HandS.SortInts
import PyProof.Rows.TmSorted
import PyProof.Rows.SortStr
import HandS.Head0
import HandS.Head1
import HandS.Head2
import HandS.HeadEnd
import HandS.HeadHook1
import HandS.HeadHook2
import PySem.Challenge.RW_gluedlines_k04_lines_in_forms
set_option Elab.async false
set_option linter.all false
set_option maxRecDepth 100000
set_option maxHeartbeats 4000000
namespace Gl
open PySem PySem.Spec PyProof.Rows L2

/-! ## partial results -/
def gd {α : Type} (b : Bool) (x : Option α) : Option α := match b with
  | true => x
  | false => none
theorem gd_some {α : Type} {b : Bool} {x : Option α} {r : α} (h : gd b x = some r) : b = true ∧ x = some r := by
  cases b with
  | true => exact ⟨rfl, h⟩
  | false => cases h
theorem gd_true {α : Type} {b : Bool} {x : Option α} (h : b = true) : gd b x = x := by rw [h]; rfl
theorem bd_some {α β : Type} {x : Option α} {k : α → Option β} {r : β} (h : x.bind k = some r) : ∃ a, x = some a ∧ k a = some r := by
  cases x with
  | none => cases h
  | some a => exact ⟨a, rfl, h⟩
/-- how a block ends: it goes on, it breaks off its loop, or it returns -/
inductive Ctl (S R : Type) where
  | nx (s : S) | bk (s : S) | rt (r : R)

/-! ## values that stand for Lean's -/
theorem pGet {α β : Type} {R : α → β → Prop} : ∀ {xs : List α} {ys : List β} {i : Nat} {y : β}, Paired R xs ys → ys[i]? = some y → ∃ x, xs[i]? = some x ∧ R x y
  | _, _, _, _, .nil, e => by simp at e
  | _, _, 0, _, .cons r _, e => by simp at e; subst e; exact ⟨_, rfl, r⟩
  | _, _, i + 1, y, .cons _ t, e => by
    obtain ⟨x, h1, h2⟩ := pGet (i := i) (y := y) t (by simpa using e)
    exact ⟨x, by simpa using h1, h2⟩
theorem pGetL {α β : Type} {R : α → β → Prop} : ∀ {xs : List α} {ys : List β} {i : Nat} {x : α}, Paired R xs ys → xs[i]? = some x → ∃ y, ys[i]? = some y ∧ R x y
  | _, _, _, _, .nil, e => by simp at e
  | _, _, 0, _, .cons r _, e => by simp at e; subst e; exact ⟨_, rfl, r⟩
  | _, _, i + 1, y, .cons _ t, e => by
    obtain ⟨x, h1, h2⟩ := pGetL (i := i) (x := y) t (by simpa using e)
    exact ⟨x, by simpa using h1, h2⟩
theorem pApp {α β : Type} {R : α → β → Prop} : ∀ {xs xs' : List α} {ys ys' : List β}, Paired R xs ys → Paired R xs' ys' → Paired R (xs ++ xs') (ys ++ ys')
  | _, _, _, _, .nil, s => s
  | _, _, _, _, .cons r t, s => .cons r (pApp t s)
theorem pDrop {α β : Type} {R : α → β → Prop} : ∀ {xs : List α} {ys : List β} (n : Nat), Paired R xs ys → Paired R (xs.drop n) (ys.drop n)
  | _, _, 0, r => r
  | _, _, _ + 1, .nil => .nil
  | _, _, n + 1, .cons _ t => pDrop n t
theorem pTake {α β : Type} {R : α → β → Prop} : ∀ {xs : List α} {ys : List β} (n : Nat), Paired R xs ys → Paired R (xs.take n) (ys.take n)
  | _, _, 0, _ => .nil
  | _, _, _ + 1, .nil => .nil
  | _, _, n + 1, .cons r t => .cons r (pTake n t)
theorem pSet {α β : Type} {R : α → β → Prop} {x : α} {y : β} (r : R x y) : ∀ {xs : List α} {ys : List β} (i : Nat), Paired R xs ys → Paired R (xs.set i x) (ys.set i y)
  | _, _, _, .nil => .nil
  | _, _, 0, .cons _ t => .cons r t
  | _, _, i + 1, .cons q t => .cons q (pSet r i t)
theorem pLen {α β : Type} {R : α → β → Prop} {xs : List α} {ys : List β} (h : Paired R xs ys) : xs.length = ys.length := h.length
theorem pMap {α β γ : Type} {R : α → β → Prop} {f : β → γ} {S : α → γ → Prop} (h : ∀ a b, R a b → S a (f b)) : ∀ {xs : List α} {ys : List β}, Paired R xs ys → Paired S xs (ys.map f)
  | _, _, .nil => .nil
  | _, _, .cons r t => .cons (h _ _ r) (pMap h t)

/-- how values stand for Lean's, in what stands for good -/
structure R (α : Type) where
  r : PySem.W.Frag → Hp → V → α → Prop
  mono : ∀ {K : PySem.W.Frag} {F F' : Hp} {v : V} {a : α}, Same F F' → r K F v a → r K F' v a
def qI : R Int := ⟨fun _ _ v i => v = .int i, fun _ h => h⟩
def qB : R Bool := ⟨fun _ _ v i => v = .bl i, fun _ h => h⟩
def qS : R Str := ⟨fun _ _ v i => v = .str i, fun _ h => h⟩
def qN : R Unit := ⟨fun _ _ v _ => v = .non, fun _ h => h⟩
def qO {α : Type} (A : R α) : R (Option α) := ⟨fun K F v i => match i with
  | none => v = .non
  | some a => A.r K F v a, fun {K F F' v a} e h => by
    cases a with
    | none => exact h
    | some a => exact A.mono e h⟩
/-- all of a row -/
abbrev Row {α : Type} (A : R α) (K : PySem.W.Frag) (F : Hp) (vs : List V) (xs : List α) : Prop := Paired (fun v x => A.r K F v x) vs xs
theorem Row.mono {α : Type} {A : R α} {K : PySem.W.Frag} {F F' : Hp} {vs : List V} {xs : List α} (e : Same F F') (h : Row A K F vs xs) : Row A K F' vs xs := Paired.mapP h fun _ _ r => A.mono e r
theorem same_t {K : PySem.W.Frag} {H H' : Hp} {a : Addr} {xs : List V} (e : Same H H') (h : SqT K H a xs) : SqT K H' a xs := by
  rcases h with (h | ⟨o, h⟩) | h
  · exact .inl (.inl (e _ _ h))
  · exact .inl (.inr ⟨o, e _ _ h⟩)
  · exact .inr h
/-- a list, a tuple, one of both -/
def qL {α : Type} (A : R α) : R (List α) := ⟨fun K F v xs => ∃ p vs, v = .ref p ∧ F p = some (.lst vs) ∧ Row A K F vs xs, fun e ⟨p, vs, h1, h2, h3⟩ => ⟨p, vs, h1, e _ _ h2, Row.mono e h3⟩⟩
def qT {α : Type} (A : R α) : R (List α) := ⟨fun K F v xs => ∃ p vs, v = .ref p ∧ SqT K F p vs ∧ Row A K F vs xs, fun e ⟨p, vs, h1, h2, h3⟩ => ⟨p, vs, h1, same_t e h2, Row.mono e h3⟩⟩
def qQ {α : Type} (A : R α) : R (List α) := ⟨fun K F v xs => (qL A).r K F v xs ∨ (qT A).r K F v xs, fun e h => h.elim (fun h => .inl ((qL A).mono e h)) fun h => .inr ((qT A).mono e h)⟩
/-- tuples of two, of three -/
def q2 {α β : Type} (A : R α) (B : R β) : R (α × β) := ⟨fun K F v x => ∃ p u w, v = .ref p ∧ SqT K F p [u, w] ∧ A.r K F u x.1 ∧ B.r K F w x.2, fun e ⟨p, u, w, h1, h2, h3, h4⟩ => ⟨p, u, w, h1, same_t e h2, A.mono e h3, B.mono e h4⟩⟩
def q3 {α β γ : Type} (A : R α) (B : R β) (C : R γ) : R (α × β × γ) := ⟨fun K F v x => ∃ p u w z, v = .ref p ∧ SqT K F p [u, w, z] ∧ A.r K F u x.1 ∧ B.r K F w x.2.1 ∧ C.r K F z x.2.2, fun e ⟨p, u, w, z, h1, h2, h3, h4, h5⟩ => ⟨p, u, w, z, h1, same_t e h2, A.mono e h3, B.mono e h4, C.mono e h5⟩⟩

/-! ## frozen and owned -/
/-- F: what stands for good within H; F0, H0: at the def's entry; P: what the def may change of it -/
structure Sx (P : Addr → Prop) (F0 H0 F H : Hp) : Prop where
  le : Same F0 F
  sub : Same F H
  new : ∀ a o, F a = some o → F0 a = none → H0 a = none
  same : ∀ a o, H0 a = some o → ¬ P a → H a = some o
  live : ∀ a, P a → H a ≠ none
/-- an object of the def's own: it may change it -/
structure Ow (P : Addr → Prop) (H0 F H : Hp) (p : Addr) (o : HO) : Prop where
  fr : F p = none
  at_ : H p = some o
  mine : H0 p = none ∨ P p
abbrev P0 : Addr → Prop := fun _ => False
section
variable {P P' : Addr → Prop} {F0 H0 F H F' H' : Hp} {p q : Addr} {o u : HO}
theorem Sx.refl (h : Same F H) (l : ∀ a, P a → H a ≠ none) : Sx P F H F H := ⟨Same.refl F, h, fun a o e n => absurd (n.symm.trans e) (fun z => nomatch z), fun _ _ e _ => e, l⟩
theorem Sx.refl0 (h : Same F H) : Sx P0 F H F H := Sx.refl h fun _ z => z.elim
theorem Sx.free (S : Sx P F0 H0 F H) (h : H q = none) : F q = none := S.sub.free h
theorem Sx.free0 (S : Sx P F0 H0 F H) (h : H q = none) : H0 q = none := by
  cases e : H0 q with
  | none => rfl
  | some o =>
    have np : ¬ P q := fun z => S.live q z h
    have := S.same q o e np
    rw [h] at this
    cases this
theorem Sx.leN (S : Sx P F0 H0 F H) (h : H q = none) : Same F (upd F q o) := fun a u e => by
  rw [upd_ne (ne_of_none e (S.free h))]
  exact e
/-- a new object that is not kept -/
theorem Sx.temp (S : Sx P F0 H0 F H) (h : H q = none) : Sx P F0 H0 F (upd H q o) := by
  refine ⟨S.le, fun a u e => ?_, S.new, fun a u e n => ?_, fun a z => ?_⟩
  · rw [upd_ne (ne_of_none (S.sub a u e) h)]; exact S.sub a u e
  · rw [upd_ne (ne_of_none (S.same a u e n) h)]; exact S.same a u e n
  · have l := S.live a z
    have ne : a ≠ q := fun e => l (by rw [e]; exact h)
    rw [upd_ne ne]; exact l
/-- a new object that stands for good -/
theorem Sx.alloc (S : Sx P F0 H0 F H) (h : H q = none) : Sx P F0 H0 (upd F q o) (upd H q o) := by
  refine ⟨S.le.trans (S.leN h), fun a u e => ?_, fun a u e n => ?_, (S.temp h).same, (S.temp h).live⟩
  · by_cases z : a = q
    · subst z; rw [upd_same] at e ⊢; exact e
    · rw [upd_ne z] at e ⊢; exact S.sub a u e
  · by_cases z : a = q
    · subst z; exact S.free0 h
    · rw [upd_ne z] at e; exact S.new a u e n
/-- an object of one's own is changed -/
theorem Sx.put (S : Sx P F0 H0 F H) (w : Ow P H0 F H p o) : Sx P F0 H0 F (upd H p u) := by
  refine ⟨S.le, fun a v e => ?_, S.new, fun a v e n => ?_, fun a z => ?_⟩
  · have ne : a ≠ p := fun z => by rw [z, w.fr] at e; cases e
    rw [upd_ne ne]; exact S.sub a v e
  · have ne : a ≠ p := fun z => by
      rcases w.mine with m | m
      · rw [z, m] at e; cases e
      · exact n (z ▸ m)
    rw [upd_ne ne]; exact S.same a v e n
  · by_cases e : a = p
    · subst e; rw [upd_same]; exact fun h => nomatch h
    · rw [upd_ne e]; exact S.live a z
/-- .. is let stand for good -/
theorem Sx.freeze (S : Sx P F0 H0 F H) (w : Ow P H0 F H p o) (h0 : H0 p = none) : Sx P F0 H0 (upd F p o) H := by
  refine ⟨S.le.trans fun a u e => ?_, fun a u e => ?_, fun a u e n => ?_, S.same, S.live⟩
  · rw [upd_ne (ne_of_none e w.fr)]; exact e
  · by_cases z : a = p
    · subst z; rw [upd_same] at e; cases e; exact w.at_
    · rw [upd_ne z] at e; exact S.sub a u e
  · by_cases z : a = p
    · subst z; exact h0
    · rw [upd_ne z] at e; exact S.new a u e n
theorem Ow.leF (w : Ow P H0 F H p o) : Same F (upd F p o) := fun a u e => by rw [upd_ne (ne_of_none e w.fr)]; exact e
/-- behind a call that may change P' -/
theorem Sx.call (S : Sx P F0 H0 F H) (c : Sx P' F H F' H') (h : ∀ a, P' a → P a ∨ H0 a = none) : Sx P F0 H0 F' H' := by
  refine ⟨S.le.trans c.le, c.sub, fun a u e n => ?_, fun a u e n => ?_, fun a z => ?_⟩
  · cases q : F a with
    | some o => exact S.new a o q n
    | none => exact S.free0 (c.new a u e q)
  · refine c.same a u (S.same a u e n) fun z => ?_
    rcases h a z with z | z
    · exact n z
    · rw [z] at e; cases e
  · by_cases y : P' a
    · exact c.live a y
    · have l := S.live a z
      cases e : H a with
      | none => exact absurd e l
      | some o =>
        rw [c.same a o e y]
        exact fun h => nomatch h
theorem Sx.call0 (S : Sx P F0 H0 F H) (c : Sx P0 F H F' H') : Sx P F0 H0 F' H' := S.call c fun _ z => z.elim
theorem Sx.call1 (S : Sx P F0 H0 F H) (c : Sx (fun a => a = p) F H F' H') (w : Ow P H0 F H p o) : Sx P F0 H0 F' H' := S.call c fun a z => by
  subst z
  exact w.mine.symm
theorem Ow.call (w : Ow P H0 F H p o) (c : Sx P' F H F' H') (n : ¬ P' p) : Ow P H0 F' H' p o := by
  refine ⟨?_, c.same p o w.at_ n, w.mine⟩
  cases q : F' p with
  | none => rfl
  | some u =>
    have z := c.new p u q w.fr
    rw [w.at_] at z
    cases z
theorem Ow.call0 (w : Ow P H0 F H p o) (c : Sx P0 F H F' H') : Ow P H0 F' H' p o := w.call c fun z => z
theorem Ow.ne (w : Ow P H0 F H p o) (h : H q = none) : p ≠ q := ne_of_none w.at_ h
theorem Ow.temp (w : Ow P H0 F H p o) (h : H q = none) : Ow P H0 F (upd H q u) p o := ⟨w.fr, by rw [upd_ne (w.ne h)]; exact w.at_, w.mine⟩
theorem Ow.alloc (w : Ow P H0 F H p o) (h : H q = none) : Ow P H0 (upd F q u) (upd H q u) p o := ⟨by rw [upd_ne (w.ne h)]; exact w.fr, by rw [upd_ne (w.ne h)]; exact w.at_, w.mine⟩
theorem Ow.put (w : Ow P H0 F H p o) : Ow P H0 F (upd H p u) p u := ⟨w.fr, upd_same, w.mine⟩
theorem Ow.putO {o' : HO} (w : Ow P H0 F H p o) (n : p ≠ q) : Ow P H0 F (upd H q o') p o := ⟨w.fr, by rw [upd_ne n]; exact w.at_, w.mine⟩
theorem Ow.freezeO {o' : HO} (w : Ow P H0 F H p o) (n : p ≠ q) : Ow P H0 (upd F q o') H p o := ⟨by rw [upd_ne n]; exact w.fr, w.at_, w.mine⟩
/-- a new object of one's own -/
theorem Sx.own (S : Sx P F0 H0 F H) (h : H q = none) : Ow P H0 F (upd H q o) q o := ⟨S.free h, upd_same, .inl (S.free0 h)⟩
/-- inside a callee's eyes: an own object handed in -/
theorem Ow.arg (w : Ow P H0 F H p o) : Ow (fun a => a = p) H F H p o := ⟨w.fr, w.at_, .inr rfl⟩
theorem Ow.back {o' : HO} (w : Ow P H0 F H p o) (z : Ow (fun a => a = p) H F' H' p o') : Ow P H0 F' H' p o' := ⟨z.fr, z.at_, w.mine⟩
end
end Gl

namespace Gl
open PySem PySem.Spec PyProof.Rows L2

/-! ## tests -/
theorem if_b {β : Type} {b : Bool} {A B : Prop} {m1 m2 : Option β} {r : β} (hm : (if b = true then m1 else m2) = some r) (h1 : b = true → m1 = some r → A) (h2 : b = false → m2 = some r → B) : if b = true then A else B := by
  cases b with
  | true => exact h1 rfl hm
  | false => exact h2 rfl hm
theorem if_j {b : Bool} {A B : Prop} (h1 : b = true → A) (h2 : b = false → B) : if b = true then A else B := by
  cases b with
  | true => exact h1 rfl
  | false => exact h2 rfl
/-- and, or: the right side is looked at alone, with whatever is wanted of it; what is known behind both is told once -/
theorem and_j {b : Bool} {u : (Bool → Hp → Prop) → Prop} {Q : Bool → Hp → Prop} {H : Hp} (J : Bool → Hp → Prop) (h1 : b = true → ∀ Q' : Bool → Hp → Prop, (∀ c H', J c H' → Q' c H') → u Q') (h2 : b = false → J false H) (k : ∀ c H', J c H' → Q c H') : if b = true then u Q else Q false H := by
  cases b with
  | true => exact h1 rfl Q k
  | false => exact k _ _ (h2 rfl)
theorem or_j {b : Bool} {u : (Bool → Hp → Prop) → Prop} {Q : Bool → Hp → Prop} {H : Hp} (J : Bool → Hp → Prop) (h1 : b = false → ∀ Q' : Bool → Hp → Prop, (∀ c H', J c H' → Q' c H') → u Q') (h2 : b = true → J true H) (k : ∀ c H', J c H' → Q c H') : if b = true then Q true H else u Q := by
  cases b with
  | true => exact k _ _ (h2 rfl)
  | false => exact h1 rfl Q k
theorem andV_j {b : Bool} {u : VK → Prop} {Q : VK} {H : Hp} (J : V → Hp → Prop) (h1 : b = true → ∀ Q' : VK, (∀ c H', J c H' → Q' c H') → u Q') (h2 : b = false → J (.bl false) H) (k : ∀ c H', J c H' → Q c H') : if b = true then u Q else Q (.bl false) H := by
  cases b with
  | true => exact h1 rfl Q k
  | false => exact k _ _ (h2 rfl)
theorem orV_j {b : Bool} {u : VK → Prop} {Q : VK} {H : Hp} (J : V → Hp → Prop) (h1 : b = false → ∀ Q' : VK, (∀ c H', J c H' → Q' c H') → u Q') (h2 : b = true → J (.bl true) H) (k : ∀ c H', J c H' → Q c H') : if b = true then Q (.bl true) H else u Q := by
  cases b with
  | true => exact k _ _ (h2 rfl)
  | false => exact h1 rfl Q k
/-- .. where the right side leaves the heap as it is -/
theorem and_p {b c : Bool} {u : (Bool → Hp → Prop) → Prop} {Q : Bool → Hp → Prop} {H : Hp} (hu : b = true → ∀ Q' : Bool → Hp → Prop, Q' c H → u Q') (k : Q (b && c) H) : if b = true then u Q else Q false H := by
  cases b with
  | true => exact hu rfl Q k
  | false => exact k
theorem or_p {b c : Bool} {u : (Bool → Hp → Prop) → Prop} {Q : Bool → Hp → Prop} {H : Hp} (hu : b = false → ∀ Q' : Bool → Hp → Prop, Q' c H → u Q') (k : Q (b || c) H) : if b = true then Q true H else u Q := by
  cases b with
  | true => exact k
  | false => exact hu rfl Q k
theorem andV_p {b c : Bool} {u : VK → Prop} {Q : VK} {H : Hp} (hu : b = true → ∀ Q' : VK, Q' (.bl c) H → u Q') (k : Q (.bl (b && c)) H) : if b = true then u Q else Q (.bl false) H := by
  cases b with
  | true => exact hu rfl Q k
  | false => exact k
theorem orV_p {b c : Bool} {u : VK → Prop} {Q : VK} {H : Hp} (hu : b = false → ∀ Q' : VK, Q' (.bl c) H → u Q') (k : Q (.bl (b || c)) H) : if b = true then Q (.bl true) H else u Q := by
  cases b with
  | true => exact k
  | false => exact hu rfl Q k

/-! ## operators on plain values -/
section
variable {X : Cx}
theorem op_eqI : OpR X (compareOp .Eq) (rI0 fun i j => .bl (decide (i = j))) := opB0 fun _ _ _ _ _ _ _ h => eq_int (by rw [Bool.beq_eq_decide_eq]; exact h)
theorem op_neI : OpR X (compareOp .NotEq) (rI0 fun i j => .bl (!decide (i = j))) := opB0 fun _ _ _ _ _ _ _ h => ne_int (by rw [bne, Bool.beq_eq_decide_eq]; exact h)
def rS0 (g : Str → Str → V) : R2 := fun x y H Q => ∃ i j, x = .str i ∧ y = .str j ∧ Q (g i j) H
theorem dec_strV {i j : Str} : decide (V.str i = V.str j) = decide (i = j) := by
  by_cases e : i = j
  · subst e; simp
  · rw [decide_eq_false e, decide_eq_false fun z => e (V.str.inj z)]
theorem dec_blV {i j : Bool} : decide (V.bl i = V.bl j) = decide (i = j) := by cases i <;> cases j <;> rfl
theorem op_eqS : OpR X (compareOp .Eq) (rS0 fun i j => .bl (decide (i = j))) := by
  intro pins s σ H x y v u Q I rx ry h
  obtain ⟨i, j, rfl, rfl, q⟩ := h
  exact op_eq pins s σ H _ _ v u Q I rx ry ⟨rfl, by rw [dec_strV]; exact q⟩
theorem op_neS : OpR X (compareOp .NotEq) (rS0 fun i j => .bl (!decide (i = j))) := by
  intro pins s σ H x y v u Q I rx ry h
  obtain ⟨i, j, rfl, rfl, q⟩ := h
  exact op_ne pins s σ H _ _ v u Q I rx ry ⟨rfl, by rw [dec_strV]; exact q⟩
def rB0 (g : Bool → Bool → V) : R2 := fun x y H Q => ∃ i j, x = .bl i ∧ y = .bl j ∧ Q (g i j) H
theorem op_eqB : OpR X (compareOp .Eq) (rB0 fun i j => .bl (decide (i = j))) := by
  intro pins s σ H x y v u Q I rx ry h
  obtain ⟨i, j, rfl, rfl, q⟩ := h
  exact op_eq pins s σ H _ _ v u Q I rx ry ⟨rfl, by rw [dec_blV]; exact q⟩
theorem op_neB : OpR X (compareOp .NotEq) (rB0 fun i j => .bl (!decide (i = j))) := by
  intro pins s σ H x y v u Q I rx ry h
  obtain ⟨i, j, rfl, rfl, q⟩ := h
  exact op_ne pins s σ H _ _ v u Q I rx ry ⟨rfl, by rw [dec_blV]; exact q⟩
end
/-- i stands in j -/
def inS (i j : Str) : Bool := !(Builtin.Str.occurrences j i 0 j.length 1).isEmpty
def mulOk (a b : Int) : Bool := (decide (-(2 ^ 64) < a) && decide (a < 2 ^ 64)) || (decide (-(2 ^ 64) < b) && decide (b < 2 ^ 64))
theorem mulOk_of {a b : Int} (h : mulOk a b = true) : CMul a b := by
  unfold mulOk at h
  simp only [Bool.or_eq_true, Bool.and_eq_true, decide_eq_true_eq] at h
  exact h
def divOk (b : Int) : Bool := decide (0 < b) && decide (b < 1073741824)
theorem divOk_of {a b : Int} (h : divOk b = true) : CDiv a b := by
  unfold divOk at h
  simp only [Bool.and_eq_true, decide_eq_true_eq] at h
  exact h
def modOk (b : Int) : Bool := decide (0 < b)
theorem modOk_of {b : Int} (h : modOk b = true) : 0 < b := of_decide_eq_true h
def powOk (a b : Int) : Bool := decide (0 ≤ b) && (decide (b ≤ 1000000) && decide (a.natAbs < 2 ^ 64))
theorem powOk_of {a b : Int} (h : powOk a b = true) : CPow a b := by
  unfold powOk at h
  simp only [Bool.and_eq_true, decide_eq_true_eq] at h
  exact h
def catOk (a b : Str) : Bool := decide (a.length + b.length ≤ sizeLine)
theorem catOk_of {a b : Str} (h : catOk a b = true) : a.length + b.length ≤ sizeLine := of_decide_eq_true h
def fits {α : Type} (a : List α) : Bool := decide (a.length < sizeLine)
def fitsS (a : Str) : Bool := decide (a.length ≤ sizeLine)
theorem fitsS_of {a : Str} (h : fitsS a = true) : a.length ≤ sizeLine := of_decide_eq_true h
def fits2 {α : Type} (a b : List α) : Bool := decide (a.length + b.length ≤ sizeLine)
def ixS (s : Str) (i : Int) : Option Str := gd (fitsS s) ((atI s.cps.toList i).bind fun c => some ⟨#[c]⟩)
theorem ixS_some {s z : Str} {i : Int} (h : ixS s i = some z) : ∃ c, s.length ≤ sizeLine ∧ atI s.cps.toList i = some c ∧ z = ⟨#[c]⟩ := by
  obtain ⟨h1, h2⟩ := gd_some h
  obtain ⟨c, h3, h4⟩ := bd_some h2
  exact ⟨c, fitsS_of h1, h3, (Option.some.inj h4).symm⟩
/-- xs[lo:hi] -/
def cut {α : Type} (xs : List α) (lo hi : Option Int) : List α := (xs.drop (HT.sIx xs.length 0 lo)).take (HT.sIx xs.length xs.length hi - HT.sIx xs.length 0 lo)
def rng (a b : Int) : List Int := (List.range (b - a).toNat).map fun i => a + (i : Nat)
def maxI (i j : Int) : Int := if j > i then j else i
def minI (i j : Int) : Int := if j < i then j else i
def b2I (b : Bool) : Int := if b then 1 else 0
/-- the sgns of a text, one by one -/
def sgns (z : Str) : List Str := z.cps.toList.map fun c => ⟨#[c]⟩

/-! ## what is seen of rows -/
section
variable {α : Type} {A : R α} {K : PySem.W.Frag} {F H F0 H0 : Hp} {P : Addr → Prop} {v : V} {xs ys : List α} {Q : VK} {i : Int} {a : α} {p : Addr} {vs : List V}
def SeenL (A : R α) (K : PySem.W.Frag) (F H : Hp) (v : V) (xs : List α) : Prop := ∃ p vs, v = .ref p ∧ H p = some (.lst vs) ∧ Row A K F vs xs
def SeenR (A : R α) (K : PySem.W.Frag) (F H : Hp) (v : V) (xs : List α) : Prop := ∃ p vs, v = .ref p ∧ SqL K H p vs ∧ Row A K F vs xs
def SeenT (A : R α) (K : PySem.W.Frag) (F H : Hp) (v : V) (xs : List α) : Prop := ∃ p vs, v = .ref p ∧ SqT K H p vs ∧ Row A K F vs xs
def SeenQ (A : R α) (K : PySem.W.Frag) (F H : Hp) (v : V) (xs : List α) : Prop := SeenR A K F H v xs ∨ SeenT A K F H v xs
theorem SeenL.r (h : SeenL A K F H v xs) : SeenR A K F H v xs := let ⟨p, vs, h1, h2, h3⟩ := h; ⟨p, vs, h1, SqL.of h2, h3⟩
theorem Sx.l (S : Sx P F0 H0 F H) (r : (qL A).r K F v xs) : SeenL A K F H v xs := let ⟨p, vs, h1, h2, h3⟩ := r; ⟨p, vs, h1, S.sub _ _ h2, h3⟩
theorem Sx.t (S : Sx P F0 H0 F H) (r : (qT A).r K F v xs) : SeenT A K F H v xs := let ⟨p, vs, h1, h2, h3⟩ := r; ⟨p, vs, h1, same_t S.sub h2, h3⟩
theorem Sx.q (S : Sx P F0 H0 F H) (r : (qQ A).r K F v xs) : SeenQ A K F H v xs := r.elim (fun r => .inl (S.l r).r) fun r => .inr (S.t r)
theorem Ow.l (w : Ow P H0 F H p (.lst vs)) (r : Row A K F vs xs) : SeenL A K F H (.ref p) xs := ⟨p, vs, rfl, w.at_, r⟩
theorem SeenL.q (h : SeenL A K F H v xs) : SeenQ A K F H v xs := .inl h.r
theorem SeenR.q (h : SeenR A K F H v xs) : SeenQ A K F H v xs := .inl h
theorem SeenT.q (h : SeenT A K F H v xs) : SeenQ A K F H v xs := .inr h
theorem SeenQ.seq (h : SeenQ A K F H v xs) : ∃ p vs, v = .ref p ∧ (SqL K H p vs ∨ SqT K H p vs) ∧ Row A K F vs xs := by
  rcases h with ⟨p, vs, rfl, h, r⟩ | ⟨p, vs, rfl, h, r⟩
  · exact ⟨p, vs, rfl, .inl h, r⟩
  · exact ⟨p, vs, rfl, .inr h, r⟩
/-- the script -/
def qC : R (List Int) := ⟨fun K F v xs => ∃ p, v = .ref p ∧ SqL K F p (xs.map V.int), fun e ⟨p, h1, h2⟩ => ⟨p, h1, Same.seq e h2⟩⟩
theorem row_ints {K : PySem.W.Frag} {F : Hp} : ∀ xs : List Int, Row qI K F (xs.map V.int) xs
  | [] => .nil
  | _ :: xs => .cons rfl (row_ints xs)
theorem Sx.c {xs : List Int} (S : Sx P F0 H0 F H) (r : qC.r K F v xs) : SeenR qI K F H v xs := let ⟨p, h1, h2⟩ := r; ⟨p, _, h1, Same.seq S.sub h2, row_ints xs⟩
theorem row_at (r : Row A K F vs xs) (h : atI xs i = some a) : ∃ u, atI vs i = some u ∧ A.r K F u a := by
  unfold atI at h ⊢
  rw [pLen r]
  obtain ⟨j, h1, h2⟩ := bd_some h
  obtain ⟨u, h3, h4⟩ := pGet r h2
  exact ⟨u, by rw [h1]; exact h3, h4⟩
theorem row_cut (r : Row A K F vs xs) (lo hi : Option Int) : Row A K F (cutV vs lo hi) (cut xs lo hi) := by
  unfold cutV cut
  rw [pLen r]
  exact pTake _ (pDrop _ r)
theorem rd_ixL (s : SeenR A K F H v xs) (h : atI xs i = some a) (k : ∀ u, A.r K F u a → Q u H) : rIxL K v (.int i) H Q := by
  obtain ⟨p, vs, rfl, h1, r⟩ := s
  obtain ⟨u, h2, h3⟩ := row_at r h
  exact ⟨p, vs, i, u, rfl, rfl, h1, h2, k u h3⟩
theorem rd_ixT (s : SeenT A K F H v xs) (h : atI xs i = some a) (k : ∀ u, A.r K F u a → Q u H) : rIxT K v (.int i) H Q := by
  obtain ⟨p, vs, rfl, h1, r⟩ := s
  obtain ⟨u, h2, h3⟩ := row_at r h
  exact ⟨p, vs, i, u, rfl, rfl, h1, h2, k u h3⟩
theorem rd_ixQ (s : SeenQ A K F H v xs) (h : atI xs i = some a) (k : ∀ u, A.r K F u a → Q u H) : rIx K v (.int i) H Q := by
  rcases s with s | s
  · exact .inl (rd_ixL s h k)
  · exact .inr (.inl (rd_ixT s h k))
theorem rd_len (s : SeenQ A K F H v xs) (k : Q (.int (xs.length : Int)) H) : ∃ p ys, [v] = [V.ref p] ∧ (SqL K H p ys ∨ SqT K H p ys) ∧ Q (.int (ys.length : Int)) H := by
  obtain ⟨p, vs, rfl, h1, r⟩ := s.seq
  exact ⟨p, vs, rfl, h1, by rw [pLen r]; exact k⟩
/-- what is wanted of a new object; of a new list, tuple with such items -/
def nK (Q : VK) (H : Hp) (o : HO) : Prop := ∀ p, H p = none → Q (.ref p) (upd H p o)
def nL (A : R α) (K : PySem.W.Frag) (F : Hp) (Q : VK) (H : Hp) (xs : List α) : Prop := ∀ p us, H p = none → Row A K F us xs → Q (.ref p) (upd H p (.lst us))
def nT (A : R α) (K : PySem.W.Frag) (F : Hp) (Q : VK) (H : Hp) (xs : List α) : Prop := ∀ p us, H p = none → Row A K F us xs → Q (.ref p) (upd H p (.tup us))
theorem rd_slL {lo hi : Option Int} (s : SeenR A K F H v xs) (k : nL A K F Q H (cut xs lo hi)) : rSlL K v lo hi H Q := by
  obtain ⟨p, vs, rfl, h1, r⟩ := s
  exact ⟨p, vs, rfl, h1, fun q hq => k q _ hq (row_cut r lo hi)⟩
theorem rd_list (s : SeenQ A K F H v xs) (k : nL A K F Q H xs) : ∃ p ys, [v] = [V.ref p] ∧ (SqL K H p ys ∨ SqT K H p ys) ∧ ∀ l, H l = none → Q (.ref l) (upd H l (.lst ys)) := by
  obtain ⟨p, vs, rfl, h1, r⟩ := s.seq
  exact ⟨p, vs, rfl, h1, fun q hq => k q _ hq r⟩
theorem rd_tuple (s : SeenR A K F H v xs) (k : nT A K F Q H xs) : kTup K v H Q := by
  obtain ⟨p, vs, rfl, h1, r⟩ := s
  exact .inl ⟨p, vs, rfl, h1, fun q hq => k q _ hq r⟩
theorem rd_cat (s : SeenL A K F H v xs) {w : V} (t : SeenL A K F H w ys) (h : fits2 xs ys = true) (k : nL A K F Q H (xs ++ ys)) : rCat v w H Q := by
  obtain ⟨p, vs, rfl, h1, r⟩ := s
  obtain ⟨q, us, rfl, h2, r2⟩ := t
  exact ⟨p, q, vs, us, rfl, rfl, h1, h2, by rw [pLen r, pLen r2]; exact of_decide_eq_true h, fun z hz => k z _ hz (pApp r r2)⟩
theorem rd_app (w : Ow P H0 F H p (.lst vs)) (r : Row A K F vs xs) {y : V} (h : fits xs = true) (k : Q .non (upd H p (.lst (vs ++ [y])))) : rAppend (.ref p) [y] H Q :=
  ⟨p, vs, y, rfl, rfl, w.at_, by rw [pLen r]; exact of_decide_eq_true h, k⟩
theorem rd_extend (w : Ow P H0 F H p (.lst vs)) (r : Row A K F vs xs) {b : V} {ys : List α} (s : SeenL A K F H b ys) (h : fits2 xs ys = true) (k : ∀ us, Row A K F us ys → Q .non (upd H p (.lst (vs ++ us)))) : rExtend (.ref p) [b] H Q := by
  obtain ⟨q, us, rfl, h2, r2⟩ := s
  exact ⟨p, q, vs, us, rfl, rfl, w.at_, h2, by rw [pLen r, pLen r2]; exact of_decide_eq_true h, k us r2⟩
theorem Ow.ty (w : Ow P H0 F H p (.lst vs)) : tyV K "list" (.ref p) H := .inl ⟨rfl, vs, SqL.of w.at_⟩
end
/-! ### in -/
theorem inV_str {K : PySem.W.Frag} {F : Hp} {a : Str} : ∀ {vs : List V} {xs : List Str}, Row qS K F vs xs → inV (.str a) vs = decide (a ∈ xs) ∧ vs.all flatV = true
  | _, _, .nil => ⟨rfl, rfl⟩
  | v :: vs, x :: xs, .cons r t => by
    obtain ⟨h1, h2⟩ := inV_str (a := a) t
    cases (show v = .str x from r)
    refine ⟨?_, ?_⟩
    · show (eqV (.str x) (.str a) || inV (.str a) vs) = _
      rw [h1]
      show ((x == a) || decide (a ∈ xs)) = decide (a ∈ x :: xs)
      by_cases e : a = x
      · subst e; simp
      · have e2 : (x == a) = false := beq_eq_false_iff_ne.mpr (Ne.symm e)
        rw [e2]; simp [e]
    · show (flatV (.str x) && vs.all flatV) = true
      rw [h2]; rfl
theorem inV_int {K : PySem.W.Frag} {F : Hp} {a : Int} : ∀ {vs : List V} {xs : List Int}, Row qI K F vs xs → inV (.int a) vs = decide (a ∈ xs) ∧ vs.all flatV = true
  | _, _, .nil => ⟨rfl, rfl⟩
  | v :: vs, x :: xs, .cons r t => by
    obtain ⟨h1, h2⟩ := inV_int (a := a) t
    cases (show v = .int x from r)
    refine ⟨?_, ?_⟩
    · show (eqV (.int x) (.int a) || inV (.int a) vs) = _
      rw [h1]
      show ((x == a) || decide (a ∈ xs)) = decide (a ∈ x :: xs)
      by_cases e : a = x
      · subst e; simp
      · have e2 : (x == a) = false := beq_eq_false_iff_ne.mpr (Ne.symm e)
        rw [e2]; simp [e]
    · show (flatV (.int x) && vs.all flatV) = true
      rw [h2]; rfl
section
variable {K : PySem.W.Frag} {F H : Hp} {v : V} {Q : VK}
theorem rd_inS {xs : List Str} {a : Str} (s : SeenQ qS K F H v xs) (k : Q (.bl (decide (a ∈ xs))) H) : rIn K false (.str a) v H Q := by
  obtain ⟨p, vs, rfl, h1, r⟩ := s.seq
  obtain ⟨e1, e2⟩ := inV_str (a := a) r
  exact ⟨p, vs, rfl, h1, rfl, e2, by show Q (.bl (inV (.str a) vs)) H; rw [e1]; exact k⟩
theorem rd_niS {xs : List Str} {a : Str} (s : SeenQ qS K F H v xs) (k : Q (.bl (!decide (a ∈ xs))) H) : rIn K true (.str a) v H Q := by
  obtain ⟨p, vs, rfl, h1, r⟩ := s.seq
  obtain ⟨e1, e2⟩ := inV_str (a := a) r
  exact ⟨p, vs, rfl, h1, rfl, e2, by show Q (.bl (!inV (.str a) vs)) H; rw [e1]; exact k⟩
theorem rd_inI {xs : List Int} {a : Int} (s : SeenQ qI K F H v xs) (k : Q (.bl (decide (a ∈ xs))) H) : rIn K false (.int a) v H Q := by
  obtain ⟨p, vs, rfl, h1, r⟩ := s.seq
  obtain ⟨e1, e2⟩ := inV_int (a := a) r
  exact ⟨p, vs, rfl, h1, rfl, e2, by show Q (.bl (inV (.int a) vs)) H; rw [e1]; exact k⟩
theorem rd_niI {xs : List Int} {a : Int} (s : SeenQ qI K F H v xs) (k : Q (.bl (!decide (a ∈ xs))) H) : rIn K true (.int a) v H Q := by
  obtain ⟨p, vs, rfl, h1, r⟩ := s.seq
  obtain ⟨e1, e2⟩ := inV_int (a := a) r
  exact ⟨p, vs, rfl, h1, rfl, e2, by show Q (.bl (!inV (.int a) vs)) H; rw [e1]; exact k⟩
end
/-! ### == of data -/
/-- what stands for Lean's in the library's data -/
structure Dat {α : Type} (A : R α) where
  d : α → PyData
  dp : ∀ {K : PySem.W.Frag} {F : Hp} {v : V} {a : α}, A.r K F v a → Dp K F v (d a)
  eq : ∀ a b : α, PyData.eqv (d a) (d b) = true ↔ a = b
mutual
theorem Dp.mono {K : PySem.W.Frag} {F F' : Hp} (e : Same F F') : ∀ {v : V} {d : PyData}, Dp K F v d → Dp K F' v d
  | _, _, .non => .non
  | _, _, .bl b => .bl b
  | _, _, .int i => .int i
  | _, _, .str x => .str x
  | _, _, .lst h a => .lst (Same.seq e h) (DpAll.mono e a)
  | _, _, .tup h a => .tup (same_t e h) (DpAll.mono e a)
theorem DpAll.mono {K : PySem.W.Frag} {F F' : Hp} (e : Same F F') : ∀ {vs : List V} {ds : List PyData}, DpAll K F vs ds → DpAll K F' vs ds
  | _, _, .nil => .nil
  | _, _, .cons h a => .cons (Dp.mono e h) (DpAll.mono e a)
end
def dI : Dat qI := ⟨.int, fun {K F v a} h => by cases (show v = .int a from h); exact .int a, fun a b => by simp [PyData.eqv]⟩
def dB : Dat qB := ⟨.bool, fun {K F v a} h => by cases (show v = .bl a from h); exact .bl a, fun a b => by simp [PyData.eqv]⟩
def dS : Dat qS := ⟨.str, fun {K F v a} h => by cases (show v = .str a from h); exact .str a, fun a b => by simp [PyData.eqv]⟩
theorem dpAll {α : Type} {A : R α} (D : Dat A) {K : PySem.W.Frag} {F : Hp} : ∀ {vs : List V} {xs : List α}, Row A K F vs xs → DpAll K F vs (xs.map D.d)
  | _, _, .nil => .nil
  | _, _, .cons r t => .cons (D.dp r) (dpAll D t)
theorem eqvAll_iff {α : Type} {A : R α} (D : Dat A) : ∀ xs ys : List α, PyData.eqvAll (xs.map D.d) (ys.map D.d) = true ↔ xs = ys
  | [], [] => by simp [PyData.eqvAll]
  | [], _ :: _ => by simp [PyData.eqvAll]
  | _ :: _, [] => by simp [PyData.eqvAll]
  | x :: xs, y :: ys => by
    show (PyData.eqv (D.d x) (D.d y) && PyData.eqvAll (xs.map D.d) (ys.map D.d)) = true ↔ _
    rw [Bool.and_eq_true, D.eq x y, eqvAll_iff D xs ys]
    simp
def dL {α : Type} {A : R α} (D : Dat A) : Dat (qL A) := ⟨fun xs => .list (xs.map D.d), fun {K F v a} h => by
    obtain ⟨p, vs, rfl, h2, h3⟩ := h
    exact .lst (SqL.of h2) (dpAll D h3), fun a b => eqvAll_iff D a b⟩
def dT {α : Type} {A : R α} (D : Dat A) : Dat (qT A) := ⟨fun xs => .tuple (xs.map D.d), fun {K F v a} h => by
    obtain ⟨p, vs, rfl, h2, h3⟩ := h
    exact .tup h2 (dpAll D h3), fun a b => eqvAll_iff D a b⟩
def d2 {α β : Type} {A : R α} {B : R β} (D : Dat A) (E : Dat B) : Dat (q2 A B) := ⟨fun x => .tuple [D.d x.1, E.d x.2], fun {K F v a} h => by
    obtain ⟨p, u, w, rfl, h2, h3, h4⟩ := h
    exact .tup h2 (.cons (D.dp h3) (.cons (E.dp h4) .nil)), fun a b => by
    show (PyData.eqv (D.d a.1) (D.d b.1) && (PyData.eqv (E.d a.2) (E.d b.2) && true)) = true ↔ _
    rw [Bool.and_eq_true, Bool.and_eq_true, D.eq, E.eq]
    obtain ⟨a1, a2⟩ := a
    obtain ⟨b1, b2⟩ := b
    simp⟩
def shp {α : Type} {A : R α} (D : Dat A) (a : α) : Bool := SeqAt.shaped (D.d a)
section
variable {α : Type} {A : R α} {K : PySem.W.Frag} {F H F0 H0 : Hp} {P : Addr → Prop} {v w : V} {a b : α} {Q : VK} [DecidableEq α]
theorem SeenR.dp {α : Type} {A : R α} {K : PySem.W.Frag} {F H : Hp} {v : V} {xs : List α} (S : Same F H) (D : Dat A) (h : SeenR A K F H v xs) : Dp K H v (.list (xs.map D.d)) := let ⟨p, vs, h1, h2, h3⟩ := h; by subst h1; exact .lst h2 (dpAll D (Row.mono S h3))
theorem eqv_dec (D : Dat A) (a b : α) : PyData.eqv (D.d a) (D.d b) = decide (a = b) := by
  by_cases e : a = b
  · rw [(D.eq a b).mpr e, decide_eq_true e]
  · rw [decide_eq_false e]
    cases h : PyData.eqv (D.d a) (D.d b) with
    | false => rfl
    | true => exact absurd ((D.eq a b).mp h) e
/-- what is seen of a datum -/
def SeenD (D : Dat A) (K : PySem.W.Frag) (H : Hp) (v : V) (a : α) : Prop := Dp K H v (D.d a)
theorem Sx.d (S : Sx P F0 H0 F H) (D : Dat A) (r : A.r K F v a) : SeenD D K H v a := Dp.mono S.sub (D.dp r)
theorem rd_eqD {D : Dat A} (s : SeenD D K H v a) (t : SeenD D K H w b) (h1 : shp D a = true) (h2 : shp D b = true) (k : Q (.bl (decide (a = b))) H) : rEqD K v w H Q :=
  ⟨_, _, s, t, h1, h2, by rw [eqv_dec]; exact k⟩
theorem rd_neD {D : Dat A} (s : SeenD D K H v a) (t : SeenD D K H w b) (h1 : shp D a = true) (h2 : shp D b = true) (k : Q (.bl (!decide (a = b))) H) : rNeD K v w H Q :=
  ⟨_, _, s, t, h1, h2, by rw [eqv_dec]; exact k⟩
end
section
variable {α : Type} {A : R α} {K : PySem.W.Frag} {F H F0 H0 : Hp} {P : Addr → Prop} {p : Addr} {vs : List V} {xs : List α}
theorem Sx.cd {v : V} {xs : List Int} (S : Sx P F0 H0 F H) (r : qC.r K F v xs) : SeenD (dL dI) K H v xs := SeenR.dp S.sub dI (S.c r)
theorem Ow.d (w : Ow P H0 F H p (.lst vs)) (S : Sx P F0 H0 F H) (D : Dat A) (r : Row A K F vs xs) : SeenD (dL D) K H (.ref p) xs := .lst (SqL.of w.at_) (dpAll D (Row.mono S.sub r))
end
end Gl

namespace Gl
open PySem PySem.Spec PyProof.Rows L2

/-! ## loops -/
def loopS {α S : Type} (f : α → S → Option S) : List α → S → Option S
  | [], s => some s
  | x :: xs, s => (f x s).bind fun s' => loopS f xs s'
def loopC {α S ρ : Type} (f : α → S → Option (Ctl S ρ)) : List α → S → Option (Ctl S ρ)
  | [], s => some (.nx s)
  | x :: xs, s => (f x s).bind fun c => match c with
    | .nx s' => loopC f xs s'
    | .bk s' => some (.nx s')
    | .rt r => some (.rt r)
/-- behind a loop that may return -/
def aft {S ρ : Type} (c : Ctl S ρ) (k : S → Option ρ) : Option ρ := match c with
  | .nx s => k s
  | .bk s => k s
  | .rt r => some r
/-- the same within a loop -/
def aftC {S S' ρ : Type} (c : Ctl S ρ) (k : S → Option (Ctl S' ρ)) : Option (Ctl S' ρ) := match c with
  | .nx s => k s
  | .bk s => k s
  | .rt r => some (.rt r)
def fuel : Nat := 1000000000
def whileS {S : Type} (c : S → Option (Bool × S)) (f : S → Option S) : Nat → S → Option S
  | 0, _ => none
  | n + 1, s => (c s).bind fun b => if b.1 = true then (f b.2).bind fun s' => whileS c f n s' else some b.2
def whileC {S ρ : Type} (c : S → Option (Bool × S)) (f : S → Option (Ctl S ρ)) : Nat → S → Option (Ctl S ρ)
  | 0, _ => none
  | n + 1, s => (c s).bind fun b => if b.1 = true then (f b.2).bind fun c' => match c' with
    | .nx s' => whileC c f n s'
    | .bk s' => some (.nx s')
    | .rt r => some (.rt r) else some (.nx b.2)

/-- what an iterator hands out, one behind another -/
structure Feeds (J : It) (n : Nat) (G : Hp → Prop) (it : Nat → V → Prop) : Prop where
  go : ∀ i H, i < n → G H → J.go i H
  stop : ∀ H, G H → J.stop n H
  yld : ∀ i H x H', i < n → G H → J.yld i H x H' → H' = H ∧ it i x
theorem feedsL {K : PySem.W.Frag} {a : Addr} {vs : List V} : Feeds (Itl K a) vs.length (fun H => SqL K H a vs) (fun i x => vs[i]? = some x) :=
  ⟨fun i H h q => ⟨vs, vs[i], q, by simp [h]⟩, fun H q => ⟨vs, q, Nat.le_refl _⟩, fun i H x H' h q y => ⟨y.1, y.2 vs q⟩⟩
theorem feedsT {K : PySem.W.Frag} {a : Addr} {vs : List V} : Feeds (Itt K a) vs.length (fun H => SqT K H a vs) (fun i x => vs[i]? = some x) :=
  ⟨fun i H h q => ⟨vs, vs[i], q, by simp [h]⟩, fun H q => ⟨vs, q, Nat.le_refl _⟩, fun i H x H' h q y => ⟨y.1, y.2 vs q⟩⟩
theorem feedsR {lo : Int} {n : Nat} : Feeds (Itr lo n) n (fun _ => True) (fun i x => x = .int (lo + (i : Nat))) :=
  ⟨fun i H h _ => h, fun H _ => Nat.le_refl _, fun i H x H' h _ y => y⟩
theorem feedsS {z : Str} : Feeds (Its z) z.cps.size (fun _ => True) (fun i x => ∃ c, z.cps[i]? = some c ∧ x = .str ⟨#[c]⟩) :=
  ⟨fun i H h _ => h, fun H _ => Nat.le_refl _, fun i H x H' h _ y => y⟩
/-- the items are typed -/
structure Typed {α : Type} (A : R α) (K : PySem.W.Frag) (F : Hp) (n : Nat) (it : Nat → V → Prop) (xs : List α) : Prop where
  len : xs.length = n
  at_ : ∀ i x, it i x → ∃ a, xs[i]? = some a ∧ A.r K F x a
theorem typedRow {α : Type} {A : R α} {K : PySem.W.Frag} {F : Hp} {vs : List V} {xs : List α} (r : Row A K F vs xs) : Typed A K F vs.length (fun i x => vs[i]? = some x) xs :=
  ⟨(pLen r).symm, fun i x h => pGetL r h⟩
theorem typedR {K : PySem.W.Frag} {F : Hp} {a b : Int} : Typed qI K F (b - a).toNat (fun i x => i < (b - a).toNat ∧ x = .int (a + (i : Nat))) (rng a b) :=
  ⟨by unfold rng; simp, fun i x h => ⟨a + (i : Nat), by unfold rng; simp [h.1], h.2⟩⟩
theorem feedsRg {a b : Int} : Feeds (Itr a (b - a).toNat) (b - a).toNat (fun _ => True) (fun i x => i < (b - a).toNat ∧ x = .int (a + (i : Nat))) :=
  ⟨fun i H h _ => h, fun H _ => Nat.le_refl _, fun i H x H' h _ y => ⟨y.1, h, y.2⟩⟩
theorem typedS {K : PySem.W.Frag} {F : Hp} {z : Str} : Typed qS K F z.cps.size (fun i x => ∃ c, z.cps[i]? = some c ∧ x = .str ⟨#[c]⟩) (sgns z) :=
  ⟨by unfold sgns; simp, fun i x h => by
    obtain ⟨c, h1, h2⟩ := h
    exact ⟨⟨#[c]⟩, by unfold sgns; simp [h1], h2⟩⟩

abbrev ForG (J : It) (g : TG) (tb : TS) (D : Ends) (σ : L2.St) (H : Hp) : Prop :=
  ∃ W : Nat → Nat → L2.St → Hp → Prop, (∃ m, W 0 m σ H) ∧ ∀ i m σ H, W i m σ H →
    (J.stop i H ∧ D.nx σ H) ∨ (J.go i H ∧ ∃ N : L2.St → Hp → Prop, (∀ σ' H', N σ' H' → ∃ m', m' < m ∧ W (i + 1) m' σ' H') ∧ ∀ x H', J.yld i H x H' → g x σ H' fun σ2 H2 => tb { D with nx := N, ct := N, bk := D.nx } σ2 H2)
section
variable {J : It} {n : Nat} {G : Hp → Prop} {it : Nat → V → Prop} {α S ρ : Type} {A : R α} {K : PySem.W.Frag} {F : Hp} {xs : List α} {g : TG} {tb : TS} {σ : L2.St} {H : Hp} {Nx Bx Cx : L2.St → Hp → Prop} {Rx : VK}
theorem loopS_at {f : α → S → Option S} {i : Nat} {a : α} {s s1 : S} (h : loopS f (xs.drop i) s = some s1) (ha : xs[i]? = some a) : ∃ s', f a s = some s' ∧ loopS f (xs.drop (i + 1)) s' = some s1 := by
  have hi : i < xs.length := (List.getElem?_eq_some_iff.mp ha).1
  have e : xs.drop i = a :: xs.drop (i + 1) := by
    rw [List.drop_eq_getElem_cons hi]
    rw [(List.getElem?_eq_some_iff.mp ha).2]
  rw [e] at h
  exact bd_some h
theorem loopC_at {f : α → S → Option (Ctl S ρ)} {i : Nat} {a : α} {s : S} {c1 : Ctl S ρ} (h : loopC f (xs.drop i) s = some c1) (ha : xs[i]? = some a) : ∃ c, f a s = some c ∧ (match c with
    | .nx s' => loopC f (xs.drop (i + 1)) s'
    | .bk s' => some (.nx s')
    | .rt r => some (.rt r)) = some c1 := by
  have hi : i < xs.length := (List.getElem?_eq_some_iff.mp ha).1
  have e : xs.drop i = a :: xs.drop (i + 1) := by
    rw [List.drop_eq_getElem_cons hi]
    rw [(List.getElem?_eq_some_iff.mp ha).2]
  rw [e] at h
  exact bd_some h
/-- a loop that goes to its end -/
theorem rd_forS (Fd : Feeds J n G it) (Ty : Typed A K F n it xs) {f : α → S → Option S} {s0 s1 : S} (hm : loopS f xs s0 = some s1) (Iv : S → L2.St → Hp → Prop) (hG : ∀ s σ H, Iv s σ H → G H) (h0 : Iv s0 σ H)
    (turn : ∀ (a : α) (x : V) (s s' : S) (σ : L2.St) (H : Hp), A.r K F x a → Iv s σ H → f a s = some s' → g x σ H fun σ2 H2 => tb ⟨Iv s', Rx, Nx, Iv s'⟩ σ2 H2)
    (done : ∀ σ H, Iv s1 σ H → Nx σ H) : ForG J g tb ⟨Nx, Rx, Bx, Cx⟩ σ H := by
  refine ⟨fun i m σ H => m = n - i ∧ i ≤ n ∧ ∃ s, Iv s σ H ∧ loopS f (xs.drop i) s = some s1, ⟨n, by simp, Nat.zero_le _, s0, h0, hm⟩, ?_⟩
  rintro i m σ H ⟨rfl, hi, s, iv, hl⟩
  by_cases hlt : i < n
  · obtain ⟨a, ha⟩ : ∃ a, xs[i]? = some a := ⟨xs[i]'(by rw [Ty.len]; exact hlt), by simp [Ty.len, hlt]⟩
    obtain ⟨s', e1, e2⟩ := loopS_at hl ha
    refine .inr ⟨Fd.go i H hlt (hG s σ H iv), Iv s', fun σ' H' p' => ⟨n - (i + 1), by omega, rfl, hlt, s', p', e2⟩, fun x H' y => ?_⟩
    obtain ⟨rfl, hx⟩ := Fd.yld i H x H' hlt (hG s σ H iv) y
    obtain ⟨a', ha', r⟩ := Ty.at_ i x hx
    rw [ha] at ha'
    cases ha'
    exact turn a x s s' σ H' r iv e1
  · have e : i = n := by omega
    subst e
    rw [← Ty.len, List.drop_length] at hl
    cases hl
    exact .inl ⟨Fd.stop H (hG _ σ H iv), done σ H iv⟩
/-- a loop that may break off or return -/
theorem rd_forC (Fd : Feeds J n G it) (Ty : Typed A K F n it xs) {f : α → S → Option (Ctl S ρ)} {s0 : S} {c1 : Ctl S ρ} (hm : loopC f xs s0 = some c1) (Iv : S → L2.St → Hp → Prop) (hG : ∀ s σ H, Iv s σ H → G H) (h0 : Iv s0 σ H)
    (turn : ∀ (a : α) (x : V) (s : S) (c : Ctl S ρ) (σ : L2.St) (H : Hp), A.r K F x a → Iv s σ H → f a s = some c → (∀ s' σ' H', c = .bk s' → Iv s' σ' H' → Nx σ' H') → (∀ r, c = .rt r → c1 = .rt r) →
      g x σ H fun σ2 H2 => tb ⟨fun σ' H' => ∃ s', c = .nx s' ∧ Iv s' σ' H', Rx, Nx, fun σ' H' => ∃ s', c = .nx s' ∧ Iv s' σ' H'⟩ σ2 H2)
    (done : ∀ s σ H, c1 = .nx s → Iv s σ H → Nx σ H) : ForG J g tb ⟨Nx, Rx, Bx, Cx⟩ σ H := by
  refine ⟨fun i m σ H => m = n - i ∧ i ≤ n ∧ ∃ s, Iv s σ H ∧ loopC f (xs.drop i) s = some c1, ⟨n, by simp, Nat.zero_le _, s0, h0, hm⟩, ?_⟩
  rintro i m σ H ⟨rfl, hi, s, iv, hl⟩
  by_cases hlt : i < n
  · obtain ⟨a, ha⟩ : ∃ a, xs[i]? = some a := ⟨xs[i]'(by rw [Ty.len]; exact hlt), by simp [Ty.len, hlt]⟩
    obtain ⟨c, e1, e2⟩ := loopC_at hl ha
    refine .inr ⟨Fd.go i H hlt (hG s σ H iv), fun σ' H' => ∃ s', c = .nx s' ∧ Iv s' σ' H', fun σ' H' p' => ?_, fun x H' y => ?_⟩
    · obtain ⟨s', rfl, p'⟩ := p'
      exact ⟨n - (i + 1), by omega, rfl, hlt, s', p', e2⟩
    · obtain ⟨rfl, hx⟩ := Fd.yld i H x H' hlt (hG s σ H iv) y
      obtain ⟨a', ha', r⟩ := Ty.at_ i x hx
      rw [ha] at ha'
      cases ha'
      refine turn a x s c σ H' r iv e1 (fun s' σ' H' e p => ?_) fun r e => ?_
      · subst e
        exact done s' σ' H' (Option.some.inj e2).symm p
      · subst e
        exact (Option.some.inj e2).symm
  · have e : i = n := by omega
    subst e
    rw [← Ty.len, List.drop_length] at hl
    exact .inl ⟨Fd.stop H (hG _ σ H iv), done s σ H (Option.some.inj hl).symm iv⟩
end
section
variable {S ρ : Type} {c : TT} {tb : TS} {σ : L2.St} {H : Hp} {Nx Bx Cx : L2.St → Hp → Prop} {Rx : VK}
/-- while: the test may change the state; f: a turn -/
theorem rd_whileS {cm : S → Option (Bool × S)} {f : S → Option S} {N : Nat} {s0 s1 : S} (hm : whileS cm f N s0 = some s1) (Iv : S → L2.St → Hp → Prop) (h0 : Iv s0 σ H)
    (turn : ∀ (s : S) (b : Bool × S) (σ : L2.St) (H : Hp) (T : L2.St → Hp → Prop) (E : L2.St → Hp → Prop), Iv s σ H → cm s = some b → (∀ σ' H', b.1 = true → Iv b.2 σ' H' → T σ' H') → (∀ σ' H', b.1 = false → Iv b.2 σ' H' → E σ' H') → c σ H fun b H1 => if b = true then T σ H1 else E σ H1)
    (body : ∀ (s s' : S) (σ : L2.St) (H : Hp), Iv s σ H → f s = some s' → tb ⟨Iv s', Rx, Nx, Iv s'⟩ σ H)
    (done : ∀ σ H, Iv s1 σ H → Nx σ H) : tWhile c tb ⟨Nx, Rx, Bx, Cx⟩ σ H := by
  refine ⟨fun m σ H => ∃ s, Iv s σ H ∧ whileS cm f m s = some s1, ⟨N, s0, h0, hm⟩, ?_⟩
  rintro m σ H ⟨s, iv, h⟩
  cases m with
  | zero => cases h
  | succ m =>
    obtain ⟨b, e1, e2⟩ := bd_some h
    refine turn s b σ H (fun σ H1 => ∃ N : L2.St → Hp → Prop, (∀ σ' H', N σ' H' → ∃ m', m' < m + 1 ∧ ∃ s, Iv s σ' H' ∧ whileS cm f m' s = some s1) ∧ tb ⟨N, Rx, Nx, N⟩ σ H1) (fun σ H1 => Nx σ H1) iv e1 (fun σ' H' hb iv' => ?_) fun σ' H' hb iv' => ?_
    · rw [hb] at e2
      obtain ⟨s', e3, e4⟩ := bd_some (show ((f b.2).bind fun s' => whileS cm f m s') = some s1 from e2)
      exact ⟨Iv s', fun σ2 H2 p => ⟨m, Nat.lt_succ_self _, s', p, e4⟩, body b.2 s' σ' H' iv' e3⟩
    · rw [hb] at e2
      cases (show some b.2 = some s1 from e2)
      exact done σ' H' iv'
theorem rd_whileC {cm : S → Option (Bool × S)} {f : S → Option (Ctl S ρ)} {N : Nat} {s0 : S} {c1 : Ctl S ρ} (hm : whileC cm f N s0 = some c1) (Iv : S → L2.St → Hp → Prop) (h0 : Iv s0 σ H)
    (turn : ∀ (s : S) (b : Bool × S) (σ : L2.St) (H : Hp) (T : L2.St → Hp → Prop) (E : L2.St → Hp → Prop), Iv s σ H → cm s = some b → (∀ σ' H', b.1 = true → Iv b.2 σ' H' → T σ' H') → (∀ σ' H', b.1 = false → Iv b.2 σ' H' → E σ' H') → c σ H fun b H1 => if b = true then T σ H1 else E σ H1)
    (body : ∀ (s : S) (c' : Ctl S ρ) (σ : L2.St) (H : Hp), Iv s σ H → f s = some c' → (∀ s' σ' H', c' = .bk s' → Iv s' σ' H' → Nx σ' H') → (∀ r, c' = .rt r → c1 = .rt r) →
      tb ⟨fun σ' H' => ∃ s', c' = .nx s' ∧ Iv s' σ' H', Rx, Nx, fun σ' H' => ∃ s', c' = .nx s' ∧ Iv s' σ' H'⟩ σ H)
    (done : ∀ s σ H, c1 = .nx s → Iv s σ H → Nx σ H) : tWhile c tb ⟨Nx, Rx, Bx, Cx⟩ σ H := by
  refine ⟨fun m σ H => ∃ s, Iv s σ H ∧ whileC cm f m s = some c1, ⟨N, s0, h0, hm⟩, ?_⟩
  rintro m σ H ⟨s, iv, h⟩
  cases m with
  | zero => cases h
  | succ m =>
    obtain ⟨b, e1, e2⟩ := bd_some h
    refine turn s b σ H (fun σ H1 => ∃ N : L2.St → Hp → Prop, (∀ σ' H', N σ' H' → ∃ m', m' < m + 1 ∧ ∃ s, Iv s σ' H' ∧ whileC cm f m' s = some c1) ∧ tb ⟨N, Rx, Nx, N⟩ σ H1) (fun σ H1 => Nx σ H1) iv e1 (fun σ' H' hb iv' => ?_) fun σ' H' hb iv' => ?_
    · rw [hb] at e2
      obtain ⟨c', e3, e4⟩ := bd_some (show ((f b.2).bind fun c' => match c' with
        | .nx s' => whileC cm f m s'
        | .bk s' => some (.nx s')
        | .rt r => some (.rt r)) = some c1 from e2)
      refine ⟨fun σ' H' => ∃ s', c' = .nx s' ∧ Iv s' σ' H', fun σ2 H2 p => ?_, body b.2 c' σ' H' iv' e3 (fun s' σ2 H2 e p => ?_) fun r e => ?_⟩
      · obtain ⟨s', rfl, p⟩ := p
        exact ⟨m, Nat.lt_succ_self _, s', p, e4⟩
      · subst e
        exact done s' σ2 H2 (Option.some.inj e4).symm p
      · subst e
        exact (Option.some.inj e4).symm
    · rw [hb] at e2
      exact done b.2 σ' H' (Option.some.inj (show some (.nx b.2) = some c1 from e2)).symm iv'
end

/-! ## comprehensions -/
def fitsE {α : Type} (a : List α) : Bool := decide (a.length ≤ sizeLine)
/-- f: an item's value, if it is kept, and the state behind it -/
def comp {α β S : Type} (f : α → S → Option (Option β × S)) : List α → S → Option (List β × S)
  | [], s => some ([], s)
  | x :: xs, s => (f x s).bind fun o => (comp f xs o.2).bind fun r => some (match o.1 with
    | some y => (y :: r.1, r.2)
    | none => r)
/-- what a comprehension's loop asks -/
abbrev LcG (J : It) (g : TG) (tt : TT) (te : TE) (vs : List Nat) (σ : L2.St) (D : Addr) (Q : VK) (H1 : Hp) : Prop :=
  ∃ W : Nat → Nat → Hp → Prop, (∃ m, W 0 m (upd H1 D (.lst []))) ∧ ∀ i m H, W i m H →
  (J.stop i H ∧ Q (.ref D) H) ∨ (J.go i H ∧ ∃ Nx : Hp → Prop, (∀ H', Nx H' → ∃ m', m' < m ∧ W (i + 1) m' H') ∧ ∀ x H', J.yld i H x H' → g x (wipe σ vs) H' fun σ2 H2 => wipe σ2 vs = wipe σ vs ∧ tt σ2 H2 fun b H3 =>
    if b = true then te σ2 H3 fun y H4 => ∃ acc, H4 D = some (.lst acc) ∧ acc.length < sizeLine ∧ Nx (upd H4 D (.lst (acc ++ [y]))) else Nx H3)
section
variable {J : It} {n : Nat} {G : Hp → Prop} {it : Nat → V → Prop} {α β S : Type} {A : R α} {B : R β} {K : PySem.W.Frag} {F1 H1 : Hp} {xs : List α} {g : TG} {tt : TT} {te : TE} {vs : List Nat} {σ : L2.St} {Q : VK}
theorem comp_at {f : α → S → Option (Option β × S)} {i : Nat} {a : α} {s : S} {r : List β × S} (h : comp f (xs.drop i) s = some r) (ha : xs[i]? = some a) : ∃ o r', f a s = some o ∧ comp f (xs.drop (i + 1)) o.2 = some r' ∧ r = (match o.1 with
    | some y => (y :: r'.1, r'.2)
    | none => r') := by
  have hi : i < xs.length := (List.getElem?_eq_some_iff.mp ha).1
  have e : xs.drop i = a :: xs.drop (i + 1) := by
    rw [List.drop_eq_getElem_cons hi]
    rw [(List.getElem?_eq_some_iff.mp ha).2]
  rw [e] at h
  obtain ⟨o, e1, h2⟩ := bd_some h
  obtain ⟨r', e2, h3⟩ := bd_some h2
  exact ⟨o, r', e1, e2, (Option.some.inj h3).symm⟩
/-- c: the step from the comprehension's start (F1, H1); Ex: what holds of the objects that it changes (Pc) -/
theorem rd_comp (Fd : Feeds J n G it) (Ty : Typed A K F1 n it xs) {f : α → S → Option (Option β × S)} {s0 : S} {r : List β × S} (hm : comp f xs s0 = some r) (hz : fitsE xs = true) {Pc : Addr → Prop} (hlv : ∀ a, Pc a → H1 a ≠ none) (hsub : Same F1 H1) (Ex : S → Hp → Hp → Prop)
    (hG : ∀ s F H, Sx Pc F1 H1 F H → Ex s F H → G H) (h0 : Ex s0 F1 H1) (hEx : ∀ s F H q o, Ex s F H → H1 q = none → H q = none → Ex s F (upd H q o)) (hEp : ∀ s F H q u o, Ex s F H → H1 q = none → H q = some u → Ex s F (upd H q o))
    (turn : ∀ (a : α) (x : V) (s : S) (o : Option β × S) (F H : Hp) (D : Addr) (acc : List V), A.r K F1 x a → Sx Pc F1 H1 F H → Ex s F H → Ow Pc H1 F H D (.lst acc) → H1 D = none → f a s = some o →
      ∀ (E : Hp → Prop) (N : V → Hp → Prop), (∀ y b F' H', o.1 = some b → Sx Pc F H F' H' → B.r K F' y b → Ex o.2 F' H' → N y H') → (∀ F' H', o.1 = none → Sx Pc F H F' H' → Ex o.2 F' H' → E H') →
      g x (wipe σ vs) H fun σ2 H2 => wipe σ2 vs = wipe σ vs ∧ tt σ2 H2 fun b H3 => if b = true then te σ2 H3 N else E H3)
    (done : ∀ D us F H, H1 D = none → Sx Pc F1 H1 F H → Ex r.2 F H → Ow Pc H1 F H D (.lst us) → Row B K F us r.1 → Q (.ref D) H) : ∀ D, H1 D = none → LcG J g tt te vs σ D Q H1 := by
  intro D hD
  refine ⟨fun i m H => m = n - i ∧ i ≤ n ∧ ∃ s F acc ys r', Sx Pc F1 H1 F H ∧ Ex s F H ∧ Ow Pc H1 F H D (.lst acc) ∧ Row B K F acc ys ∧ acc.length ≤ i ∧ comp f (xs.drop i) s = some r' ∧ r = (ys ++ r'.1, r'.2), ⟨n, by simp, Nat.zero_le _, s0, F1, [], [], r, ?_, ?_, ?_, .nil, Nat.le_refl _, hm, rfl⟩, ?_⟩
  · exact (Sx.refl hsub hlv).temp hD
  · exact hEx _ _ _ _ _ h0 hD hD
  · exact (Sx.refl hsub hlv).own hD
  rintro i m H ⟨rfl, hi, s, F, acc, ys, r', S, ex, w, row, hal, hl, hr⟩
  by_cases hlt : i < n
  · obtain ⟨a, ha⟩ : ∃ a, xs[i]? = some a := ⟨xs[i]'(by rw [Ty.len]; exact hlt), by simp [Ty.len, hlt]⟩
    obtain ⟨o, r2, e1, e2, e3⟩ := comp_at hl ha
    refine .inr ⟨Fd.go i H hlt (hG s F H S ex), fun H' => ∃ s F acc ys r', Sx Pc F1 H1 F H' ∧ Ex s F H' ∧ Ow Pc H1 F H' D (.lst acc) ∧ Row B K F acc ys ∧ acc.length ≤ i + 1 ∧ comp f (xs.drop (i + 1)) s = some r' ∧ r = (ys ++ r'.1, r'.2), fun H' p' => ⟨n - (i + 1), by omega, rfl, hlt, p'⟩, fun x H' y => ?_⟩
    obtain ⟨rfl, hx⟩ := Fd.yld i H x H' hlt (hG s F H S ex) y
    obtain ⟨a', ha', ra⟩ := Ty.at_ i x hx
    rw [ha] at ha'
    cases ha'
    have nD : ∀ F' H'', Sx Pc F H' F' H'' → Ow Pc H1 F' H'' D (.lst acc) := fun F' H'' c => w.call c fun z => hlv D z hD
    have hsz : acc.length < sizeLine := by
      have := of_decide_eq_true hz
      rw [Ty.len] at this
      omega
    refine turn a x s o F H' D acc ra S ex w hD e1 _ _ (fun y b F' H'' ho c rb ex' => ?_) fun F' H'' ho c ex' => ?_
    · have w' := nD F' H'' c
      have S' : Sx Pc F1 H1 F' H'' := S.call c fun a z => .inl z
      refine ⟨acc, w'.at_, hsz, o.2, F', acc ++ [y], ys ++ [b], r2, S'.put w', hEp _ _ _ _ _ _ ex' hD w'.at_, w'.put, (Row.mono c.le row).snoc rb, by simp; omega, e2, ?_⟩
      rw [hr, e3, ho]
      simp
    · have w' := nD F' H'' c
      have S' : Sx Pc F1 H1 F' H'' := S.call c fun a z => .inl z
      refine ⟨o.2, F', acc, ys, r2, S', ex', w', Row.mono c.le row, by omega, e2, ?_⟩
      rw [hr, e3, ho]
  · have e : i = n := by omega
    subst e
    rw [← Ty.len, List.drop_length] at hl
    cases hl
    refine .inl ⟨Fd.stop H (hG _ F H S ex), ?_⟩
    rw [hr] at done
    exact done D acc F H hD S ex w (by simpa using row)
end

/-! ## steps: what is new behind each is told by names -/
section
variable {P : Addr → Prop} {F0 H0 F H : Hp} {Q : VK} {α : Type} {A : R α} {K : PySem.W.Frag}
/-- a new object, of one's own -/
theorem al {o : HO} (S : Sx P F0 H0 F H) (k : ∀ p H', H p = none → Sx P0 F H F H' → Ow P H0 F H' p o → Q (.ref p) H') : nK Q H o :=
  fun p hp => k p _ hp ((Sx.refl0 S.sub).temp hp) (S.own hp)
/-- a new object that stands for good -/
theorem alF {o : HO} (S : Sx P F0 H0 F H) (k : ∀ p F' H', Sx P0 F H F' H' → F' p = some o → Q (.ref p) H') : nK Q H o :=
  fun p hp => k p _ _ ((Sx.refl0 S.sub).alloc hp) upd_same
theorem alT {vs : List V} {xs : List α} (S : Sx P F0 H0 F H) (r : Row A K F vs xs) (k : ∀ v F' H', Sx P0 F H F' H' → (qT A).r K F' v xs → Q v H') : nK Q H (.tup vs) :=
  alF S fun p F' H' c h => k _ F' H' c ⟨p, vs, rfl, .inl (.inl h), Row.mono c.le r⟩
theorem alL {vs : List V} {xs : List α} (S : Sx P F0 H0 F H) (r : Row A K F vs xs) (k : ∀ v F' H', Sx P0 F H F' H' → (qL A).r K F' v xs → Q v H') : nK Q H (.lst vs) :=
  alF S fun p F' H' c h => k _ F' H' c ⟨p, vs, rfl, h, Row.mono c.le r⟩
/-- the same where the row is handed on -/
theorem alL' {xs : List α} (S : Sx P F0 H0 F H) (k : ∀ v F' H', Sx P0 F H F' H' → (qL A).r K F' v xs → Q v H') : nL A K F Q H xs :=
  fun p us hp r => alL S r k p hp
theorem alT' {xs : List α} (S : Sx P F0 H0 F H) (k : ∀ v F' H', Sx P0 F H F' H' → (qT A).r K F' v xs → Q v H') : nT A K F Q H xs :=
  fun p us hp r => alT S r k p hp
theorem alO' {xs : List α} (S : Sx P F0 H0 F H) (k : ∀ p us H', H p = none → Sx P0 F H F H' → Ow P H0 F H' p (.lst us) → Row A K F us xs → Q (.ref p) H') : nL A K F Q H xs :=
  fun p us hp r => k p us _ hp ((Sx.refl0 S.sub).temp hp) (S.own hp) r
variable {p : Addr} {vs : List V} {xs : List α}
theorem Ow.arg' {o : HO} (w : Ow P H0 F H p o) : Ow (fun a => a = p) H F H p o := w.arg
theorem ap (S : Sx P F0 H0 F H) (w : Ow P H0 F H p (.lst vs)) (r : Row A K F vs xs) {y : V} (h : fits xs = true) (k : ∀ H', Sx (fun a => a = p) F H F H' → Ow P H0 F H' p (.lst (vs ++ [y])) → Q .non H') : rAppend (.ref p) [y] H Q :=
  rd_app w r h (k _ ((Sx.refl S.sub fun a z => by rw [z, w.at_]; exact fun h => nomatch h).put w.arg) w.put)
theorem ex' (S : Sx P F0 H0 F H) (w : Ow P H0 F H p (.lst vs)) (r : Row A K F vs xs) {b : V} {ys : List α} (s : SeenL A K F H b ys) (h : fits2 xs ys = true) (k : ∀ us H', Sx (fun a => a = p) F H F H' → Ow P H0 F H' p (.lst (vs ++ us)) → Row A K F (vs ++ us) (xs ++ ys) → Q .non H') : rExtend (.ref p) [b] H Q :=
  rd_extend w r s h fun us r2 => k us _ ((Sx.refl S.sub fun a z => by rw [z, w.at_]; exact fun h => nomatch h).put w.arg) w.put (pApp r r2)
/-- an own list is let stand for good -/
theorem fz (S : Sx P F0 H0 F H) (w : Ow P H0 F H p (.lst vs)) (h0 : H0 p = none) (r : Row A K F vs xs) : ∃ F', Sx P F0 H0 F' H ∧ Same F F' ∧ (qL A).r K F' (.ref p) xs ∧ F' p ≠ none ∧ ∀ q, q ≠ p → F' q = F q :=
  ⟨upd F p (.lst vs), S.freeze w h0, w.leF, ⟨p, vs, rfl, upd_same, Row.mono w.leF r⟩, by (rw [upd_same]; exact (fun h => nomatch h)), fun q hq => upd_ne hq⟩
theorem Ow.fzO {F' : Hp} {o : HO} {q : Addr} (w : Ow P H0 F H q o) (n : q ≠ p) (e : ∀ q, q ≠ p → F' q = F q) : Ow P H0 F' H q o := ⟨by rw [e q n]; exact w.fr, w.at_, w.mine⟩
end
end Gl

namespace Gl
open PySem PySem.Spec PyProof.Rows L2

/-! ## defs by names -/
def fdDefault : FuncData := PySem.W.fnOf "" "" { posonlyargs := [], args := [], vararg := none, kwonlyargs := [], kw_defaults := [], kwarg := none, defaults := [] } [] { kind := .function, names := [], isGenerator := false, isCoroutine := false } .none .none .none .none none .none .none
def fdOf (K : PySem.W.Frag) (p : Str × Option Str) : FuncData := match K.lookup (He.fAd K p) with
  | some ⟨_, _, .func fd, _⟩ => fd
  | _ => fdDefault
abbrev FnD' (K : PySem.W.Frag) (p : Str × Option Str) (x q : Str) (st : Stmt) : Prop := FunD K x q (defArgs st) (defBody st) (defScope st) [] [] (He.fAd K p) (fdOf K p)
theorem fdOf_eq {K : PySem.W.Frag} {p : Str × Option Str} {x q : Str} {ps : Arguments} {body : List Stmt} {sc : Scope} {dvs : List V} {kws : List (Str × V)} {fd : FuncData} (F : FunD K x q ps body sc dvs kws (He.fAd K p) fd) : fd = fdOf K p := by
  obtain ⟨oc, od, dV, kV, doc, pm, an, cdv, ct, osl, e, lk, _⟩ := F.ex
  unfold fdOf
  rw [lk]
theorem fd_of {fa : List He.Fa} {fn : List He.DefD} {K : PySem.W.Frag} (c : He.SaysD fa fn K) (i : Nat) {d : He.DefD} (h : fn[i]? = some d := by rfl) : FunD K d.name d.qual d.params d.body d.scope (d.dvs K) (d.kws K) (He.fAd K d.at_) (fdOf K d.at_) := by
  obtain ⟨fd, F⟩ := c.def_ i h
  have e := fdOf_eq F
  subst e
  exact F
/-! ## a list of two ints that is drawn from -/
section
variable {P : Addr → Prop} {F0 H0 F H : Hp} {Q : VK} {K : PySem.W.Frag} {p : Addr} {a b c : V}
theorem pool0 (w : Ow P H0 F H p (.lst [a, b])) (k : Q a H) : rIxL K (.ref p) (.int 0) H Q := ⟨p, [a, b], 0, a, rfl, rfl, SqL.of w.at_, rfl, k⟩
theorem pool1 (w : Ow P H0 F H p (.lst [a, b])) (k : Q b H) : rIxL K (.ref p) (.int 1) H Q := ⟨p, [a, b], 1, b, rfl, rfl, SqL.of w.at_, rfl, k⟩
theorem putS (S : Sx P F0 H0 F H) {o u : HO} (w : Ow P H0 F H p o) : Sx (fun a => a = p) F H F (upd H p u) := (Sx.refl S.sub fun a z => by rw [z, w.at_]; exact fun h => nomatch h).put w.arg
theorem pset0 {R : Hp → Prop} (S : Sx P F0 H0 F H) (w : Ow P H0 F H p (.lst [a, b])) (k : ∀ H', Sx (fun a => a = p) F H F H' → Ow P H0 F H' p (.lst [c, b]) → R H') : rSetL (.ref p) (.int 0) c H R := ⟨p, [a, b], 0, 0, rfl, rfl, w.at_, rfl, k _ (putS S w) w.put⟩
theorem pset1 {R : Hp → Prop} (S : Sx P F0 H0 F H) (w : Ow P H0 F H p (.lst [a, b])) (k : ∀ H', Sx (fun a => a = p) F H F H' → Ow P H0 F H' p (.lst [a, c]) → R H') : rSetL (.ref p) (.int 1) c H R := ⟨p, [a, b], 1, 1, rfl, rfl, w.at_, rfl, k _ (putS S w) w.put⟩
end
end Gl

namespace Gl
open PySem PySem.Spec PyProof.Rows L2

/-! ## readings, construct by construct -/
section
variable {σ : L2.St} {H : Hp} {Q : VK} {v : V} {i j : Int} {ta tb tc te : TE} {t u : TT} {r : R2} {D : Ends} {tr : TA} {K : PySem.W.Frag} {b : Bool}
theorem rd_v {i : Nat} (h : σ[i]? = some (some v)) (k : Q v H) : tVar i σ H Q := ⟨v, h, k⟩
theorem rd_c (k : Q v H) : tC v σ H Q := k
theorem rd_op (k : ta σ H fun x H1 => tb σ H1 fun y H2 => r x y H2 Q) : tOp r ta tb σ H Q := k
theorem rd_un {r : V → Hp → VK → Prop} (k : ta σ H fun x H1 => r x H1 Q) : tUn r ta σ H Q := k
theorem rd_I0 {g : Int → Int → V} (k : Q (g i j) H) : rI0 g (.int i) (.int j) H Q := ⟨i, j, rfl, rfl, k⟩
theorem rd_I {C : Int → Int → Prop} {g : Int → Int → V} (c : C i j) (k : Q (g i j) H) : rI C g (.int i) (.int j) H Q := ⟨i, j, rfl, rfl, c, k⟩
theorem rd_U {g : Int → V} (k : Q (g i) H) : rU g (.int i) H Q := ⟨i, rfl, k⟩
theorem rd_S0 {g : Str → Str → V} {x y : Str} (k : Q (g x y) H) : rS0 g (.str x) (.str y) H Q := ⟨x, y, rfl, rfl, k⟩
theorem rd_B0 {g : Bool → Bool → V} {x y : Bool} (k : Q (g x y) H) : rB0 g (.bl x) (.bl y) H Q := ⟨x, y, rfl, rfl, k⟩
def rCatS : R2 := fun x y H Q => ∃ i j, x = .str i ∧ y = .str j ∧ i.length + j.length ≤ sizeLine ∧ Q (.str (i ++ j)) H
theorem op_catS {X : Cx} : OpR X (binaryOp .Add) rCatS := op_add_str
theorem rd_catS {x y : Str} (h : catOk x y = true) (k : Q (.str (x ++ y)) H) : rCatS (.str x) (.str y) H Q := ⟨x, y, rfl, rfl, catOk_of h, k⟩
def rInS : R2 := fun x y H Q => ∃ i j, x = .str i ∧ y = .str j ∧ Q (.bl (inS i j)) H
def rNiS : R2 := fun x y H Q => ∃ i j, x = .str i ∧ y = .str j ∧ Q (.bl (!inS i j)) H
theorem op_inS {X : Cx} : OpR X (compareOp .In) rInS := op_in_str
theorem op_niS {X : Cx} : OpR X (compareOp .NotIn) rNiS := op_notin_str
theorem rd_inSS {x y : Str} (k : Q (.bl (inS x y)) H) : rInS (.str x) (.str y) H Q := ⟨x, y, rfl, rfl, k⟩
theorem rd_niSS {x y : Str} (k : Q (.bl (!inS x y)) H) : rNiS (.str x) (.str y) H Q := ⟨x, y, rfl, rfl, k⟩
theorem rd_ixS {x z : Str} (h : ixS x i = some z) (k : Q (.str z) H) : rIxS (.str x) (.int i) H Q := by
  obtain ⟨c, h1, h2, rfl⟩ := ixS_some h
  exact ⟨x, i, c, rfl, rfl, h1, h2, k⟩
theorem rd_slS {z : Str} {lo hi : Option Int} (h : fitsS z = true) (k : Q (.str (cutS z lo hi)) H) : rSlS (.str z) lo hi H Q := ⟨z, rfl, fitsS_of h, k⟩
/-! tests -/
variable {QB : Bool → Hp → Prop}
/-- what is wanted of a truth -/
def bK (QB : Bool → Hp → Prop) : VK := fun x H => ∃ k, x = .bl k ∧ QB k H
theorem rd_test (k : te σ H (bK QB)) : tTest te σ H QB := k
theorem rd_tB (k : te σ H (bK QB)) : tB te σ H QB := k
theorem rd_b (k : QB b H) : bK QB (.bl b) H := ⟨b, rfl, k⟩
theorem rd_and (k : t σ H fun c H1 => if c = true then u σ H1 QB else QB false H1) : tAnd t u σ H QB := k
theorem rd_or (k : t σ H fun c H1 => if c = true then QB true H1 else u σ H1 QB) : tOr t u σ H QB := k
theorem rd_not (k : t σ H fun c H1 => QB (!c) H1) : tNot t σ H QB := k
theorem rd_andV (k : ta σ H (bK fun c H1 => if c = true then tb σ H1 Q else Q (.bl false) H1)) : tAndV ta tb σ H Q := k
theorem rd_orV (k : ta σ H (bK fun c H1 => if c = true then Q (.bl true) H1 else tb σ H1 Q)) : tOrV ta tb σ H Q := k
theorem rd_notV (k : ta σ H (bK fun c H1 => Q (.bl (!c)) H1)) : tNotV ta σ H Q := k
theorem rd_ifE (k : t σ H fun c H1 => if c = true then ta σ H1 Q else tb σ H1 Q) : tIf t ta tb σ H Q := k
theorem rd_yes (k : QB true H) : tYes σ H QB := k
/-! arguments, calls -/
variable {QA : List V → Hp → Prop}
theorem rd_nil (k : QA [] H) : tNil σ H QA := k
theorem rd_cons (k : te σ H fun x H1 => tr σ H1 fun xs H2 => QA (x :: xs) H2) : tCons te tr σ H QA := k
theorem rd_call {sp : Sp} {dvs : List V} {E : XK} (k : tr σ H fun vs H1 => sp (vs ++ dvs) H1 Q E) : tCall sp dvs E tr σ H Q := k
theorem rd_cb {r : List V → Hp → VK → Prop} (k : tr σ H fun xs H1 => r xs H1 Q) : tCB r tr σ H Q := k
def lK (Q : VK) : List V → Hp → Prop := fun xs H1 => xs.length ≤ sizeLine ∧ ∀ p, H1 p = none → Q (.ref p) (upd H1 p (.lst xs))
def uK (Q : VK) : List V → Hp → Prop := fun xs H1 => xs.length ≤ sizeLine ∧ ∀ p, H1 p = none → Q (.ref p) (upd H1 p (.tup xs))
theorem rd_lst (k : tr σ H (lK Q)) : tLst tr σ H Q := k
theorem rd_lK {xs : List V} (h : Nat.ble xs.length 1000 = true) (k : nK Q H (.lst xs)) : lK Q xs H := ⟨Nat.le_trans (Nat.le_of_ble_eq_true h) (by decide), k⟩
theorem rd_uK {xs : List V} (h : Nat.ble xs.length 1000 = true) (k : nK Q H (.tup xs)) : uK Q xs H := ⟨Nat.le_trans (Nat.le_of_ble_eq_true h) (by decide), k⟩
theorem rd_tup (k : tr σ H (uK Q)) : tTup tr σ H Q := k
theorem rd_bm {T : String} {r : V → List V → Hp → VK → Prop} (k : te σ H fun x H1 => tyV K T x H1 ∧ tr σ H1 fun xs H2 => r x xs H2 Q) : tBM K T r te tr σ H Q := k
theorem rd_bm0 {T : String} {r : V → List V → Hp → VK → Prop} (k : te σ H fun x H1 => tyV K T x H1 ∧ r x [] H1 Q) : tBM0 K T r te σ H Q := k
theorem rd_ty {A B : Prop} (h : A) (k : B) : A ∧ B := ⟨h, k⟩
theorem rd_thn {k' : V → Hp → VK → Prop} (k : te σ H fun x H1 => k' x H1 Q) : tThen te k' σ H Q := k
/-! slices -/
variable {QO : Option Int → Hp → Prop}
theorem rd_sl {r : V → Option Int → Option Int → Hp → VK → Prop} {tl th : TO} (k : te σ H fun x H1 => tl σ H1 fun l H2 => th σ H2 fun u H3 => r x l u H3 Q) : tSl r te tl th σ H Q := k
theorem rd_np (k : QO none H) : tNoPart σ H QO := k
def iK (QO : Option Int → Hp → Prop) : VK := fun x H => ∃ i, x = .int i ∧ QO (some i) H
theorem rd_pt (k : te σ H (iK QO)) : tPart te σ H QO := k
theorem rd_i (k : QO (some i) H) : iK QO (.int i) H := ⟨i, rfl, k⟩
/-! built-ins -/
def rInt1 : List V → Hp → VK → Prop := fun xs H Q => (∃ i, xs = [.int i] ∧ Q (.int i) H) ∨ ∃ k, xs = [.bl k] ∧ Q (.int (if k then 1 else 0)) H
theorem cr_int {X : Cx} : CallR X (.type "int") rInt1 := call_int1
theorem rd_intI (k : Q (.int i) H) : rInt1 [.int i] H Q := .inl ⟨i, rfl, k⟩
theorem rd_intB (k : Q (.int (b2I b)) H) : rInt1 [.bl b] H Q := .inr ⟨b, rfl, k⟩
def rMax2 : List V → Hp → VK → Prop := fun xs H Q => ∃ i j, xs = [.int i, .int j] ∧ Q (.int (if j > i then j else i)) H
theorem cr_max2 {X : Cx} (hc : X.calm = true) : CallR X (.builtin "max") rMax2 := call_max2 hc
theorem rd_max2 (k : Q (.int (maxI i j)) H) : rMax2 [.int i, .int j] H Q := ⟨i, j, rfl, k⟩
def rMin2 : List V → Hp → VK → Prop := fun xs H Q => ∃ i j, xs = [.int i, .int j] ∧ Q (.int (if j < i then j else i)) H
theorem cr_min2 {X : Cx} (hc : X.calm = true) : CallR X (.builtin "min") rMin2 := call_min2 hc
theorem rd_min2 (k : Q (.int (minI i j)) H) : rMin2 [.int i, .int j] H Q := ⟨i, j, rfl, k⟩
def rLenS : List V → Hp → VK → Prop := fun xs H Q => ∃ z, xs = [.str z] ∧ z.length ≤ sizeLine ∧ Q (.int z.length) H
theorem cr_lenS {X : Cx} : CallR X (.builtin "len") rLenS := call_len_str
theorem rd_lenS {z : Str} (h : fitsS z = true) (k : Q (.int (z.length : Int)) H) : rLenS [.str z] H Q := ⟨z, rfl, fitsS_of h, k⟩
def rLenQ (K : PySem.W.Frag) : List V → Hp → VK → Prop := fun xs H Q => ∃ p ys, xs = [.ref p] ∧ (SqL K H p ys ∨ SqT K H p ys) ∧ Q (.int ys.length) H
theorem cr_lenQ {X : Cx} : CallR X (.builtin "len") (rLenQ X.K) := call_len_seq
theorem rd_lenQ {α : Type} {A : R α} {F : Hp} {xs : List α} (s : SeenQ A K F H v xs) (k : Q (.int (xs.length : Int)) H) : rLenQ K [v] H Q := rd_len s k
def rListQ (K : PySem.W.Frag) : List V → Hp → VK → Prop := fun xs H Q => ∃ p ys, xs = [.ref p] ∧ (SqL K H p ys ∨ SqT K H p ys) ∧ ∀ l, H l = none → Q (.ref l) (upd H l (.lst ys))
theorem cr_listQ {X : Cx} : CallR X (.type "list") (rListQ X.K) := call_list_of
theorem rd_listQ {α : Type} {A : R α} {F : Hp} {xs : List α} (s : SeenQ A K F H v xs) (k : nL A K F Q H xs) : rListQ K [v] H Q := rd_list s k
/-! targets, statements -/
variable {QS : L2.St → Hp → Prop} {g : TG} {ts us : TS} {N B C : L2.St → Hp → Prop} {R : VK}
theorem rd_gn {i : Nat} (k : QS (σ.set i (some v)) H) : gName i v σ H QS := k
theorem rd_gsub {st : TSet} (k : ta σ H fun o H1 => tb σ H1 fun i H2 => st o i v H2 fun H3 => QS σ H3) : gSub ta tb st v σ H QS := k
theorem rd_seq (k : ts ⟨us ⟨N, R, B, C⟩, R, B, C⟩ σ H) : tSeq ts us ⟨N, R, B, C⟩ σ H := k
theorem rd_asg (k : te σ H fun x H1 => g x σ H1 N) : tAsg te g ⟨N, R, B, C⟩ σ H := k
theorem rd_ifS (k : t σ H fun b H1 => if b = true then ts D σ H1 else us D σ H1) : tIfS t ts us D σ H := k
theorem rd_ret (k : te σ H R) : tRet te ⟨N, R, B, C⟩ σ H := k
theorem rd_drop (k : te σ H fun _ H1 => N σ H1) : tDrop te ⟨N, R, B, C⟩ σ H := k
theorem rd_next (k : N σ H) : tNext ⟨N, R, B, C⟩ σ H := k
theorem rd_cut (Mid : L2.St → Hp → Prop) (h : ts ⟨Mid, R, B, C⟩ σ H) (k : ∀ σ' H', Mid σ' H' → us ⟨N, R, B, C⟩ σ' H') : C8.tCut ts us ⟨N, R, B, C⟩ σ H := ⟨Mid, h, k⟩
theorem rd_aug {i : Nat} {ti : TIp} {x : V} (h : σ[i]? = some (some x)) (k : te σ H fun y H1 => ti x y H1 fun z H2 => N (σ.set i (some z)) H2) : tAug i te ti ⟨N, R, B, C⟩ σ H := ⟨x, h, k⟩
theorem rd_ipI {f : Int → Int → Int} (k : Q (.int (f i j)) H) : ipI f (.int i) (.int j) H Q := ⟨i, j, rfl, rfl, k⟩
theorem rd_for {wi : TI} (k : wi σ H fun J H1 => ForG J g ts D σ H1) : tFor wi g ts D σ H := k
theorem rd_lc {wi : TI} {vs : List Nat} (k : wi σ H fun J H1 => ∀ D, H1 D = none → LcG J g t te vs σ D Q H1) : tLc wi g t te vs σ H Q := k
variable {RI : It → Hp → Prop}
/-- what is wanted of a walked list, tuple, text, range -/
def wL (K : PySem.W.Frag) (RI : It → Hp → Prop) : VK := fun x H1 => ∃ a, x = .ref a ∧ (∃ xs, SqL K H1 a xs) ∧ RI (Itl K a) H1
def wT (K : PySem.W.Frag) (RI : It → Hp → Prop) : VK := fun x H1 => ∃ a, x = .ref a ∧ (∃ xs, SqT K H1 a xs) ∧ RI (Itt K a) H1
def wS (RI : It → Hp → Prop) : VK := fun v H1 => ∃ x, v = .str x ∧ RI (Its x) H1
def wR1 (RI : It → Hp → Prop) : List V → Hp → Prop := fun vs H1 => ∃ j : Int, vs = [.int j] ∧ -(2 ^ 62) ≤ j ∧ j < 2 ^ 62 ∧ RI (Itr 0 j.toNat) H1
def wR2 (RI : It → Hp → Prop) : List V → Hp → Prop := fun vs H1 => ∃ i j : Int, vs = [.int i, .int j] ∧ (-(2 ^ 62) ≤ i ∧ i < 2 ^ 62 ∧ -(2 ^ 62) ≤ j ∧ j < 2 ^ 62) ∧ RI (Itr i (j - i).toNat) H1
theorem rd_iL (k : te σ H (wL K RI)) : iList K te σ H RI := k
theorem rd_iT (k : te σ H (wT K RI)) : iTup K te σ H RI := k
/-- over a list or a tuple -/
def iSeq (K : PySem.W.Frag) (te : TE) : TI := fun σ H R => iList K te σ H R ∨ iTup K te σ H R
theorem pi_seq {X : Cx} {tg l : Expr} (hl : PE X l te) : PI X tg l (iSeq X.K te) := ⟨fun pins s σ H R I h => h.elim (fun h => (pi_list hl).run pins s σ H R I h) fun h => (pi_tup hl).run pins s σ H R I h⟩
theorem rd_iS (k : te σ H (wS RI)) : iStr te σ H RI := k
theorem rd_iR1 (k : tr σ H (wR1 RI)) : iRng1 tr σ H RI := k
theorem rd_iR2 (k : tr σ H (wR2 RI)) : iRng2 tr σ H RI := k
theorem rd_wS {z : Str} (k : RI (Its z) H) : wS RI (.str z) H := ⟨z, rfl, k⟩
def rgOk (a b : Int) : Bool := (decide (-(2 ^ 62) ≤ a) && decide (a < 2 ^ 62)) && (decide (-(2 ^ 62) ≤ b) && decide (b < 2 ^ 62))
theorem rd_r1 {n : Int} (h : rgOk 0 n = true) (k : RI (Itr 0 (n - 0).toNat) H) : wR1 RI [.int n] H := by
  unfold rgOk at h
  simp only [Bool.and_eq_true, decide_eq_true_eq] at h
  exact ⟨n, rfl, h.2.1, h.2.2, by rw [Int.sub_zero] at k; exact k⟩
theorem rd_r2 {a b : Int} (h : rgOk a b = true) (k : RI (Itr a (b - a).toNat) H) : wR2 RI [.int a, .int b] H := by
  unfold rgOk at h
  simp only [Bool.and_eq_true, decide_eq_true_eq] at h
  exact ⟨a, b, rfl, ⟨h.1.1, h.1.2, h.2.1, h.2.2⟩, k⟩
end
end Gl

namespace Gl
open PySem PySem.Spec PyProof.Rows L2

theorem if_t {α : Type} {b : Bool} {x y r : α} (h : (if b = true then x else y) = r) (hb : b = true) : x = r := by
  rw [hb] at h; exact h
theorem if_f {α : Type} {b : Bool} {x y r : α} (h : (if b = true then x else y) = r) (hb : b = false) : y = r := by
  rw [hb] at h; exact h
theorem if_tt {A B : Prop} (h : A) : if true = true then A else B := h
theorem aft_nx {S ρ : Type} {s : S} {k : S → Option ρ} {r : Option ρ} (h : aft (.nx s) k = r) : k s = r := h
theorem aft_rt {S ρ : Type} {v : ρ} {k : S → Option ρ} {r : Option ρ} (h : aft (.rt v) k = r) : some v = r := h
theorem aftC_nx {S S' ρ : Type} {s : S} {k : S → Option (Ctl S' ρ)} {r : Option (Ctl S' ρ)} (h : aftC (.nx s) k = r) : k s = r := h
theorem aftC_rt {S S' ρ : Type} {v : ρ} {k : S → Option (Ctl S' ρ)} {r : Option (Ctl S' ρ)} (h : aftC (.rt v) k = r) : some (.rt v) = r := h
/-- behind a loop that may break off but does not return -/
def aftN {S ρ : Type} (c : Ctl S Unit) (k : S → Option ρ) : Option ρ := match c with
  | .nx s => k s
  | .bk s => k s
  | .rt _ => none
theorem aftN_nx {S ρ : Type} {s : S} {k : S → Option ρ} {r : Option ρ} (h : aftN (.nx s) k = r) : k s = r := h

/-! ## text times int, list(text) -/
section
variable {X : Cx}
def repS (x : Str) (n : Int) : Str := Txt.mul x n
def repOk (x : Str) (n : Int) : Bool := (decide (-(2 ^ 62) ≤ n) && decide (n < 2 ^ 62)) && decide (x.length * n.toNat ≤ 100000) && decide (x.length ≤ 100000)
theorem repOk_of {x : Str} {n : Int} (h : repOk x n = true) : MulOk x n := by
  unfold repOk at h
  simp only [Bool.and_eq_true, decide_eq_true_eq] at h
  obtain ⟨⟨⟨h1, h2⟩, h3⟩, h4⟩ := h
  refine ⟨?_, fun a _ => ?_, fun a _ => ?_⟩
  · have e1 : decide (n < -(2 ^ 63 : Int)) = false := decide_eq_false (by omega)
    have e2 : decide (n ≥ (2 ^ 63 : Int)) = false := decide_eq_false (by omega)
    rw [e1, e2]; rfl
  · have hn : 0 < n := by omega
    intro c
    have e3 : (x.length : Int) * n ≤ 100000 := by
      have e4 : ((x.length * n.toNat : Nat) : Int) ≤ ((100000 : Nat) : Int) := Int.ofNat_le.mpr h3
      have e5 : (n.toNat : Int) = n := Int.toNat_of_nonneg (by omega)
      rw [Int.natCast_mul, e5] at e4
      have e7 : ((100000 : Nat) : Int) = 100000 := rfl
      rw [e7] at e4
      exact e4
    have e6 : (x.length : Int) ≤ (2 ^ 63 - 1) / n := by
      rw [Int.le_ediv_iff_mul_le hn]
      omega
    omega
  · have e1 : sizeLine = 16777216 := sizeLine_eq
    unfold Builtin.Str.tooLong
    exact decide_eq_false (by omega)
def rRepS : R2 := fun x y H Q => ∃ z n, x = .str z ∧ y = .int n ∧ repOk z n = true ∧ Q (.str (repS z n)) H
theorem op_repS : OpR X (binaryOp .Mult) rRepS := by
  intro pins s σ H x y v u Q I rx ry h
  obtain ⟨z, n, rfl, rfl, ok, q⟩ := h
  obtain ⟨t, rfl⟩ := rx
  obtain ⟨t', rfl⟩ := ry
  exact SB.mul (repOk_of ok) fun t2 k => ⟨.str _, H, I.tok _, ⟨_, rfl⟩, q⟩
theorem rd_repS {H : Hp} {Q : VK} {z : Str} {n : Int} (h : repOk z n = true) (k : Q (.str (repS z n)) H) : rRepS (.str z) (.int n) H Q := ⟨z, n, rfl, rfl, h, k⟩
def rListS : List V → Hp → VK → Prop := fun xs H Q => ∃ z : Str, xs = [.str z] ∧ z.cps.size ≤ sizeLine ∧ ∀ l, H l = none → Q (.ref l) (upd H l (.lst ((sgns z).map V.str)))
theorem vals_signs {z : Str} {acc : Array Value} (h : ItemsOf (SignAt z) acc z.cps.size) : Vals ((sgns z).map V.str) acc.toList := by
  have hs : acc.toList.length = z.cps.size := by rw [Array.length_toList]; exact h.1
  have key : ∀ (l : List Value) (cs : List Nat), l.length = cs.length → (∀ (j : Nat) (u : Value), l[j]? = some u → ∃ (c : Nat) (t : Tok), cs[j]? = some c ∧ u = Value.str ⟨#[c]⟩ t) → Vals ((cs.map fun c => (⟨#[c]⟩ : Str)).map V.str) l := by
    intro l
    induction l with
    | nil => intro cs hl _; cases cs with
      | nil => exact .nil
      | cons c r => cases hl
    | cons u l ih =>
      intro cs hl hj
      cases cs with
      | nil => cases hl
      | cons c r =>
        obtain ⟨c', t, e1, e2⟩ := hj 0 u rfl
        cases e1
        exact .cons ⟨t, e2⟩ (ih r (Nat.succ.inj hl) fun j w e => hj (j + 1) w e)
  refine key acc.toList z.cps.toList (by rw [hs]; rfl) fun j u e => ?_
  have e' : acc[j]? = some u := by rw [← Array.getElem?_toList]; exact e
  obtain ⟨c, t, e1, e2⟩ := h.2 j u e'
  exact ⟨c, t, by rw [Array.getElem?_toList]; exact e1, e2⟩
theorem cr_listS (hc : X.calm = true) : CallR X (.type "list") rListS := by
  intro pins s σ H xs us Q I r h
  obtain ⟨z, rfl, hz, q⟩ := h
  obtain ⟨u, rfl, t, rfl⟩ := vals1 r
  refine PySem.call_list_str (I.ok.hd hc) z t (fun h' tk acc' c' hk hS hacc => ?_) hz
  have hsz : ((sgns z).map V.str).length ≤ sizeLine := by unfold sgns; simpa using hz
  have I1 := I.laid (a := s.heap.objs.size) (o := .lst ((sgns z).map V.str)) (t' := tk) (h' := h') hk (Nat.le_refl _) (show ObjOk X.prog X.w _ _ _ (.lst _) from ⟨hsz, acc'.toList, c', vals_signs hacc, by simpa using hS⟩)
  exact ⟨.ref s.heap.objs.size, _, I1, rfl, q _ (I.hok.fresh (Nat.le_refl _))⟩
theorem row_strs {K : PySem.W.Frag} {F : Hp} : ∀ xs : List Str, Row qS K F (xs.map V.str) xs
  | [] => .nil
  | _ :: xs => .cons rfl (row_strs xs)
theorem rd_listS {K : PySem.W.Frag} {F H : Hp} {Q : VK} {z : Str} (h : fitsS z = true) (k : nL qS K F Q H (sgns z)) : rListS [.str z] H Q :=
  ⟨z, rfl, fitsS_of h, fun l hl => k l _ hl (row_strs _)⟩
end
/-! ## walked rows -/
section
variable {K : PySem.W.Frag} {P : Addr → Prop} {F0 H0 F H : Hp} {v : V} {α : Type} {A : R α} {xs : List α} {RI : It → Hp → Prop} {σ : L2.St} {te : TE}
theorem rd_wLF (S : Sx P F0 H0 F H) (r : (qL A).r K F v xs) (k : ∀ p vs, SqL K F p vs → Row A K F vs xs → RI (Itl K p) H) : wL K RI v H := by
  obtain ⟨p, vs, rfl, h1, h2⟩ := r
  exact ⟨p, rfl, ⟨vs, Same.seq S.sub (SqL.of h1)⟩, k p vs (SqL.of h1) h2⟩
theorem rd_wLC {xs : List Int} (S : Sx P F0 H0 F H) (r : qC.r K F v xs) (k : ∀ p vs, SqL K F p vs → Row qI K F vs xs → RI (Itl K p) H) : wL K RI v H := by
  obtain ⟨p, rfl, h1⟩ := r
  exact ⟨p, rfl, ⟨_, Same.seq S.sub h1⟩, k p _ h1 (row_ints xs)⟩
theorem rd_wTF (S : Sx P F0 H0 F H) (r : (qT A).r K F v xs) (k : ∀ p vs, SqT K F p vs → Row A K F vs xs → RI (Itt K p) H) : wT K RI v H := by
  obtain ⟨p, vs, rfl, h1, h2⟩ := r
  exact ⟨p, rfl, ⟨vs, same_t S.sub h1⟩, k p vs h1 h2⟩
/-- over a list or a tuple: whichever it is -/
theorem rd_wSeq (S : Sx P F0 H0 F H) (r : (qQ A).r K F v xs) (hv : ∀ Q : VK, Q v H → te σ H Q)
    (k : ∀ (J : It) (n : Nat) (G : Hp → Prop) (it : Nat → V → Prop), Feeds J n G it → Typed A K F n it xs → (∀ F' H', Same F F' → Same F' H' → G H') → RI J H) : iSeq K te σ H RI := by
  rcases r with ⟨p, vs, rfl, h1, h2⟩ | ⟨p, vs, rfl, h1, h2⟩
  · refine .inl (hv _ ⟨p, rfl, ⟨vs, Same.seq S.sub (SqL.of h1)⟩, k _ _ _ _ feedsL (typedRow h2) fun F' H' e1 e2 => Same.seq e2 (Same.seq e1 (SqL.of h1))⟩)
  · refine .inr (hv _ ⟨p, rfl, ⟨vs, same_t S.sub h1⟩, k _ _ _ _ feedsT (typedRow h2) fun F' H' e1 e2 => same_t e2 (same_t e1 h1)⟩)
end
/-! ## targets of two names; a block's slots -/
section
variable {K : PySem.W.Frag} {σ : L2.St} {H : Hp} {p : Addr} {u w : V} {QS : L2.St → Hp → Prop} {t g : TG} {ts : TGs} {n : Nat} {vs : List V}
theorem rd_gt2 (h : SqT K H p [u, w]) (k : ts [u, w] σ H QS) : gTup K 2 ts (.ref p) σ H QS := ⟨p, _, rfl, h, rfl, k⟩
theorem rd_gt3 {z : V} (h : SqT K H p [u, w, z]) (k : ts [u, w, z] σ H QS) : gTup K 3 ts (.ref p) σ H QS := ⟨p, _, rfl, h, rfl, k⟩
theorem rd_gc {v : V} (k : g v σ H fun σ' H' => ts vs σ' H' QS) : gCons g ts (v :: vs) σ H QS := ⟨v, vs, rfl, k⟩
theorem rd_gl (k : QS σ H) : gNil [] σ H QS := ⟨rfl, k⟩
theorem rd_wp {A B : Prop} (h : A) (k : B) : A ∧ B := ⟨h, k⟩
theorem rd_cont {N B C : L2.St → Hp → Prop} {R : VK} (k : C σ H) : tCont ⟨N, R, B, C⟩ σ H := k
theorem rd_brk {N B C : L2.St → Hp → Prop} {R : VK} (k : B σ H) : tBreak ⟨N, R, B, C⟩ σ H := k
end
/-! ## isinstance of a value whose kind is known -/
section
variable {K : PySem.W.Frag} {P : Addr → Prop} {F0 H0 F H : Hp} {v : V} {α β : Type} {A : R α} {B : R β} {xs : List α} {Q : VK}
theorem tx_int {i : Int} : TyX K H (.int i) (.type "int") := .base (.int i)
theorem tx_bl {i : Bool} : TyX K H (.bl i) (.type "bool") := .base (.bl i)
theorem tx_str {i : Str} : TyX K H (.str i) (.type "str") := .base (.str i)
theorem tx_non : TyX K H .non (.type "NoneType") := .base .non
theorem tx_list (s : SeenR A K F H v xs) : TyX K H v (.type "list") := by
  obtain ⟨p, vs, rfl, (h | ⟨o, h⟩) | ⟨o, its, n, h1, h2, _⟩, _⟩ := s
  · exact .base (.lst h)
  · exact .base (.frz h)
  · exact .kList h1 h2
theorem tx_sqt {p : Addr} {vs : List V} (h : SqT K H p vs) : TyX K H (.ref p) (.type "tuple") := by
  rcases h with (h | ⟨o, h⟩) | ⟨o, its, n, h1, h2, _⟩
  · exact .base (.tup h)
  · exact .fTuple h
  · exact .kTuple h1 h2
theorem tx_tup (s : SeenT A K F H v xs) : TyX K H v (.type "tuple") := by
  obtain ⟨p, vs, rfl, h, _⟩ := s
  exact tx_sqt h
theorem tx_pair {x : α × β} (S : Sx P F0 H0 F H) (r : (q2 A B).r K F v x) : TyX K H v (.type "tuple") := by
  obtain ⟨p, u, w, rfl, h, _⟩ := r
  exact tx_sqt (same_t S.sub h)
theorem rd_isi {t : Value} {n : String} {b : Bool} (s : TyX K H v t) (h : PySem.W.kitOne [] t (.type n) = some b) (k : Q (.bl b) H) (hk : PySem.W.kitOne K t (.type n) = PySem.W.kitOne [] t (.type n) := by rfl) : rIsi K [v, .ty n] H Q :=
  ⟨v, .ty n, t, .type n, b, rfl, .ty n, s, hk.trans h, k⟩
end
/-! ## list(range(..)) -/
section
variable {σ : L2.St} {H : Hp} {Q : VK} {ta tb : TE} {tr : L2.St → Hp → (Int → Int → Hp → Prop) → Prop} {K : PySem.W.Frag} {F : Hp} {QI : Int → Int → Hp → Prop}
def rgFit (a b : Int) : Bool := (decide (-(2 ^ 62) ≤ a) && decide (a < 2 ^ 62)) && (decide (-(2 ^ 62) ≤ b) && (decide (b < 2 ^ 62) && decide ((b - a).toNat ≤ 100000)))
def gK (Q : VK) : Int → Int → Hp → Prop := fun a b H1 => RgOk a b ∧ ∀ q, H1 q = none → Q (.ref q) (upd H1 q (.lst (rgV a b)))
theorem rd_lrg (k : tr σ H (gK Q)) : tLstRg tr σ H Q := k
def g1K (Q : Int → Int → Hp → Prop) : VK := fun x H1 => ∃ n, x = .int n ∧ Q 0 n H1
theorem rd_g1 (k : ta σ H (g1K QI)) : tRg1 ta σ H QI := k
theorem rd_g1i {n : Int} (k : QI 0 n H) : g1K QI (.int n) H := ⟨n, rfl, k⟩
def g2K (Q : Int → Int → Hp → Prop) : V → V → Hp → Prop := fun x y H2 => ∃ i j, x = .int i ∧ y = .int j ∧ Q i j H2
theorem rd_g2 (k : ta σ H fun x H1 => tb σ H1 fun y H2 => g2K QI x y H2) : tRg2 ta tb σ H QI := k
theorem rd_g2i {i j : Int} (k : QI i j H) : g2K QI (.int i) (.int j) H := ⟨i, j, rfl, rfl, k⟩
theorem row_rg {a b : Int} : Row qI K F (rgV a b) (rng a b) := by
  unfold rgV rng
  have : ∀ l : List Nat, Row qI K F (l.map fun i : Nat => V.int (a + (i : Nat))) (l.map fun i : Nat => a + (i : Nat)) := fun l => by
    induction l with
    | nil => exact .nil
    | cons x l ih => exact .cons rfl ih
  exact this _
theorem rd_lrgE {a b : Int} (h : rgFit a b = true) (k : nL qI K F Q H (rng a b)) : gK Q a b H := by
  unfold rgFit at h
  simp only [Bool.and_eq_true, decide_eq_true_eq] at h
  obtain ⟨⟨h1, h2⟩, h3, h4, h5⟩ := h
  exact ⟨⟨h1, h2, h3, h4, by omega⟩, fun q hq => k q _ hq row_rg⟩
end
/-! ## a def's promise, its end -/
theorem live1 {P : Addr → Prop} {H0 F H : Hp} {p : Addr} {o : HO} (w : Ow P H0 F H p o) : ∀ a, a = p → H a ≠ none := fun a z => by rw [z, w.at_]; exact fun h => nomatch h
end Gl
namespace Gl
open PySem PySem.Spec PyProof.Rows L2
theorem ifE_j {b : Bool} {u1 u2 : VK → Prop} {Q : VK} (J : V → Hp → Prop) (h1 : b = true → ∀ Q' : VK, (∀ c H', J c H' → Q' c H') → u1 Q') (h2 : b = false → ∀ Q' : VK, (∀ c H', J c H' → Q' c H') → u2 Q') (k : ∀ c H', J c H' → Q c H') : if b = true then u1 Q else u2 Q := by
  cases b with
  | true => exact h1 rfl Q k
  | false => exact h2 rfl Q k
end Gl
namespace Gl
open PySem PySem.Spec PyProof.Rows L2
/-! ## what is never reached -/
theorem if_ff {A B : Prop} (h : B) : if false = true then A else B := h
section
variable {X : Cx}
theorem ps_dead {st : Stmt} : PS X st (fun _ _ _ => False) := ⟨fun _ _ _ _ _ _ h => h.elim⟩
theorem pss_dead {ss : List Stmt} : PSs X ss (fun _ _ _ => False) := ⟨fun _ _ _ _ _ _ h => h.elim⟩
theorem pe_dead {e : Expr} : PE X e (fun _ _ _ => False) := ⟨fun _ _ _ _ _ _ h => h.elim⟩
theorem pt_dead {e : Expr} : PT X e (fun _ _ _ => False) := ⟨fun _ _ _ _ _ _ h => h.elim⟩
theorem pw_dead {e : Expr} : PW X e (fun _ _ _ => False) := ⟨fun _ _ _ _ _ _ _ h => h.elim⟩
end
end Gl

namespace Gl
open PySem PySem.Spec PyProof.Rows L2

/-! ## a thing of any plain kind -/
inductive Th where
  | d (x : PyData) | dct
def qTh : R Th := ⟨fun K F v a => match a with
  | .d x => Dp K F v x
  | .dct => ∃ p, v = .ref p ∧ F p = some (.dK []), fun {K F F' v a} e h => by
    cases a with
    | d x => exact Dp.mono e h
    | dct =>
      obtain ⟨p, h1, h2⟩ := h
      exact ⟨p, h1, e _ _ h2⟩⟩
def thK : Th → String
  | .d .none => "NoneType"
  | .d (.bool _) => "bool"
  | .d (.int _) => "int"
  | .d (.str _) => "str"
  | .d (.list _) => "list"
  | .d (.tuple _) => "tuple"
  | .d (.dict _) => "dict"
  | .dct => "dict"
def isK (k n : String) : Bool := k == n || (k == "bool" && n == "int")
def thIs (n : String) (a : Th) : Bool := isK (thK a) n
def thS : Th → Option Str
  | .d (.str s) => some s
  | _ => none
def thI : Th → Option Int
  | .d (.int s) => some s
  | _ => none
section
variable {K : PySem.W.Frag} {P : Addr → Prop} {F0 H0 F H : Hp} {v : V} {a : Th} {Q : VK}
theorem thS_fact {s : Str} (r : qTh.r K F v a) (h : thS a = some s) : v = .str s := by
  cases a with
  | dct => cases h
  | d x =>
    cases x with
    | str z =>
      cases (show some z = some s from h)
      cases (show Dp K F v (.str _) from r)
      rfl
    | _ => cases h
theorem thI_fact {s : Int} (r : qTh.r K F v a) (h : thI a = some s) : v = .int s := by
  cases a with
  | dct => cases h
  | d x =>
    cases x with
    | int z =>
      cases (show some z = some s from h)
      cases (show Dp K F v (.int _) from r)
      rfl
    | _ => cases h
theorem tx_sql {p : Addr} {vs : List V} (h : SqL K H p vs) : TyX K H (.ref p) (.type "list") := by
  rcases h with (h | ⟨o, h⟩) | ⟨o, its, n, h1, h2, _⟩
  · exact .base (.lst h)
  · exact .base (.frz h)
  · exact .kList h1 h2
theorem tx_th (S : Sx P F0 H0 F H) (r : qTh.r K F v a) : TyX K H v (.type (thK a)) := by
  cases a with
  | dct =>
    obtain ⟨p, rfl, h⟩ := r
    exact .base (.dK (S.sub _ _ h))
  | d x =>
    cases x with
    | none => cases (show Dp K F v .none from r); exact tx_non
    | bool b => cases (show Dp K F v (.bool b) from r); exact tx_bl
    | int b => cases (show Dp K F v (.int b) from r); exact tx_int
    | str b => cases (show Dp K F v (.str b) from r); exact tx_str
    | list b =>
      cases (show Dp K F v (.list b) from r) with
      | lst h _ => exact tx_sql (Same.seq S.sub h)
    | tuple b =>
      cases (show Dp K F v (.tuple b) from r) with
      | tup h _ => exact tx_sqt (same_t S.sub h)
    | dict b => cases (show Dp K F v (.dict b) from r)
theorem rd_isiTh {n : String} (s : TyX K H v (.type (thK a))) (h : (["NoneType", "bool", "int", "str", "list", "tuple", "dict"].all fun k => decide (PySem.W.kitOne [] (.type k) (.type n) = some (isK k n))) = true) (k : Q (.bl (thIs n a)) H) (hk : ∀ t, PySem.W.kitOne K (.type t) (.type n) = PySem.W.kitOne [] (.type t) (.type n) := by intro t; rfl) : rIsi K [v, .ty n] H Q := by
  refine ⟨v, .ty n, _, .type n, thIs n a, rfl, .ty n, s, (hk _).trans ?_, k⟩
  have hm : thK a ∈ ["NoneType", "bool", "int", "str", "list", "tuple", "dict"] := by
    cases a with
    | dct => decide
    | d x => cases x <;> simp [thK]
  exact of_decide_eq_true (List.all_eq_true.mp h _ hm)
theorem rd_dnew {σ : L2.St} (k : nK Q H (.dK [])) : tDNewK σ H Q := k
theorem rd_dict (S : Sx P F0 H0 F H) (k : ∀ v F' H', Sx P0 F H F' H' → qTh.r K F' v .dct → Q v H') : nK Q H (.dK []) :=
  alF S fun p F' H' c h => k _ F' H' c ⟨p, rfl, h⟩
end
/-! ### is, of truths -/
section
variable {X : Cx}
theorem op_isB : OpR X (compareOp .Is) (rB0 fun i j => .bl (decide (i = j))) := by
  intro pins s σ H x y v u Q I rx ry h
  obtain ⟨i, j, rfl, rfl, q⟩ := h
  cases rx; cases ry
  refine wpAny_is_plain (by cases i <;> cases j <;> rfl) ?_
  refine fin_bl I q ?_
  cases i <;> cases j <;> rfl
theorem op_isnotB : OpR X (compareOp .IsNot) (rB0 fun i j => .bl (!decide (i = j))) := by
  intro pins s σ H x y v u Q I rx ry h
  obtain ⟨i, j, rfl, rfl, q⟩ := h
  cases rx; cases ry
  show wpAny _ _ ((isSame _ _) >>= fun z => pure (Value.bool (!z))) _ _ s
  refine wpAny_bind (wpAny_isSame_plain (by cases i <;> cases j <;> rfl) (wpAny_pure (fin_bl I q ?_)))
  cases i <;> cases j <;> rfl
end
end Gl

namespace Gl
open PySem PySem.Spec PyProof.Rows L2

/-! ## iterators that hand out new pairs -/
structure Feeds2 (J : It) (n : Nat) (G : Hp → Prop) (it : Nat → V → V → Prop) : Prop where
  go : ∀ i H, i < n → G H → J.go i H
  stop : ∀ H, G H → J.stop n H
  yld : ∀ i H x H', i < n → G H → J.yld i H x H' → ∃ T u w, x = .ref T ∧ H T = none ∧ H' = upd H T (.tup [u, w]) ∧ it i u w
structure Typed2 {α β : Type} (A : R α) (B : R β) (K : PySem.W.Frag) (F : Hp) (n : Nat) (it : Nat → V → V → Prop) (xs : List (α × β)) : Prop where
  len : xs.length = n
  at_ : ∀ i u w, it i u w → ∃ a, xs[i]? = some a ∧ A.r K F u a.1 ∧ B.r K F w a.2
def enumI {α : Type} (xs : List α) : List (Int × α) := (rng 0 xs.length).zip xs
theorem enumI_len {α : Type} (xs : List α) : (enumI xs).length = xs.length := by
  unfold enumI
  rw [List.length_zip]
  have : (rng 0 (xs.length : Int)).length = xs.length := by unfold rng; simp
  rw [this, Nat.min_self]
theorem enumI_at {α : Type} {xs : List α} {i : Nat} {x : α} (h : xs[i]? = some x) : (enumI xs)[i]? = some ((i : Int), x) := by
  have hi : i < xs.length := (List.getElem?_eq_some_iff.mp h).1
  unfold enumI
  rw [List.getElem?_zip_eq_some]
  refine ⟨?_, h⟩
  unfold rng
  rw [List.getElem?_map, List.getElem?_range (by omega)]
  simp
theorem feedsE {K : PySem.W.Frag} {a : Addr} {vs : List V} : Feeds2 (Ite K a) vs.length (fun H => SqL K H a vs) (fun i u w => u = .int (i : Nat) ∧ vs[i]? = some w) :=
  ⟨fun i H h q => ⟨vs, vs[i], q, by simp [h]⟩, fun H q => ⟨vs, q, Nat.le_refl _⟩, fun i H x H' h q ⟨T, w, e1, e2, e3, e4⟩ => ⟨T, _, w, e1, e2, e3, rfl, e4 vs q⟩⟩
theorem typedE {α : Type} {A : R α} {K : PySem.W.Frag} {F : Hp} {vs : List V} {xs : List α} (r : Row A K F vs xs) : Typed2 qI A K F vs.length (fun i u w => u = .int (i : Nat) ∧ vs[i]? = some w) (enumI xs) :=
  ⟨by rw [enumI_len, (pLen r)], fun i u w ⟨e1, e2⟩ => by
    obtain ⟨a, h1, h2⟩ := pGetL r e2
    exact ⟨((i : Int), a), enumI_at h1, e1, h2⟩⟩
/-- a new pair, then on -/
def enK (g : TG) (σ : L2.St) (H : Hp) (Q : L2.St → Hp → Prop) (u w : V) : Prop := ∀ T, H T = none → g (.ref T) σ (upd H T (.tup [u, w])) Q
section
variable {P : Addr → Prop} {F0 H0 F H : Hp} {K : PySem.W.Frag} {g : TG} {σ : L2.St} {Q : L2.St → Hp → Prop} {u w : V}
theorem alE (S : Sx P F0 H0 F H) (k : ∀ T F' H', Sx P0 F H F' H' → SqT K F' T [u, w] → g (.ref T) σ H' Q) : enK g σ H Q u w :=
  fun T hT => k T _ _ ((Sx.refl0 S.sub).alloc hT) (.inl (.inl upd_same))
end
section
variable {J : It} {n : Nat} {G : Hp → Prop} {it : Nat → V → V → Prop} {α β S ρ : Type} {A : R α} {B : R β} {K : PySem.W.Frag} {F : Hp} {xs : List (α × β)} {g : TG} {tb : TS} {σ : L2.St} {H : Hp} {Nx Bx Cx : L2.St → Hp → Prop} {Rx : VK}
theorem rd_forS2 (Fd : Feeds2 J n G it) (Ty : Typed2 A B K F n it xs) {f : α × β → S → Option S} {s0 s1 : S} (hm : loopS f xs s0 = some s1) (Iv : S → L2.St → Hp → Prop) (hG : ∀ s σ H, Iv s σ H → G H) (h0 : Iv s0 σ H)
    (turn : ∀ (a : α × β) (u w : V) (s s' : S) (σ : L2.St) (H : Hp), A.r K F u a.1 → B.r K F w a.2 → Iv s σ H → f a s = some s' → enK g σ H (fun σ2 H2 => tb ⟨Iv s', Rx, Nx, Iv s'⟩ σ2 H2) u w)
    (done : ∀ σ H, Iv s1 σ H → Nx σ H) : ForG J g tb ⟨Nx, Rx, Bx, Cx⟩ σ H := by
  refine ⟨fun i m σ H => m = n - i ∧ i ≤ n ∧ ∃ s, Iv s σ H ∧ loopS f (xs.drop i) s = some s1, ⟨n, by simp, Nat.zero_le _, s0, h0, hm⟩, ?_⟩
  rintro i m σ H ⟨rfl, hi, s, iv, hl⟩
  by_cases hlt : i < n
  · obtain ⟨a, ha⟩ : ∃ a, xs[i]? = some a := ⟨xs[i]'(by rw [Ty.len]; exact hlt), by simp [Ty.len, hlt]⟩
    obtain ⟨s', e1, e2⟩ := loopS_at hl ha
    refine .inr ⟨Fd.go i H hlt (hG s σ H iv), Iv s', fun σ' H' p' => ⟨n - (i + 1), by omega, rfl, hlt, s', p', e2⟩, fun x H' y => ?_⟩
    obtain ⟨T, u, w, rfl, hT, rfl, hx⟩ := Fd.yld i H x H' hlt (hG s σ H iv) y
    obtain ⟨a', ha', r1, r2⟩ := Ty.at_ i u w hx
    rw [ha] at ha'
    cases ha'
    exact turn a u w s s' σ H r1 r2 iv e1 T hT
  · have e : i = n := by omega
    subst e
    rw [← Ty.len, List.drop_length] at hl
    cases hl
    exact .inl ⟨Fd.stop H (hG _ σ H iv), done σ H iv⟩
theorem rd_forC2 (Fd : Feeds2 J n G it) (Ty : Typed2 A B K F n it xs) {f : α × β → S → Option (Ctl S ρ)} {s0 : S} {c1 : Ctl S ρ} (hm : loopC f xs s0 = some c1) (Iv : S → L2.St → Hp → Prop) (hG : ∀ s σ H, Iv s σ H → G H) (h0 : Iv s0 σ H)
    (turn : ∀ (a : α × β) (u w : V) (s : S) (c : Ctl S ρ) (σ : L2.St) (H : Hp), A.r K F u a.1 → B.r K F w a.2 → Iv s σ H → f a s = some c → (∀ s' σ' H', c = .bk s' → Iv s' σ' H' → Nx σ' H') → (∀ r, c = .rt r → c1 = .rt r) →
      enK g σ H (fun σ2 H2 => tb ⟨fun σ' H' => ∃ s', c = .nx s' ∧ Iv s' σ' H', Rx, Nx, fun σ' H' => ∃ s', c = .nx s' ∧ Iv s' σ' H'⟩ σ2 H2) u w)
    (done : ∀ s σ H, c1 = .nx s → Iv s σ H → Nx σ H) : ForG J g tb ⟨Nx, Rx, Bx, Cx⟩ σ H := by
  refine ⟨fun i m σ H => m = n - i ∧ i ≤ n ∧ ∃ s, Iv s σ H ∧ loopC f (xs.drop i) s = some c1, ⟨n, by simp, Nat.zero_le _, s0, h0, hm⟩, ?_⟩
  rintro i m σ H ⟨rfl, hi, s, iv, hl⟩
  by_cases hlt : i < n
  · obtain ⟨a, ha⟩ : ∃ a, xs[i]? = some a := ⟨xs[i]'(by rw [Ty.len]; exact hlt), by simp [Ty.len, hlt]⟩
    obtain ⟨c, e1, e2⟩ := loopC_at hl ha
    refine .inr ⟨Fd.go i H hlt (hG s σ H iv), fun σ' H' => ∃ s', c = .nx s' ∧ Iv s' σ' H', fun σ' H' p' => ?_, fun x H' y => ?_⟩
    · obtain ⟨s', rfl, p'⟩ := p'
      exact ⟨n - (i + 1), by omega, rfl, hlt, s', p', e2⟩
    · obtain ⟨T, u, w, rfl, hT, rfl, hx⟩ := Fd.yld i H x H' hlt (hG s σ H iv) y
      obtain ⟨a', ha', r1, r2⟩ := Ty.at_ i u w hx
      rw [ha] at ha'
      cases ha'
      refine turn a u w s c σ H r1 r2 iv e1 (fun s' σ' H' e p => ?_) (fun r e => ?_) T hT
      · subst e
        exact done s' σ' H' (Option.some.inj e2).symm p
      · subst e
        exact (Option.some.inj e2).symm
  · have e : i = n := by omega
    subst e
    rw [← Ty.len, List.drop_length] at hl
    exact .inl ⟨Fd.stop H (hG _ σ H iv), done s σ H (Option.some.inj hl).symm iv⟩
end
section
variable {J : It} {n : Nat} {G : Hp → Prop} {it : Nat → V → V → Prop} {α β γ S : Type} {A : R α} {B : R β} {C : R γ} {K : PySem.W.Frag} {F1 H1 : Hp} {xs : List (α × β)} {g : TG} {tt : TT} {te : TE} {vs : List Nat} {σ : L2.St} {Q : VK}
theorem rd_comp2 (Fd : Feeds2 J n G it) (Ty : Typed2 A B K F1 n it xs) {f : α × β → S → Option (Option γ × S)} {s0 : S} {r : List γ × S} (hm : comp f xs s0 = some r) (hz : fitsE xs = true) {Pc : Addr → Prop} (hlv : ∀ a, Pc a → H1 a ≠ none) (hsub : Same F1 H1) (Ex : S → Hp → Hp → Prop)
    (hG : ∀ s F H, Sx Pc F1 H1 F H → Ex s F H → G H) (h0 : Ex s0 F1 H1) (hEx : ∀ s F H q o, Ex s F H → H1 q = none → H q = none → Ex s F (upd H q o)) (hEp : ∀ s F H q u o, Ex s F H → H1 q = none → H q = some u → Ex s F (upd H q o))
    (turn : ∀ (a : α × β) (u w : V) (s : S) (o : Option γ × S) (F H : Hp) (D : Addr) (acc : List V), A.r K F1 u a.1 → B.r K F1 w a.2 → Sx Pc F1 H1 F H → Ex s F H → Ow Pc H1 F H D (.lst acc) → H1 D = none → f a s = some o →
      ∀ (E : Hp → Prop) (N : V → Hp → Prop), (∀ y b F' H', o.1 = some b → Sx Pc F H F' H' → C.r K F' y b → Ex o.2 F' H' → N y H') → (∀ F' H', o.1 = none → Sx Pc F H F' H' → Ex o.2 F' H' → E H') →
      enK g (wipe σ vs) H (fun σ2 H2 => wipe σ2 vs = wipe σ vs ∧ tt σ2 H2 fun b H3 => if b = true then te σ2 H3 N else E H3) u w)
    (done : ∀ D us F H, H1 D = none → Sx Pc F1 H1 F H → Ex r.2 F H → Ow Pc H1 F H D (.lst us) → Row C K F us r.1 → Q (.ref D) H) : ∀ D, H1 D = none → LcG J g tt te vs σ D Q H1 := by
  intro D hD
  refine ⟨fun i m H => m = n - i ∧ i ≤ n ∧ ∃ s F acc ys r', Sx Pc F1 H1 F H ∧ Ex s F H ∧ Ow Pc H1 F H D (.lst acc) ∧ Row C K F acc ys ∧ acc.length ≤ i ∧ comp f (xs.drop i) s = some r' ∧ r = (ys ++ r'.1, r'.2), ⟨n, by simp, Nat.zero_le _, s0, F1, [], [], r, ?_, ?_, ?_, .nil, Nat.le_refl _, hm, rfl⟩, ?_⟩
  · exact (Sx.refl hsub hlv).temp hD
  · exact hEx _ _ _ _ _ h0 hD hD
  · exact (Sx.refl hsub hlv).own hD
  rintro i m H ⟨rfl, hi, s, F, acc, ys, r', S, ex, w, row, hal, hl, hr⟩
  by_cases hlt : i < n
  · obtain ⟨a, ha⟩ : ∃ a, xs[i]? = some a := ⟨xs[i]'(by rw [Ty.len]; exact hlt), by simp [Ty.len, hlt]⟩
    obtain ⟨o, r2, e1, e2, e3⟩ := comp_at hl ha
    refine .inr ⟨Fd.go i H hlt (hG s F H S ex), fun H' => ∃ s F acc ys r', Sx Pc F1 H1 F H' ∧ Ex s F H' ∧ Ow Pc H1 F H' D (.lst acc) ∧ Row C K F acc ys ∧ acc.length ≤ i + 1 ∧ comp f (xs.drop (i + 1)) s = some r' ∧ r = (ys ++ r'.1, r'.2), fun H' p' => ⟨n - (i + 1), by omega, rfl, hlt, p'⟩, fun x H' y => ?_⟩
    obtain ⟨T, u, v, rfl, hT, rfl, hx⟩ := Fd.yld i H x H' hlt (hG s F H S ex) y
    obtain ⟨a', ha', ra, rb⟩ := Ty.at_ i u v hx
    rw [ha] at ha'
    cases ha'
    have nD : ∀ F' H'', Sx Pc F H F' H'' → Ow Pc H1 F' H'' D (.lst acc) := fun F' H'' c => w.call c fun z => hlv D z hD
    have hsz : acc.length < sizeLine := by
      have := of_decide_eq_true hz
      rw [Ty.len] at this
      omega
    refine turn a u v s o F H D acc ra rb S ex w hD e1 _ _ (fun y b F' H'' ho c rb ex' => ?_) (fun F' H'' ho c ex' => ?_) T hT
    · have w' := nD F' H'' c
      have S' : Sx Pc F1 H1 F' H'' := S.call c fun a z => .inl z
      refine ⟨acc, w'.at_, hsz, o.2, F', acc ++ [y], ys ++ [b], r2, S'.put w', hEp _ _ _ _ _ _ ex' hD w'.at_, w'.put, (Row.mono c.le row).snoc rb, by simp; omega, e2, ?_⟩
      rw [hr, e3, ho]
      simp
    · have w' := nD F' H'' c
      have S' : Sx Pc F1 H1 F' H'' := S.call c fun a z => .inl z
      refine ⟨o.2, F', acc, ys, r2, S', ex', w', Row.mono c.le row, by omega, e2, ?_⟩
      rw [hr, e3, ho]
  · have e : i = n := by omega
    subst e
    rw [← Ty.len, List.drop_length] at hl
    cases hl
    refine .inl ⟨Fd.stop H (hG _ F H S ex), ?_⟩
    rw [hr] at done
    exact done D acc F H hD S ex w (by simpa using row)
end
/-! ## comprehensions of two clauses -/
def compI {β γ : Type} (f : β → Option (Option γ)) : List β → Option (List γ)
  | [] => some []
  | y :: ys => (f y).bind fun o => (compI f ys).bind fun r => some (match o with
    | some z => z :: r
    | none => r)
def comp2 {α β γ : Type} (f1 : α → Option (Option (List β))) (f2 : α → β → Option (Option γ)) : List α → Option (List γ)
  | [] => some []
  | x :: xs => (f1 x).bind fun o => (match o with
    | none => some []
    | some ys => compI (f2 x) ys).bind fun r => (comp2 f1 f2 xs).bind fun q => some (r ++ q)
theorem drop_at {α : Type} {xs : List α} {i : Nat} {a : α} (ha : xs[i]? = some a) : xs.drop i = a :: xs.drop (i + 1) := by
  have hi : i < xs.length := (List.getElem?_eq_some_iff.mp ha).1
  rw [List.drop_eq_getElem_cons hi, (List.getElem?_eq_some_iff.mp ha).2]
abbrev LcG2 (J : It) (g : TG) (tt : TT) (wi1 : TI) (g1 : TG) (tt1 : TT) (te : TE) (vs vs1 : List Nat) (σ : L2.St) (D : Addr) (Q : VK) (H1 : Hp) : Prop := ∃ W : Nat → Nat → Hp → Prop, (∃ m, W 0 m (upd H1 D (.lst []))) ∧ ∀ i m H, W i m H →
  (J.stop i H ∧ Q (.ref D) H) ∨ (J.go i H ∧ ∃ Nx : Hp → Prop, (∀ H', Nx H' → ∃ m', m' < m ∧ W (i + 1) m' H') ∧ ∀ x H', J.yld i H x H' → g x (wipe σ vs) H' fun σ2 H2 => wipe σ2 vs = wipe σ vs ∧ tt σ2 H2 fun b H3 =>
    if b = true then wi1 σ2 H3 fun J1 H4 => ∃ W1 : Nat → Nat → Hp → Prop, (∃ m, W1 0 m H4) ∧ ∀ j k H, W1 j k H →
      (J1.stop j H ∧ Nx H) ∨ (J1.go j H ∧ ∃ Nx1 : Hp → Prop, (∀ H', Nx1 H' → ∃ k', k' < k ∧ W1 (j + 1) k' H') ∧ ∀ x H', J1.yld j H x H' → g1 x (wipe σ2 vs1) H' fun σ3 H5 => wipe σ3 vs1 = wipe σ2 vs1 ∧ tt1 σ3 H5 fun b H6 =>
        if b = true then te σ3 H6 fun y H7 => ∃ acc, H7 D = some (.lst acc) ∧ acc.length < sizeLine ∧ Nx1 (upd H7 D (.lst (acc ++ [y]))) else Nx1 H6)
    else Nx H3)
section
variable {J : It} {n : Nat} {G : Hp → Prop} {it : Nat → V → Prop} {α β γ : Type} {A : R α} {B : R β} {C : R γ} {K : PySem.W.Frag} {F1 H1 : Hp} {xs : List α} {g g1 : TG} {tt tt1 : TT} {wi1 : TI} {te : TE} {vs vs1 : List Nat} {σ : L2.St} {Q : VK}
theorem rd_lc2 {wi : TI} (k : wi σ H1 fun J H1 => ∀ D, H1 D = none → LcG2 J g tt wi1 g1 tt1 te vs vs1 σ D Q H1) : tLc2 wi g tt wi1 g1 tt1 te vs vs1 σ H1 Q := k
theorem rd_compT (Fd : Feeds J n G it) (Ty : Typed A K F1 n it xs) {f1 : α → Option (Option (List β))} {f2 : α → β → Option (Option γ)} {r : List γ} (hm : comp2 f1 f2 xs = some r) (hz : fitsE r = true) (hsub : Same F1 H1)
    (hG : ∀ F H, Sx P0 F1 H1 F H → G H) (Sg : L2.St → L2.St → α → V → Prop)
    (turn : ∀ (a : α) (x : V) (o : Option (List β)) (F H : Hp), A.r K F1 x a → Sx P0 F1 H1 F H → f1 a = some o →
      ∀ (E : Hp → Prop) (I : L2.St → It → Hp → Prop), (∀ F' H', o = none → Sx P0 F H F' H' → E H') →
        (∀ σ2 J1 n1 G1 it1 ys F' H', o = some ys → Sx P0 F H F' H' → Sg (wipe σ vs) σ2 a x → Feeds J1 n1 G1 it1 → Typed B K F' n1 it1 ys → (∀ F'' H'', Same F' F'' → Same F'' H'' → G1 H'') → I σ2 J1 H') →
        g x (wipe σ vs) H fun σ2 H2 => wipe σ2 vs = wipe σ vs ∧ tt σ2 H2 fun b H3 => if b = true then wi1 σ2 H3 fun J1 H4 => I σ2 J1 H4 else E H3)
    (turn2 : ∀ (a : α) (x : V) (b : β) (y : V) (o : Option γ) (σ2 : L2.St) (F H : Hp), A.r K F x a → B.r K F y b → Sg (wipe σ vs) σ2 a x → Sx P0 F1 H1 F H → f2 a b = some o →
      ∀ (E : Hp → Prop) (N : V → Hp → Prop), (∀ z c F' H', o = some c → Sx P0 F H F' H' → C.r K F' z c → N z H') → (∀ F' H', o = none → Sx P0 F H F' H' → E H') →
        g1 y (wipe σ2 vs1) H fun σ3 H5 => wipe σ3 vs1 = wipe σ2 vs1 ∧ tt1 σ3 H5 fun b H6 => if b = true then te σ3 H6 N else E H6)
    (done : ∀ D us F H, H1 D = none → Sx P0 F1 H1 F H → Ow P0 H1 F H D (.lst us) → Row C K F us r → Q (.ref D) H) : ∀ D, H1 D = none → LcG2 J g tt wi1 g1 tt1 te vs vs1 σ D Q H1 := by
  intro D hD
  refine ⟨fun i m H => m = n - i ∧ i ≤ n ∧ ∃ F acc ys r', Sx P0 F1 H1 F H ∧ Ow P0 H1 F H D (.lst acc) ∧ Row C K F acc ys ∧ comp2 f1 f2 (xs.drop i) = some r' ∧ r = ys ++ r', ⟨n, by simp, Nat.zero_le _, F1, [], [], r, (Sx.refl0 hsub).temp hD, (Sx.refl0 hsub).own hD, .nil, hm, rfl⟩, ?_⟩
  rintro i m H ⟨rfl, hi, F, acc, ys, r', S, w, row, hl, hr⟩
  by_cases hlt : i < n
  · obtain ⟨a, ha⟩ : ∃ a, xs[i]? = some a := ⟨xs[i]'(by rw [Ty.len]; exact hlt), by simp [Ty.len, hlt]⟩
    rw [drop_at ha] at hl
    obtain ⟨o, e1, hl⟩ := bd_some hl
    obtain ⟨ri, e2, hl⟩ := bd_some hl
    obtain ⟨q, e3, hl⟩ := bd_some hl
    cases hl
    refine .inr ⟨Fd.go i H hlt (hG F H S), fun H' => ∃ F acc, Sx P0 F1 H1 F H' ∧ Ow P0 H1 F H' D (.lst acc) ∧ Row C K F acc (ys ++ ri), fun H' ⟨F', acc', S', w', row'⟩ => ⟨n - (i + 1), by omega, rfl, hlt, F', acc', ys ++ ri, q, S', w', row', e3, by rw [hr, List.append_assoc]⟩, fun x H' y => ?_⟩
    obtain ⟨rfl, hx⟩ := Fd.yld i H x H' hlt (hG F H S) y
    obtain ⟨a', ha', ra⟩ := Ty.at_ i x hx
    rw [ha] at ha'
    cases ha'
    refine turn a x o F H' ra S e1 _ (fun σ2 J1 H4 => _) (fun F' H'' ho c => ?_) fun σ2 J1 n1 G1 it1 zs F' H'' ho c sg Fd1 Ty1 hG1 => ?_
    · subst ho
      cases e2
      exact ⟨F', acc, S.call0 c, w.call0 c, by rw [List.append_nil]; exact Row.mono c.le row⟩
    · subst ho
      refine ⟨fun j k H => k = n1 - j ∧ j ≤ n1 ∧ ∃ F2 acc2 ys2 r2, Sx P0 F1 H1 F2 H ∧ Same F' F2 ∧ Ow P0 H1 F2 H D (.lst acc2) ∧ Row C K F2 acc2 (ys ++ ys2) ∧ compI (f2 a) (zs.drop j) = some r2 ∧ ri = ys2 ++ r2, ⟨n1, by simp, Nat.zero_le _, F', acc, [], ri, S.call0 c, Same.refl _, w.call0 c, by rw [List.append_nil]; exact Row.mono c.le row, e2, rfl⟩, ?_⟩
      rintro j k H5 ⟨rfl, hj, F2, acc2, ys2, r2, S2, sm, w2, row2, hl2, hr2⟩
      by_cases hlt2 : j < n1
      · obtain ⟨b, hb⟩ : ∃ b, zs[j]? = some b := ⟨zs[j]'(by rw [Ty1.len]; exact hlt2), by simp [Ty1.len, hlt2]⟩
        rw [drop_at hb] at hl2
        obtain ⟨oz, e4, hl2⟩ := bd_some hl2
        obtain ⟨q2, e5, hl2⟩ := bd_some hl2
        cases hl2
        refine .inr ⟨Fd1.go j H5 hlt2 (hG1 F2 H5 sm S2.sub), fun H => ∃ F2 acc2 ys2, Sx P0 F1 H1 F2 H ∧ Same F' F2 ∧ Ow P0 H1 F2 H D (.lst acc2) ∧ Row C K F2 acc2 (ys ++ ys2) ∧ ri = ys2 ++ q2, fun H6 ⟨F3, acc3, ys3, S3, sm3, w3, row3, hr3⟩ => ⟨n1 - (j + 1), by omega, rfl, hlt2, F3, acc3, ys3, q2, S3, sm3, w3, row3, e5, hr3⟩, fun v H6 y => ?_⟩
        obtain ⟨rfl, hx2⟩ := Fd1.yld j H5 v H6 hlt2 (hG1 F2 H5 sm S2.sub) y
        obtain ⟨b', hb', rb⟩ := Ty1.at_ j v hx2
        rw [hb] at hb'
        cases hb'
        have leF : Same F1 F2 := S2.le
        refine turn2 a x b v oz σ2 F2 H6 (A.mono leF ra) (B.mono sm rb) sg S2 e4 _ _ (fun z cz F3 H7 ho c3 rz => ?_) fun F3 H7 ho c3 => ?_
        · subst ho
          have w3 := w2.call0 c3
          have S3 := S2.call0 c3
          have row3 := Row.mono c3.le row2
          have hsz : acc2.length < sizeLine := by
            have h1 := of_decide_eq_true hz
            have h2 := pLen row3
            rw [hr, hr2] at h1
            simp at h1 h2
            omega
          refine ⟨acc2, w3.at_, hsz, F3, acc2 ++ [z], ys2 ++ [cz], S3.put w3, sm.trans c3.le, w3.put, ?_, by rw [hr2]; simp⟩
          rw [← List.append_assoc]
          exact row3.snoc rz
        · subst ho
          exact ⟨F3, acc2, ys2, S2.call0 c3, sm.trans c3.le, w2.call0 c3, Row.mono c3.le row2, hr2⟩
      · have e : j = n1 := by omega
        subst e
        rw [← Ty1.len, List.drop_length] at hl2
        cases hl2
        refine .inl ⟨Fd1.stop H5 (hG1 F2 H5 sm S2.sub), F2, acc2, S2, w2, ?_⟩
        rw [hr2, List.append_nil]; exact row2
  · have e : i = n := by omega
    subst e
    rw [← Ty.len, List.drop_length] at hl
    cases hl
    refine .inl ⟨Fd.stop H (hG F H S), done D acc F H hD S w ?_⟩
    rw [hr, List.append_nil]; exact row
end
/-! ## instances -/
section
variable {K : PySem.W.Frag} {P : Addr → Prop} {F0 H0 F H : Hp} {v : V} {Q : VK} {σ : L2.St} {ta te to : TE} {C p dx : Addr} {m f : Str} {sp : Sp} {E : XK} {t : TA} {dvs : List V} {fs : List (Str × V)}
def fdK (K : PySem.W.Frag) (f : Str) (Q : VK) : VK := fun x H1 => ∃ a C dx fs v, x = .ref a ∧ H1 a = some (.ins C dx fs) ∧ Cls K C ∧ NoAttr K C f ∧ fs.lookup f = some v ∧ Q v H1
theorem rd_fld (k : ta σ H (fdK K f Q)) : tFld K ta f σ H Q := k
theorem fd_at {u : V} (h : H p = some (.ins C dx fs)) (c : Cls K C) (n : NoAttr K C f) (l : fs.lookup f = some u) (k : Q u H) : fdK K f Q (.ref p) H := ⟨p, C, dx, fs, u, rfl, h, c, n, l, k⟩
def fsK (K : PySem.W.Frag) (f : Str) (y : V) (R : Hp → Prop) : VK := fun x H2 => ∃ a C dx fs, x = .ref a ∧ H2 a = some (.ins C dx fs) ∧ Cls K C ∧ NoAttr K C f ∧ fs.length < 1000 ∧ R (upd H2 a (.ins C dx (putF f y fs)))
theorem rd_sfld {N B C : L2.St → Hp → Prop} {R : VK} (k : te σ H fun y H1 => to σ H1 (fsK K f y (N σ))) : sFld K to te f ⟨N, R, B, C⟩ σ H := k
theorem fset {y : V} {R : Hp → Prop} {fs' : List (Str × V)} (S : Sx P F0 H0 F H) (w : Ow P H0 F H p (.ins C dx fs)) (c : Cls K C) (n : NoAttr K C f) (l : Nat.ble fs.length 900 = true) (e : putF f y fs = fs') (k : ∀ H', Sx (fun a => a = p) F H F H' → Ow P H0 F H' p (.ins C dx fs') → R H') : fsK K f y R (.ref p) H :=
  ⟨p, C, dx, fs, rfl, w.at_, c, n, Nat.lt_of_le_of_lt (Nat.le_of_ble_eq_true l) (by decide), by rw [e]; exact k _ (putS S w) w.put⟩
def mtK (C : Addr) (m : Str) (G : V → Hp → Prop) : VK := fun x H1 => ∃ a dx fs, x = .ref a ∧ H1 a = some (.ins C dx fs) ∧ fs.lookup m = none ∧ G x H1
theorem rd_meth (k : ta σ H (mtK C m fun x H1 => t σ H1 fun vs H2 => sp (x :: (vs ++ dvs)) H2 Q E)) : tMeth C m sp dvs E ta t σ H Q := k
theorem mt_at {G : V → Hp → Prop} (h : H p = some (.ins C dx fs)) (l : fs.lookup m = none) (k : G (.ref p) H) : mtK C m G (.ref p) H := ⟨p, dx, fs, rfl, h, l, k⟩
/-- a new instance: what is wanted of it -/
def mkK (C : Addr) (sp : Sp) (E : XK) (Q : VK) : List V → Hp → Prop := fun vs H1 => ∀ x dx, H1 x = none → H1 dx = none → dx ≠ x → sp (.ref x :: vs) (upd (upd H1 dx (.own x)) x (.ins C dx [])) (fun v H2 => v = .non ∧ Q (.ref x) H2) E
theorem rd_makeR (k : t σ H (mkK C sp E Q)) : StX.tMakeR C sp E t σ H Q := k
theorem rd_make (k : t σ H (mkK C (fun vs => sp (vs ++ dvs)) E Q)) : tMake C sp dvs E t σ H Q := k
/-- what a def with a star parameter promises, by what its body does -/
def starSp (n : Nat) (sp : Sp) : Sp := fun vs H Q E => ∃ ws rest, vs = ws ++ rest ∧ ws.length = n ∧ rest.length ≤ sizeLine ∧ ∀ p, H p = none → sp (ws ++ [.ref p]) (upd H p (.tup rest)) Q E
theorem mk_star {α : Type} {A : R α} {vs : List V} {xs : List α} (S : Sx P F0 H0 F H) (r : Row A K F vs xs) (hl : Nat.ble vs.length 900 = true)
    (k : ∀ x dx v F1 H1, H x = none → Sx P0 F H F1 H1 → Ow (fun a => a = x) H1 F1 H1 x (.ins C dx []) → (qT A).r K F1 v xs → sp [.ref x, v] H1 (fun v H2 => v = .non ∧ Q (.ref x) H2) E) : mkK C (starSp 1 sp) E Q vs H := by
  intro x dx hx hdx ne
  refine ⟨[.ref x], vs, rfl, rfl, Nat.le_trans (Nat.le_of_ble_eq_true hl) (Nat.le_trans (by decide) (show 1000 ≤ sizeLine by rw [sizeLine_eq]; decide)), fun p hp => ?_⟩
  have hdx2 : upd H dx (.own x) x = none := by rw [upd_ne (Ne.symm ne)]; exact hx
  have c1 : Sx P0 F H F (upd (upd H dx (.own x)) x (.ins C dx [])) := ((Sx.refl0 S.sub).temp hdx).temp hdx2
  have hxp : x ≠ p := fun e => by subst e; rw [upd_same] at hp; cases hp
  have c2 := c1.alloc (o := .tup vs) hp
  refine k x dx (.ref p) _ _ hx c2 ⟨?_, ?_, .inr rfl⟩ ⟨p, vs, rfl, .inl (.inl upd_same), Row.mono c2.le r⟩
  · rw [upd_ne hxp]
    exact S.free hx
  · rw [upd_ne hxp, upd_same]
/-- a new instance without a star parameter -/
theorem mk_plain {vs : List V} (S : Sx P F0 H0 F H)
    (k : ∀ x dx H1, H x = none → Sx P0 F H F H1 → Ow (fun a => a = x) H1 F H1 x (.ins C dx []) → sp (.ref x :: vs) H1 (fun v H2 => v = .non ∧ Q (.ref x) H2) E) : mkK C sp E Q vs H := by
  intro x dx hx hdx ne
  have hdx2 : upd H dx (.own x) x = none := by rw [upd_ne (Ne.symm ne)]; exact hx
  exact k x dx _ hx (((Sx.refl0 S.sub).temp hdx).temp hdx2) ⟨S.free hx, upd_same, .inr rfl⟩
/-- what __init__ has made is let stand for good -/
theorem fzI {x : Addr} {F1 H1 F' H' : Hp} {o : HO} (c1 : Sx P0 F H F1 H1) (hx : H x = none) (c : Sx (fun a => a = x) F1 H1 F' H') (w : Ow (fun a => a = x) H1 F' H' x o) : ∃ F'', Sx P0 F H F'' H' ∧ Same F' F'' ∧ F'' x = some o := by
  have S2 : Sx P0 F H F' H' := c1.call c fun a e => by subst e; exact .inr hx
  have w2 : Ow P0 H F' H' x o := ⟨w.fr, w.at_, .inl hx⟩
  exact ⟨_, S2.freeze w2 hx, w2.leF, upd_same⟩
end
/-! ## join, xs[i] = v -/
section
variable {K : PySem.W.Frag} {P : Addr → Prop} {F0 H0 F H : Hp} {v : V} {Q : VK} {α : Type} {A : R α} {xs : List α} {p : Addr} {vs : List V} {i : Int}
def joinOk (a : Str) (ys : List Str) : Bool := decide ((ys.map (·.length)).sum + ys.length * a.length ≤ 16777216)
theorem row_str {vs : List V} {xs : List Str} (r : Row qS K F vs xs) : vs = xs.map V.str := by
  induction r with
  | nil => rfl
  | cons h t ih =>
    rw [ih, show _ = _ from h]; rfl
def rJoin (K : PySem.W.Frag) : V → List V → Hp → VK → Prop := fun x xs H Q => ∃ a p, ∃ ys : List Str, x = .str a ∧ xs = [.ref p] ∧ (SqL K H p (ys.map V.str) ∨ SqT K H p (ys.map V.str)) ∧ (ys.map (·.length)).sum + ys.length * a.length ≤ 16777216 ∧ Q (.str (Txt.join a ys)) H
theorem mt_joinK {X : Cx} : MtR X "str.join" (rJoin X.K) := mt_join
theorem rd_join {a : Str} {xs : List Str} (s : SeenQ qS K F H v xs) (h : joinOk a xs = true) (k : Q (.str (Txt.join a xs)) H) : rJoin K (.str a) [v] H Q := by
  obtain ⟨p, vs, rfl, h1, r⟩ := s.seq
  obtain rfl := row_str r
  exact ⟨a, p, xs, rfl, rfl, h1, of_decide_eq_true h, k⟩
theorem tyS_str {H : Hp} {x : Str} : tyV K "str" (.str x) H := by first | exact .inr (.inl ⟨rfl, _, rfl⟩) | exact ⟨rfl, _, rfl⟩ | (unfold tyV; simp)
def setI {α : Type} (xs : List α) (i : Int) (a : α) : Option (List α) := (ixN xs.length i).bind fun j => some (xs.set j a)
theorem rd_setL {R : Hp → Prop} {y : V} {a : α} {zs : List α} (S : Sx P F0 H0 F H) (w : Ow P H0 F H p (.lst vs)) (r : Row A K F vs xs) (ra : A.r K F y a) (h : setI xs i a = some zs) (k : ∀ us H', Sx (fun a => a = p) F H F H' → Ow P H0 F H' p (.lst us) → Row A K F us zs → R H') : rSetL (.ref p) (.int i) y H R := by
  obtain ⟨j, h1, h2⟩ := bd_some h
  cases h2
  exact ⟨p, vs, i, j, rfl, rfl, w.at_, by rw [pLen r]; exact h1, k _ _ (putS S w) w.put (pSet ra j r)⟩
end
section
variable {K : PySem.W.Frag} {P : Addr → Prop} {F0 H0 F H : Hp} {v : V} {α : Type} {A : R α} {xs : List α} {RI : It → Hp → Prop} {σ : L2.St} {tr : TA}
def wE (K : PySem.W.Frag) (RI : It → Hp → Prop) : List V → Hp → Prop := fun vs H1 => ∃ a xs, vs = [.ref a] ∧ SqL K H1 a xs ∧ RI (Ite K a) H1
theorem rd_iE (k : tr σ H (wE K RI)) : iEnum K tr σ H RI := k
theorem rd_wE (S : Sx P F0 H0 F H) (r : (qL A).r K F v xs) (k : ∀ p vs, SqL K F p vs → Row A K F vs xs → RI (Ite K p) H) : wE K RI [v] H := by
  obtain ⟨p, vs, rfl, h1, h2⟩ := r
  exact ⟨p, vs, rfl, Same.seq S.sub (SqL.of h1), k p vs (SqL.of h1) h2⟩
end
section
variable {K : PySem.W.Frag} {P : Addr → Prop} {F0 H0 F H : Hp} {v : V} {Q : VK} {α : Type} {A : R α} {xs : List α} {lo hi : Option Int}
theorem rd_slA (S : Sx P F0 H0 F H) (r : (qT A).r K F v xs) (k : ∀ v' F' H', Sx P0 F H F' H' → (qT A).r K F' v' (cut xs lo hi) → Q v' H') : rSlA K v lo hi H Q := by
  obtain ⟨p, vs, rfl, h1, h2⟩ := id r
  refine ⟨p, vs, rfl, same_t S.sub h1, fun hw => ?_, fun _ q hq => alT' S k q _ hq (row_cut h2 lo hi)⟩
  refine k _ F H (Sx.refl0 S.sub) ?_
  have e : cut xs lo hi = xs := by
    unfold cut
    rw [← pLen h2, hw.1, hw.2, List.drop_zero, Nat.sub_zero, List.take_of_length_le (by rw [pLen h2]; exact Nat.le_refl _)]
  rw [e]
  exact r
end
section
variable {X : Cx} {K : PySem.W.Frag} {e l tg : Expr} {te : TE} {f : Str} {pos : Pos}
theorem pi_tupK (hl : PE X l te) (hK : X.K = K := by rfl) : PI X tg l (iTup K te) := by subst hK; exact pi_tup hl
theorem pi_listK (hl : PE X l te) (hK : X.K = K := by rfl) : PI X tg l (iList K te) := by subst hK; exact pi_list hl
theorem pg_tupK {es : List Expr} {k n : Nat} {t : TGs} (hc : X.calm = true) (h : PGs X es t) (hK : X.K = K := by rfl)
    (hn : (assignEach es X.env).length = n := by rfl) (hst : (assignEach es X.env).findIdx? (·.1) = none := by rfl) : PG X (.Tuple es k pos) (gTup K n t) := by subst hK; exact pg_tup hc h hn hst
theorem pe_fldK (he : PE X e te) (hb : attributeBase e f X.env (eval e X.env) = eval e X.env) (hK : X.K = K := by rfl) : PE X (.Attribute e f pos) (tFld K te f) := by subst hK; exact pe_fld he hb
end
end Gl

namespace Gl
open PySem PySem.Spec PyProof.Rows L2

/-! ## sorted rows -/
def leS (a b : Str) : Bool := decide (a.cps.toList ≤ b.cps.toList)
def srtS (xs : List Str) : List Str := xs.mergeSort leS
theorem leS_trans (a b c : Str) (h : leS a b = true) (k : leS b c = true) : leS a c = true := decide_eq_true (List.le_trans (of_decide_eq_true h) (of_decide_eq_true k))
theorem leS_total (a b : Str) : (leS a b || leS b a) = true := by
  rcases List.le_total a.cps.toList b.cps.toList with h | h
  · rw [show leS a b = true from decide_eq_true h]; rfl
  · rw [show leS b a = true from decide_eq_true h, Bool.or_true]
theorem leS_anti (a b : Str) (h : leS a b = true) (k : leS b a = true) : a = b := by
  have e : a.cps.toList = b.cps.toList := List.le_antisymm (of_decide_eq_true h) (of_decide_eq_true k)
  obtain ⟨a⟩ := a; obtain ⟨b⟩ := b
  exact congrArg Str.mk (Array.toList_inj.mp e)
theorem rising_pw : ∀ (p : Str) (l : List Str), risingS p l = true → (p :: l).Pairwise fun a b => leS a b = true
  | p, [], _ => List.pairwise_singleton ..
  | p, x :: r, h => by
    obtain ⟨h1, h2⟩ := Bool.and_eq_true_iff.mp (show (!ltCps x.cps.toList p.cps.toList && risingS x r) = true from h)
    have h3 : leS p x = true := by
      rw [ltCps_eq] at h1
      refine decide_eq_true (List.not_lt.mp fun z => ?_)
      rw [decide_eq_true z] at h1
      cases h1
    have h4 := rising_pw x r h2
    refine List.pairwise_cons.mpr ⟨fun y hy => ?_, h4⟩
    rcases List.mem_cons.mp hy with rfl | hy
    · exact h3
    · exact leS_trans _ _ _ h3 ((List.pairwise_cons.mp h4).1 y hy)
theorem sorted_pw {l : List Str} (h : sortedS l = true) : l.Pairwise fun a b => leS a b = true := by
  cases l with
  | nil => exact .nil
  | cons p r => exact rising_pw p r h
theorem srtS_pw (l : List Str) : (srtS l).Pairwise fun a b => leS a b = true := List.pairwise_mergeSort (le := leS) leS_trans leS_total l
theorem srtS_perm (l : List Str) : (srtS l).Perm l := List.mergeSort_perm l leS
theorem srtS_eq {l m : List Str} (p : l.Perm m) (h : l.Pairwise fun a b => leS a b = true) : l = srtS m :=
  List.Perm.eq_of_pairwise (le := fun a b => leS a b = true) (fun a b _ _ => leS_anti a b) h (srtS_pw m) (p.trans (srtS_perm m).symm)
def leI (a b : Int) : Bool := decide (a ≤ b)
def srtI (xs : List Int) : List Int := xs.mergeSort leI
theorem srtI_pw (l : List Int) : (srtI l).Pairwise (· ≤ ·) := by
  have := List.pairwise_mergeSort (le := leI) (fun a b c h k => decide_eq_true (Int.le_trans (of_decide_eq_true h) (of_decide_eq_true k))) (fun a b => by
    rcases Int.le_total a b with h | h
    · rw [show leI a b = true from decide_eq_true h]; rfl
    · rw [show leI b a = true from decide_eq_true h, Bool.or_true]) l
  exact this.imp fun h => of_decide_eq_true h
theorem srtI_perm (l : List Int) : (srtI l).Perm l := List.mergeSort_perm l leI
theorem srtI_eq {l m : List Int} (p : l.Perm m) (h : l.Pairwise (· ≤ ·)) : l = srtI m :=
  List.Perm.eq_of_pairwise (le := (· ≤ ·)) (fun a b _ _ => Int.le_antisymm) h (srtI_pw m) (p.trans (srtI_perm m).symm)
section
variable {K : PySem.W.Frag} {P : Addr → Prop} {F0 H0 F H : Hp} {v : V} {Q : VK} {σ : L2.St} {te : TE}
def srtOk {α : Type} (xs : List α) : Bool := decide (xs.length < 64)
theorem row_str' : ∀ xs : List Str, Row qS K F (xs.map V.str) xs
  | [] => .nil
  | _ :: xs => .cons rfl (row_str' xs)
theorem row_int {vs : List V} {xs : List Int} (r : Row qI K F vs xs) : vs = xs.map V.int := by
  induction r with
  | nil => rfl
  | cons h t ih => rw [ih, show _ = _ from h]; rfl
theorem rd_sortS {xs : List Str} (s : SeenR qS K F H v xs) (h : srtOk xs = true) (k : nL qS K F Q H (srtS xs)) : rSortedS K [v] H Q := by
  obtain ⟨p, vs, rfl, h1, r⟩ := s
  obtain rfl := row_str r
  refine ⟨p, xs, rfl, h1, of_decide_eq_true h, fun ys q pm hs hq => ?_⟩
  obtain rfl := srtS_eq pm (sorted_pw hs)
  exact k q _ hq (row_str' _)
theorem rd_sortI {xs : List Int} (s : SeenR qI K F H v xs) (k : nL qI K F Q H (srtI xs)) : rSortedI K [v] H Q := by
  obtain ⟨p, vs, rfl, h1, r⟩ := s
  obtain rfl := row_int r
  refine ⟨p, xs, rfl, h1, fun ys q pm hs hq => ?_⟩
  obtain rfl := srtI_eq pm hs
  exact k q _ hq (row_ints _)
/-! ## xs[::-1] -/
theorem pRev {α β : Type} {R : α → β → Prop} {xs : List α} {ys : List β} (p : Paired R xs ys) : Paired R xs.reverse ys.reverse := by
  induction p with
  | nil => exact .nil
  | cons r t ih =>
    rw [List.reverse_cons, List.reverse_cons]
    exact pApp ih (.cons r .nil)
def rvK {α : Type} (A : R α) (K : PySem.W.Frag) (Q : VK) : VK := fun x H1 => ∃ a xs, x = .ref a ∧ SqL K H1 a xs ∧ ∀ p, H1 p = none → Q (.ref p) (upd H1 p (.lst xs.reverse))
theorem rd_revL {α : Type} (A : R α) (k : te σ H (rvK A K Q)) : tRevL K te σ H Q := k
theorem rv_at {α : Type} {A : R α} {xs : List α} (s : SeenR A K F H v xs) (k : nL A K F Q H xs.reverse) : rvK A K Q v H := by
  obtain ⟨p, vs, rfl, h1, r⟩ := s
  exact ⟨p, vs, rfl, h1, fun q hq => k q _ hq (pRev r)⟩
end
end Gl

namespace Gl
open PySem PySem.Spec PyProof.Rows L2

/-! ## x in o, o of a class of the program's own -/
section
variable {M : Model} {A : Around} {E : Value → Shared → Prop} {s : Shared} {K : PySem.W.Frag} {x C f : Addr} {ox : Obj} {od : Option Obj} {u : Value}
theorem contains_own {Q : Bool → Shared → Prop} (X' : K.In s.heap) (I : PySem.W.InstAt s.heap x ox C od) (hs : PySem.W.findIn K (.ref C) "__contains__" = some (some (.ref f))) (hf : PySem.W.isFn K (.ref f) = true)
    (h : wpAny M A (call (.ref f) [.ref x, u]) (fun v s' => ∃ b, v = .bool b ∧ Q b s') E s) : wpAny M A (contains (.ref x) u) Q E s := by
  unfold contains
  refine wpAny_holding ?_
  have e0 : stdlibNamesSay? (.ref x) u = none := rfl
  rw [e0]
  refine wpAny_bind (wpAny_bind (I.type.here ((PySem.W.looks_findIn X' hs).here ?_)))
  have e1 : (some (Value.ref f) == some Value.none) = false := rfl
  rw [if_neg (by rw [e1]; decide)]
  refine wpAny_bind ?_
  unfold callSpecialUnlessNone?
  refine wpAny_bind (wpAny_bind (I.type.here ((PySem.W.looks_findIn X' hs).here ?_)))
  refine wpAny_holding (wpAny_bind ((PySem.W.bind_fn X' _ (beq_iff_eq.mp hf)).here ?_))
  refine wpAny_bind (wpAny_mono h (fun v s' ⟨b, e, q⟩ => ?_) fun _ _ z => z)
  subst e
  refine wpAny_pure ?_
  show wpAny M A (truthy (.bool b)) Q E s'
  unfold truthy
  exact wpAny_pure q
end
/-- what is wanted of a truth that a method of one's own gives -/
def rInO (C : Addr) (sp : Sp) (E : XK) : R2 := fun x y H Q => ∃ a dx fs, y = .ref a ∧ H a = some (.ins C dx fs) ∧ sp [.ref a, x] H (fun v H2 => ∃ b, v = .bl b ∧ Q (.bl b) H2) E
def rNiO (C : Addr) (sp : Sp) (E : XK) : R2 := fun x y H Q => ∃ a dx fs, y = .ref a ∧ H a = some (.ins C dx fs) ∧ sp [.ref a, x] H (fun v H2 => ∃ b, v = .bl b ∧ Q (.bl (!b)) H2) E
section
variable {X : Cx} {CX : CXT} {k : Nat} {C f : Addr} {fd : FuncData} {ps : List Str} {sp : Sp} {E : XK}
theorem in_own {pins : List (Addr × Obj)} {σ : L2.St} {H : Hp} {s : Shared} {a dx : Addr} {fs : List (Str × V)} {x : V} {u : Value} {Q : VK} {R : Bool → Shared → Prop} (hm : Meth X.K C "__contains__" f) (F : FnOk X.prog X.w X.K X.mg X.base CX k f fd ps sp) (hr : Room k X.A) (hb : Binds X.K fd ps []) (hx : Passes CX X E) (I : Inv X pins σ H s) (e : H a = some (.ins C dx fs)) (rx : RelV x u)
    (h : sp [.ref a, x] H Q E) (q : ∀ v s', EP X pins σ Q v s' → ∃ b, v = .bool b ∧ R b s') : wpAny (model X.prog X.w) X.A (contains (.ref a) u) R X.xe s := by
  obtain ⟨ox, od, J, _⟩ := StX.insC_at I (.inr ⟨dx, fs, e⟩)
  refine contains_own I.kIn J hm.at_ hm.fn ?_
  have r := run_fn (X := X) (us := [.ref a, u]) (vs := [.ref a, x]) (dvs := []) (ds := []) F hr hb .nil hx I (.cons rfl (.cons rx .nil)) (Q := Q) h
  exact wpAny_mono r q fun _ _ z => z
theorem op_inO (hm : Meth X.K C "__contains__" f) (F : FnOk X.prog X.w X.K X.mg X.base CX k f fd ps sp) (hr : Room k X.A) (hb : Binds X.K fd ps []) (hx : Passes CX X E) : OpR X (compareOp .In) (rInO C sp E) := by
  intro pins s σ H x y v u Q I rx ry h
  obtain ⟨a, dx, fs, rfl, e, h⟩ := h
  cases ry
  show wpAny _ _ ((contains (.ref a) v) >>= fun z => pure (Value.bool z)) _ _ s
  refine wpAny_bind (in_own hm F hr hb hx I e rx h fun r s' ⟨z, H', I', rz, b, ez, q⟩ => ?_)
  subst ez
  cases rz
  exact ⟨b, rfl, wpAny_pure (fin_bl I' q rfl)⟩
theorem op_niO (hm : Meth X.K C "__contains__" f) (F : FnOk X.prog X.w X.K X.mg X.base CX k f fd ps sp) (hr : Room k X.A) (hb : Binds X.K fd ps []) (hx : Passes CX X E) : OpR X (compareOp .NotIn) (rNiO C sp E) := by
  intro pins s σ H x y v u Q I rx ry h
  obtain ⟨a, dx, fs, rfl, e, h⟩ := h
  cases ry
  show wpAny _ _ ((contains (.ref a) v) >>= fun z => pure (Value.bool (!z))) _ _ s
  refine wpAny_bind (in_own hm F hr hb hx I e rx h fun r s' ⟨z, H', I', rz, b, ez, q⟩ => ?_)
  subst ez
  cases rz
  exact ⟨b, rfl, wpAny_pure (fin_bl I' q rfl)⟩
end
def inK (Q : VK) : VK := fun v H2 => ∃ b, v = .bl b ∧ Q (.bl b) H2
theorem rd_inK {Q : VK} {b : Bool} {H : Hp} (k : Q (.bl b) H) : inK Q (.bl b) H := ⟨b, rfl, k⟩
theorem in_at {C p dx : Addr} {fs : List (Str × V)} {sp : Sp} {E : XK} {x : V} {H : Hp} {Q : VK} (h : H p = some (.ins C dx fs)) (k : sp [.ref p, x] H (inK Q) E) : rInO C sp E x (.ref p) H Q := ⟨p, dx, fs, rfl, h, k⟩
end Gl

namespace Gl
open PySem PySem.Spec PyProof.Rows L2

/-! ## plain mathematics: results that are there -/
def Ok {α : Type} (x : Option α) (Q : α → Prop) : Prop := ∃ a, x = some a ∧ Q a
section
variable {α β S ρ : Type} {x y : Option α} {P Q : α → Prop} {f : α → Option β} {R : β → Prop} {a : α} {b : Bool}
theorem Ok.sm (h : Q a) : Ok (some a) Q := ⟨a, rfl, h⟩
theorem Ok.bd (h : Ok x P) (k : ∀ a, P a → Ok (f a) R) : Ok (x.bind f) R := by
  obtain ⟨a, rfl, p⟩ := h
  exact k a p
theorem Ok.bde (h : x = some a) (k : Ok (f a) R) : Ok (x.bind f) R := by
  rw [h]; exact k
theorem Ok.gd (h : b = true) (k : Ok x Q) : Ok (gd b x) Q := by rw [gd_true h]; exact k
theorem Ok.ite (h1 : b = true → Ok x Q) (h2 : b = false → Ok y Q) : Ok (if b = true then x else y) Q := by
  cases b with
  | true => exact h1 rfl
  | false => exact h2 rfl
theorem Ok.mono (h : Ok x P) (k : ∀ a, P a → Q a) : Ok x Q := let ⟨a, e, p⟩ := h; ⟨a, e, k a p⟩
theorem Ok.eq {a : α} (h : Ok x fun r => r = a) : x = some a := let ⟨b, e, p⟩ := h; p ▸ e
theorem Ok.of (h : x = some a) (k : Q a) : Ok x Q := ⟨a, h, k⟩
/-- a loop: what holds ahead of each item -/
theorem Ok.loop {f : α → S → Option S} {xs : List α} {s0 : S} (I : List α → S → Prop) (h0 : I [] s0) (hs : ∀ pre x post s, xs = pre ++ x :: post → I pre s → Ok (f x s) (I (pre ++ [x]))) : Ok (loopS f xs s0) (I xs) := by
  have key : ∀ (post pre : List α) (s : S), xs = pre ++ post → I pre s → Ok (loopS f post s) (I xs) := by
    intro post
    induction post with
    | nil => intro pre s e h; rw [List.append_nil] at e; subst e; exact ⟨s, rfl, h⟩
    | cons x post ih =>
      intro pre s e h
      obtain ⟨s', e1, h1⟩ := hs pre x post s e h
      obtain ⟨r, e2, h2⟩ := ih (pre ++ [x]) s' (by rw [e]; simp) h1
      exact ⟨r, by show (f x s).bind _ = _; rw [e1]; exact e2, h2⟩
  exact key xs [] s0 rfl h0
/-- a loop that never leaves -/
theorem Ok.loopN {f : α → S → Option (Ctl S ρ)} {xs : List α} {s0 : S} (I : List α → S → Prop) (h0 : I [] s0) (hs : ∀ pre x post s, xs = pre ++ x :: post → I pre s → Ok (f x s) fun c => ∃ s', c = .nx s' ∧ I (pre ++ [x]) s') : Ok (loopC f xs s0) fun c => ∃ s', c = .nx s' ∧ I xs s' := by
  have key : ∀ (post pre : List α) (s : S), xs = pre ++ post → I pre s → Ok (loopC f post s) fun c => ∃ s', c = .nx s' ∧ I xs s' := by
    intro post
    induction post with
    | nil => intro pre s e h; rw [List.append_nil] at e; subst e; exact ⟨_, rfl, s, rfl, h⟩
    | cons x post ih =>
      intro pre s e h
      obtain ⟨_, e1, s', rfl, h1⟩ := hs pre x post s e h
      obtain ⟨r, e2, h2⟩ := ih (pre ++ [x]) s' (by rw [e]; simp) h1
      exact ⟨r, by show (f x s).bind _ = _; rw [e1]; exact e2, h2⟩
  exact key xs [] s0 rfl h0
/-- a loop that may return: it holds ahead of each item unless it has returned -/
theorem Ok.loopR {f : α → S → Option (Ctl S ρ)} {xs : List α} {s0 : S} (I : List α → S → Prop) (T : ρ → Prop) (h0 : I [] s0) (hs : ∀ pre x post s, xs = pre ++ x :: post → I pre s → Ok (f x s) fun c => (∃ s', c = .nx s' ∧ I (pre ++ [x]) s') ∨ ∃ r, c = .rt r ∧ T r) : Ok (loopC f xs s0) fun c => (∃ s', c = .nx s' ∧ I xs s') ∨ ∃ r, c = .rt r ∧ T r := by
  have key : ∀ (post pre : List α) (s : S), xs = pre ++ post → I pre s → Ok (loopC f post s) fun c => (∃ s', c = .nx s' ∧ I xs s') ∨ ∃ r, c = .rt r ∧ T r := by
    intro post
    induction post with
    | nil => intro pre s e h; rw [List.append_nil] at e; subst e; exact ⟨_, rfl, .inl ⟨s, rfl, h⟩⟩
    | cons x post ih =>
      intro pre s e h
      obtain ⟨_, e1, ⟨s', rfl, h1⟩ | ⟨r, rfl, h1⟩⟩ := hs pre x post s e h
      · obtain ⟨r, e2, h2⟩ := ih (pre ++ [x]) s' (by rw [e]; simp) h1
        exact ⟨r, by show (f x s).bind _ = _; rw [e1]; exact e2, h2⟩
      · exact ⟨.rt r, by show (f x s).bind _ = _; rw [e1]; rfl, .inr ⟨r, rfl, h1⟩⟩
  exact key xs [] s0 rfl h0
/-- a comprehension without a state -/
theorem comp_pure {f : α → Unit → Option (Option β × Unit)} {g : α → Option β} : ∀ {xs : List α}, (∀ x ∈ xs, f x () = some (g x, ())) → comp f xs () = some (xs.filterMap g, ())
  | [], _ => rfl
  | x :: xs, h => by
    show (f x ()).bind _ = _
    rw [h x List.mem_cons_self]
    show ((comp f xs ()).bind fun r => some (match g x with
      | some y => (y :: r.1, r.2)
      | none => r)) = _
    rw [comp_pure fun y hy => h y (List.mem_cons_of_mem _ hy), List.filterMap_cons]
    cases g x <;> rfl
end
theorem filterMap_some {α : Type} : ∀ xs : List α, xs.filterMap (fun x => some x) = xs
  | [] => rfl
  | x :: xs => by rw [List.filterMap_cons, filterMap_some xs]
theorem filterMap_ite {α : Type} {p : α → Bool} : ∀ xs : List α, xs.filterMap (fun x => if p x = true then some x else none) = xs.filter p
  | [] => rfl
  | x :: xs => by
    rw [List.filterMap_cons, List.filter_cons, filterMap_ite xs]
    cases p x <;> rfl
/-! ### texts as rows of numbers -/
def cl (s : Str) : List Nat := s.cps.toList
theorem cl_inj {a b : Str} (h : cl a = cl b) : a = b := by
  obtain ⟨a⟩ := a; obtain ⟨b⟩ := b
  exact congrArg Str.mk (Array.toList_inj.mp h)
theorem cl_len (s : Str) : s.length = (cl s).length := (Array.length_toList).symm
theorem cl_app (a b : Str) : cl (a ++ b) = cl a ++ cl b := Array.toList_append
theorem cl_sg (c : Nat) : cl ⟨#[c]⟩ = [c] := rfl
theorem sgns_cl (s : Str) : sgns s = (cl s).map fun c => ⟨#[c]⟩ := rfl
theorem cl_cut (z : Str) (lo hi : Option Int) : cl (cutS z lo hi) = cut (cl z) lo hi := by
  unfold cl cutS cut
  rw [List.toList_toArray]
  show _ = List.take (HT.sIx z.cps.toList.length z.cps.toList.length hi - HT.sIx z.cps.toList.length 0 lo) (List.drop (HT.sIx z.cps.toList.length 0 lo) z.cps.toList)
  rw [Array.length_toList]
  rfl
theorem sIx_nn {n d : Nat} {k : Int} (h : 0 ≤ k) : HT.sIx n d (some k) = min k.toNat n := by
  obtain ⟨m, rfl⟩ := Int.eq_ofNat_of_zero_le h
  rw [HT.sIx_nat]; rfl
theorem cut_to {α : Type} (xs : List α) {k : Int} (h : 0 ≤ k) : cut xs none (some k) = xs.take k.toNat := by
  unfold cut
  rw [HT.sIx_none, sIx_nn h, List.drop_zero, Nat.sub_zero]
  rcases Nat.le_total k.toNat xs.length with e | e
  · rw [Nat.min_eq_left e]
  · rw [Nat.min_eq_right e, List.take_of_length_le (Nat.le_refl _), List.take_of_length_le e]
theorem cut_from {α : Type} (xs : List α) {k : Int} (h : 0 ≤ k) : cut xs (some k) none = xs.drop k.toNat := by
  unfold cut
  rw [HT.sIx_none, sIx_nn h]
  rcases Nat.le_total k.toNat xs.length with e | e
  · rw [Nat.min_eq_left e, List.take_of_length_le]; rw [List.length_drop]; omega
  · rw [Nat.min_eq_right e, Nat.sub_self, List.take_zero, List.drop_of_length_le e]
theorem cut_mid {α : Type} (xs : List α) {a b : Int} (h : 0 ≤ a) (h2 : a ≤ b) : cut xs (some a) (some b) = (xs.drop a.toNat).take (b.toNat - a.toNat) := by
  unfold cut
  rw [sIx_nn h, sIx_nn (by omega)]
  rcases Nat.le_total a.toNat xs.length with e | e
  · rw [Nat.min_eq_left e]
    rcases Nat.le_total b.toNat xs.length with e2 | e2
    · rw [Nat.min_eq_left e2]
    · rw [Nat.min_eq_right e2, List.take_of_length_le (by rw [List.length_drop]; omega), List.take_of_length_le (by rw [List.length_drop]; omega)]
  · rw [Nat.min_eq_right e, List.drop_of_length_le e, List.drop_of_length_le (Nat.le_refl _)]; simp
theorem atI_nn {α : Type} {xs : List α} {i : Int} (h : 0 ≤ i) (h2 : i < xs.length) : atI xs i = xs[i.toNat]? := by
  unfold atI ixN
  rw [if_pos h, if_pos h2]; rfl
theorem atI_last {α : Type} {xs : List α} {a : α} : atI (xs ++ [a]) (-1) = some a := by
  unfold atI ixN
  rw [if_neg (by decide), if_pos (by simp; omega)]
  show (xs ++ [a])[((-1 : Int) + ((xs ++ [a]).length : Nat)).toNat]? = _
  have e : ((-1 : Int) + ((xs ++ [a]).length : Nat)).toNat = xs.length := by simp; omega
  rw [e]; simp
theorem ixS_ok {s : Str} {i : Int} (h : 0 ≤ i) (h2 : i < s.length) (h3 : s.length ≤ sizeLine) : Ok (ixS s i) fun z => ∃ c, (cl s)[i.toNat]? = some c ∧ z = ⟨#[c]⟩ := by
  unfold ixS
  refine Ok.gd (by unfold fitsS; exact decide_eq_true h3) ?_
  rw [atI_nn h (by rw [Array.length_toList]; exact h2)]
  have hl : i.toNat < (cl s).length := by rw [← cl_len]; omega
  refine Ok.bde (a := (cl s)[i.toNat]) (by show (cl s)[i.toNat]? = _; simp [hl]) ?_
  exact Ok.sm ⟨_, by simp [hl], rfl⟩
theorem sizeLine_big : (1000000 : Nat) ≤ sizeLine := by rw [sizeLine_eq]; decide
theorem fitsS_ok {s : Str} (h : s.length ≤ 1000000) : fitsS s = true := decide_eq_true (Nat.le_trans h sizeLine_big)
theorem fits_ok {α : Type} {s : List α} (h : s.length < 1000000) : fits s = true := decide_eq_true (Nat.lt_of_lt_of_le h sizeLine_big)
theorem fitsE_ok {α : Type} {s : List α} (h : s.length ≤ 1000000) : fitsE s = true := decide_eq_true (Nat.le_trans h sizeLine_big)
theorem fits2_ok {α : Type} {s t : List α} (h : s.length + t.length ≤ 1000000) : fits2 s t = true := decide_eq_true (Nat.le_trans h sizeLine_big)
theorem catOk_ok {s t : Str} (h : s.length + t.length ≤ 1000000) : catOk s t = true := decide_eq_true (Nat.le_trans h sizeLine_big)
theorem rgOk_ok {a b : Int} (h : -1000000 ≤ a) (h2 : a ≤ 1000000) (h3 : -1000000 ≤ b) (h4 : b ≤ 1000000) : rgOk a b = true := by
  unfold rgOk
  rw [decide_eq_true (show -(2 ^ 62) ≤ a by omega), decide_eq_true (show a < 2 ^ 62 by omega), decide_eq_true (show -(2 ^ 62) ≤ b by omega), decide_eq_true (show b < 2 ^ 62 by omega)]; rfl
theorem rgFit_ok {a b : Int} (h : -1000 ≤ a) (h2 : a ≤ 1000) (h3 : -1000 ≤ b) (h4 : b ≤ 1000) : rgFit a b = true := by
  unfold rgFit
  rw [decide_eq_true (show -(2 ^ 62) ≤ a by omega), decide_eq_true (show a < 2 ^ 62 by omega), decide_eq_true (show -(2 ^ 62) ≤ b by omega), decide_eq_true (show b < 2 ^ 62 by omega), decide_eq_true (show (b - a).toNat ≤ 100000 by omega)]; rfl
theorem mulOk_l {a b : Int} (h : -(2 ^ 64) < a) (h2 : a < 2 ^ 64) : mulOk a b = true := by
  unfold mulOk; rw [decide_eq_true h, decide_eq_true h2]; rfl
theorem mulOk_r {a b : Int} (h : -(2 ^ 64) < b) (h2 : b < 2 ^ 64) : mulOk a b = true := by
  unfold mulOk; rw [decide_eq_true h, decide_eq_true h2]; simp
theorem modOk_ok {a : Int} (h : 0 < a) : modOk a = true := decide_eq_true h
theorem divOk_ok {a : Int} (h : 0 < a) (h2 : a < 1073741824) : divOk a = true := by
  unfold divOk; rw [decide_eq_true h, decide_eq_true h2]; rfl
theorem repS_cl {x : Str} {n : Int} (h : 0 ≤ n) : cl (repS x n) = (List.replicate n.toNat (cl x)).flatten := by
  have fold : ∀ (k : Nat) (acc : Array Nat), ((List.replicate k x.cps).foldl (· ++ ·) acc).toList = acc.toList ++ (List.replicate k x.cps.toList).flatten := by
    intro k
    induction k with
    | zero => intro acc; simp
    | succ k ih => intro acc; rw [List.replicate_succ, List.foldl_cons, ih, List.replicate_succ, List.flatten_cons, Array.toList_append, List.append_assoc]
  unfold repS Txt.mul
  by_cases h1 : n < 1
  · rw [if_pos h1]
    have e : n.toNat = 0 := by omega
    rw [e]; rfl
  · rw [if_neg h1]
    by_cases h2 : (n == 1 || x.length == 0) = true
    · rw [if_pos h2]
      rcases Bool.or_eq_true_iff.mp h2 with h3 | h3
      · have e : n = 1 := by simpa using h3
        subst e
        show cl x = _
        simp
      · have e : x.length = 0 := by simpa using h3
        rw [cl_len] at e
        have e2 : cl x = [] := List.eq_nil_of_length_eq_zero e
        rw [e2]
        symm
        rw [List.flatten_eq_nil_iff]
        intro l hl
        exact (List.mem_replicate.mp hl).2
    · rw [if_neg h2]
      show ((List.replicate n.toNat x.cps).foldl (· ++ ·) #[]).toList = _
      rw [fold]
      simp [cl]
theorem repOk_ok {x : Str} {n : Int} (h : 0 ≤ n) (h2 : n ≤ 100) (h3 : x.length ≤ 100) : repOk x n = true := by
  unfold repOk
  have e : x.length * n.toNat ≤ 100000 := Nat.le_trans (Nat.mul_le_mul h3 (show n.toNat ≤ 100 by omega)) (by decide)
  rw [decide_eq_true (show -(2 ^ 62) ≤ n by omega), decide_eq_true (show n < 2 ^ 62 by omega), decide_eq_true e, decide_eq_true (show x.length ≤ 100000 by omega)]; rfl
theorem rng_mem {a b i : Int} : i ∈ rng a b ↔ a ≤ i ∧ i < b := by
  unfold rng
  rw [List.mem_map]
  constructor
  · rintro ⟨j, hj, rfl⟩
    rw [List.mem_range] at hj
    omega
  · intro ⟨h1, h2⟩
    exact ⟨(i - a).toNat, by rw [List.mem_range]; omega, by omega⟩
theorem rng_len (a b : Int) : (rng a b).length = (b - a).toNat := by unfold rng; simp
theorem rng_at {a b : Int} {pre post : List Int} {x : Int} (h : rng a b = pre ++ x :: post) : x = a + pre.length ∧ pre = rng a x ∧ a ≤ x ∧ x < b := by
  have hx : x ∈ rng a b := by rw [h]; simp
  rw [rng_mem] at hx
  have hg : (rng a b)[pre.length]? = some x := by rw [h]; simp
  have hl : pre.length < (b - a).toNat := by
    have := congrArg List.length h
    rw [rng_len] at this
    simp at this
    omega
  have hx2 : x = a + pre.length := by
    unfold rng at hg
    rw [List.getElem?_map, List.getElem?_range hl] at hg
    exact (Option.some.inj hg).symm
  refine ⟨hx2, ?_, hx⟩
  have e : pre = (rng a b).take pre.length := by rw [h]; simp
  rw [e]
  unfold rng
  rw [← List.map_take, List.take_range]
  congr 2
  rw [hx2]; omega
theorem rng_snoc {a b : Int} (h : a ≤ b) : rng a (b + 1) = rng a b ++ [b] := by
  unfold rng
  have e : (b + 1 - a).toNat = (b - a).toNat + 1 := by omega
  rw [e, List.range_succ, List.map_append]
  congr 1
  show [a + ((b - a).toNat : Int)] = [b]
  congr 1
  omega
/-! ### == of data: the sides are small -/
def okS (s : Str) : Prop := PyData.strOk s = true
theorem canAll {α : Type} {A : R α} (D : Dat A) : ∀ {xs : List α}, (∀ x ∈ xs, (D.d x).canLay0 = true) → PyData.canLayAll0 (xs.map D.d) = true
  | [], _ => rfl
  | x :: xs, h => by
    show ((D.d x).canLay0 && PyData.canLayAll0 (xs.map D.d)) = true
    rw [h x List.mem_cons_self, canAll D fun y hy => h y (List.mem_cons_of_mem _ hy)]; rfl
theorem depAll {α : Type} {A : R α} (D : Dat A) {n : Nat} : ∀ {xs : List α}, (∀ x ∈ xs, (D.d x).depth ≤ n) → PyData.depthAll (xs.map D.d) ≤ n
  | [], _ => Nat.zero_le _
  | x :: xs, h => by
    show max (D.d x).depth (PyData.depthAll (xs.map D.d)) ≤ n
    exact Nat.max_le.mpr ⟨h x List.mem_cons_self, depAll D fun y hy => h y (List.mem_cons_of_mem _ hy)⟩
theorem shp_of {α : Type} {A : R α} {D : Dat A} {a : α} (h : (D.d a).canLay0 = true) (h2 : (D.d a).depth ≤ 64) : shp D a = true := by
  show ((D.d a).canLay0 && decide ((D.d a).depth ≤ 64)) = true
  rw [h, decide_eq_true h2]; rfl
theorem shp_lS {xs : List Str} (h : ∀ x ∈ xs, okS x) : shp (dL dS) xs = true := shp_of (canAll dS h) (Nat.succ_le_of_lt (Nat.lt_of_le_of_lt (depAll dS (n := 0) fun _ _ => Nat.le_refl _) (by decide)))
theorem shp_tS {xs : List Str} (h : ∀ x ∈ xs, okS x) : shp (dT dS) xs = true := shp_of (canAll dS h) (Nat.succ_le_of_lt (Nat.lt_of_le_of_lt (depAll dS (n := 0) fun _ _ => Nat.le_refl _) (by decide)))
theorem shp_lI (xs : List Int) : shp (dL dI) xs = true := shp_of (canAll dI fun _ _ => rfl) (Nat.succ_le_of_lt (Nat.lt_of_le_of_lt (depAll dI (n := 0) fun _ _ => Nat.le_refl _) (by decide)))
theorem shp_tI (xs : List Int) : shp (dT dI) xs = true := shp_of (canAll dI fun _ _ => rfl) (Nat.succ_le_of_lt (Nat.lt_of_le_of_lt (depAll dI (n := 0) fun _ _ => Nat.le_refl _) (by decide)))
/-- a loop that picks out of a row: what has been picked so far is known -/
theorem loop_pick {α : Type} {f : α → List α → Option (List α)} {xs : List α} (p : α → Bool) (hs : ∀ pre x post, xs = pre ++ x :: post → f x (pre.filter p) = some (if p x = true then pre.filter p ++ [x] else pre.filter p)) : loopS f xs [] = some (xs.filter p) := by
  refine Ok.eq (Ok.loop (fun pre s => s = pre.filter p) rfl fun pre x post s e h => ?_)
  subst h
  refine ⟨_, hs pre x post e, ?_⟩
  rw [List.filter_append, List.filter_cons]
  cases p x <;> simp
end Gl

namespace Law
open PySem PySem.Spec PyProof.Rows L2 Gl
def qForm : R (List Str) := ⟨fun K F v a => ∃ (p dx : Addr) (u0 : V), v = .ref p ∧ F p = some (.ins (He.ga K "Form") dx [("pieces", u0)]) ∧ (qT qS).r K F u0 a, fun e ⟨p, dx, u0, h1, h2, k0⟩ => ⟨p, dx, u0, h1, e _ _ h2, (qT qS).mono e k0⟩⟩
def m_law_pool (a__law_script : (List Int)) (a__law_k : Int) : Option (Int × Int) :=
  (((gd (shp (dL dI) a__law_script) <| gd (shp (dL dI) ([] : List Int)) <| if (!decide (a__law_script = ([] : List Int))) = true then (gd (modOk ((a__law_script).length : Int)) <| (atI a__law_script (a__law_k % ((a__law_script).length : Int))).bind fun t14 => some (t14)) else (some (0)))).bind fun (t1 : Int) => gd (modOk 2147483629) <| gd (mulOk 104729 a__law_k) <| gd (mulOk (((t1 % 2147483629) + (104729 * a__law_k)) + 11) 48271) <| gd (modOk 2147483647) <| gd (powOk 10 18) <| gd (mulOk t1 (b2I (decide ((10 ^ (18 : Int).toNat) ≤ t1)))) <| some ((t1 * (b2I (decide ((10 ^ (18 : Int).toNat) ≤ t1)))), (((((t1 % 2147483629) + (104729 * a__law_k)) + 11) * 48271) % 2147483647)))
def m_law_take (a__law_pool_here : (Int × Int)) (a__law_many : Int) : Option (Int × (Int × Int)) :=
  (if decide (0 < (a__law_pool_here).1) = true then (gd (modOk a__law_many) <| gd (divOk a__law_many) <| some (((a__law_pool_here).1 % a__law_many), (((a__law_pool_here).1 / a__law_many), (a__law_pool_here).2))) else (gd (mulOk (a__law_pool_here).2 48271) <| gd (modOk 2147483647) <| gd (mulOk (((a__law_pool_here).1, ((((a__law_pool_here).2 * 48271) + 11) % 2147483647))).2 (((a__law_pool_here).1, ((((a__law_pool_here).2 * 48271) + 11) % 2147483647))).2) <| gd (modOk 2147483629) <| gd (divOk 64) <| gd (modOk a__law_many) <| some ((((((((a__law_pool_here).1, ((((a__law_pool_here).2 * 48271) + 11) % 2147483647))).2 * (((a__law_pool_here).1, ((((a__law_pool_here).2 * 48271) + 11) % 2147483647))).2) % 2147483629) / 64) % a__law_many), ((a__law_pool_here).1, ((((a__law_pool_here).2 * 48271) + 11) % 2147483647)))))
def m_law_all_signs  : Option Str :=
  (some (" #-.0123456789:>ABCDEFGHIJKLMNOPQRSTUVWXYZabcdefghijklmnopqrstuvwxyz" : Str))
def m_law_text_b1 (t1 : (Int × (Int × Int))) (x28 : Int) (s30 : ((Int × Int) × Str)) : Option ((Int × Int) × Str) :=
  (if (decide (t1.1 = 0)) = true then ((m_law_all_signs).bind fun t43 => (m_law_take (s30.1) (68)).bind fun t51 => (ixS t43 t51.1).bind fun t61 => gd (catOk s30.2 t61) <| some (t51.2, (s30.2 ++ t61))) else ((m_law_take (s30.1) (4)).bind fun t64 => (ixS ("a1-b" : Str) t64.1).bind fun t74 => gd (catOk s30.2 t74) <| some (t64.2, (s30.2 ++ t74))))
def m_law_text (a__law_pool_here : (Int × Int)) : Option (Str × (Int × Int)) :=
  ((m_law_take (a__law_pool_here) (3)).bind fun t1 => (m_law_take (t1.2) (4)).bind fun t11 => gd (rgOk 0 (1 + t11.1)) <| (loopS (m_law_text_b1 t1) (rng 0 (1 + t11.1)) (t11.2, ("" : Str))).bind fun t22 => some (t22.2, t22.1))
def m_law_rich_b1  (x28 : Int) (s30 : ((Int × Int) × (List Str))) : Option ((Int × Int) × (List Str)) :=
  ((m_law_take (s30.1) (6)).bind fun t47 => gd (shp (dL dS) s30.2) <| gd (shp (dL dS) ([] : List Str)) <| (if (!decide (s30.2 = ([] : List Str))) = true then ((atI s30.2 (-1)).bind fun t81 => some ((!decide (t81 ∈ [("<any>" : Str), ("<digits>" : Str), ("<word>" : Str)])))) else some (false)).bind fun t75 => if ((decide (t47.1 = 0)) && (!decide (("<any>" : Str) ∈ s30.2))) = true then (gd (fits s30.2) <| some (t47.2, (s30.2 ++ [("<any>" : Str)]))) else (if (decide (t47.1 = 1)) = true then (gd (fits s30.2) <| some (t47.2, (s30.2 ++ [("<digits>" : Str)]))) else (if ((decide (t47.1 = 2)) || t75) = true then (gd (fits s30.2) <| some (t47.2, (s30.2 ++ [("<word>" : Str)]))) else ((m_law_text (t47.2)).bind fun t118 => gd (fits s30.2) <| some (t118.2, (s30.2 ++ [t118.1]))))))
def m_law_rich (a__law_pool_here : (Int × Int)) : Option ((List Str) × (Int × Int)) :=
  ((m_law_take (a__law_pool_here) (4)).bind fun t10 => gd (rgOk 0 (1 + t10.1)) <| (loopS m_law_rich_b1 (rng 0 (1 + t10.1)) (t10.2, ([] : List Str))).bind fun t21 => some (t21.2, t21.1))
def m_is_line_b1  (x28 : Str) (s30 : Unit) : Option (Ctl Unit Bool) :=
  (if (!inS x28 (" #-.0123456789:>ABCDEFGHIJKLMNOPQRSTUVWXYZabcdefghijklmnopqrstuvwxyz" : Str)) = true then (some (.rt false)) else (some (.nx ())))
def m_is_line (a_thing : Th) : Option Bool :=
  ((if (!(thIs "str" a_thing)) = true then some (true) else ((thS a_thing).bind fun t10 => some ((decide (t10 = ("" : Str)))))).bind fun t4 => if t4 = true then (some false) else ((thS a_thing).bind fun t20 => (loopC m_is_line_b1 (sgns t20) ()).bind fun t23 => aft t23 fun s46 => some true))
def m_is_allowed (a_parts : (List Str)) (a_at : Int) : Option Bool :=
  ((atI a_parts a_at).bind fun t1 => if (decide ((4) ≤ a_at) || false) = true then (some false) else (if (decide (t1 = ("<any>" : Str))) = true then (some (!decide (("<any>" : Str) ∈ (cut a_parts none (some a_at))))) else (if (decide (t1 ∈ (["<digits>", "<word>", "<any>"] : List Str))) = true then (some true) else ((if decide (0 < a_at) = true then ((atI a_parts (a_at - 1)).bind fun t26 => some ((!decide (t26 ∈ (["<digits>", "<word>", "<any>"] : List Str))))) else some (false)).bind fun t20 => if t20 = true then (some false) else ((m_is_line (Th.d (PyData.str (t1)))).bind fun t38 => (if t38 = true then (gd (fitsS t1) <| some (decide (((t1).length : Int) ≤ (4)))) else some (false)).bind fun t47 => some t47)))))
def m_Form___init___b1 (a_parts : (List Str)) (x8 : Int) (s10 : Unit) : Option Unit :=
  ((m_is_allowed (a_parts) (x8)).bind fun t21 => if (!t21) = true then (none) else (some ()))
def m_Form___init__ (a_parts : (List Str)) : Option (List Str) :=
  (if (decide (((a_parts).length : Int) = 0)) = true then (none) else (gd (rgOk 0 ((a_parts).length : Int)) <| (loopS (m_Form___init___b1 a_parts) (rng 0 ((a_parts).length : Int)) ()).bind fun t3 => some (a_parts)))
def m_law_form (a__law_parts : (List Str)) : Option (List Str) :=
  (if (decide (((a__law_parts).length : Int) = 1)) = true then ((atI a__law_parts 0).bind fun t2 => (m_Form___init__ [t2]).bind fun t6 => some t6) else (if (decide (((a__law_parts).length : Int) = 2)) = true then ((atI a__law_parts 0).bind fun t15 => (atI a__law_parts 1).bind fun t19 => (m_Form___init__ [t15, t19]).bind fun t23 => some t23) else (if (decide (((a__law_parts).length : Int) = 3)) = true then ((atI a__law_parts 0).bind fun t32 => (atI a__law_parts 1).bind fun t36 => (atI a__law_parts 2).bind fun t40 => (m_Form___init__ [t32, t36, t40]).bind fun t44 => some t44) else ((atI a__law_parts 0).bind fun t52 => (atI a__law_parts 1).bind fun t56 => (atI a__law_parts 2).bind fun t60 => (atI a__law_parts 3).bind fun t64 => (m_Form___init__ [t52, t56, t60, t64]).bind fun t68 => some t68))))
def m_law_line_b1  (x11 : Str) (s13 : ((Int × Int) × Str)) : Option ((Int × Int) × Str) :=
  (if (decide (x11 = ("<digits>" : Str))) = true then ((m_law_take (s13.1) (10)).bind fun t26 => (ixS ("0123456789" : Str) t26.1).bind fun t36 => (m_law_take (t26.2) (3)).bind fun t38 => gd (repOk t36 (1 + t38.1)) <| gd (catOk s13.2 (repS t36 (1 + t38.1))) <| some (t38.2, (s13.2 ++ (repS t36 (1 + t38.1))))) else (if (decide (x11 = ("<word>" : Str))) = true then ((m_law_take (s13.1) (4)).bind fun t51 => (ixS ("aBzb" : Str) t51.1).bind fun t61 => (m_law_take (t51.2) (3)).bind fun t63 => gd (repOk t61 (1 + t63.1)) <| gd (catOk s13.2 (repS t61 (1 + t63.1))) <| some (t63.2, (s13.2 ++ (repS t61 (1 + t63.1))))) else (if (decide (x11 = ("<any>" : Str))) = true then ((m_law_text (s13.1)).bind fun t76 => (m_law_take (t76.2) (3)).bind fun t86 => gd (repOk t76.1 t86.1) <| gd (catOk s13.2 (repS t76.1 t86.1)) <| some (t86.2, (s13.2 ++ (repS t76.1 t86.1)))) else (gd (catOk s13.2 x11) <| some (s13.1, (s13.2 ++ x11))))))
def m_law_line (a__law_pool_here : (Int × Int)) (a__law_parts : (List Str)) : Option (Str × (Int × Int)) :=
  ((loopS m_law_line_b1 a__law_parts (a__law_pool_here, ("" : Str))).bind fun t5 => some (t5.2, t5.1))
def m_law_spoiled (a__law_pool_here : (Int × Int)) (a__law_line_here : Str) : Option (Str × (Int × Int)) :=
  (gd (fitsS a__law_line_here) <| (m_law_take (a__law_pool_here) ((((a__law_line_here).length : Int) + 1))).bind fun t2 => (m_law_all_signs).bind fun t12 => (m_law_take (t2.2) (68)).bind fun t20 => (ixS t12 t20.1).bind fun t30 => (m_law_take (t20.2) (5)).bind fun t32 => if (decide (t32.1 = 0)) = true then (gd (fitsS a__law_line_here) <| gd (catOk (cutS a__law_line_here none (some t2.1)) t30) <| gd (fitsS a__law_line_here) <| gd (catOk ((cutS a__law_line_here none (some t2.1)) ++ t30) (cutS a__law_line_here (some t2.1) none)) <| some ((((cutS a__law_line_here none (some t2.1)) ++ t30) ++ (cutS a__law_line_here (some t2.1) none)), t32.2)) else (if (decide (t32.1 = 1)) = true then (gd (fitsS a__law_line_here) <| gd (fitsS a__law_line_here) <| gd (catOk (cutS a__law_line_here none (some t2.1)) (cutS a__law_line_here (some (t2.1 + 1)) none)) <| some (((cutS a__law_line_here none (some t2.1)) ++ (cutS a__law_line_here (some (t2.1 + 1)) none)), t32.2)) else (if (decide (t32.1 = 2)) = true then (gd (fitsS a__law_line_here) <| gd (catOk (cutS a__law_line_here none (some t2.1)) t30) <| gd (fitsS a__law_line_here) <| gd (catOk ((cutS a__law_line_here none (some t2.1)) ++ t30) (cutS a__law_line_here (some (t2.1 + 1)) none)) <| some ((((cutS a__law_line_here none (some t2.1)) ++ t30) ++ (cutS a__law_line_here (some (t2.1 + 1)) none)), t32.2)) else (some (a__law_line_here, t32.2)))))
def m_Form_forms (a_self : (List Str)) : Option (List (List Str)) :=
  (some [a_self])
def m_Form_holds (a_self : (List Str)) (a_truths : (List Bool)) : Option Bool :=
  ((atI a_truths 0).bind fun t1 => some t1)
def m_cells_of_b1  (x23 : Str) (s25 : (List Str)) : Option (List Str) :=
  (if (decide (x23 ∈ (["<digits>", "<word>", "<any>"] : List Str))) = true then (gd (fits s25) <| some ((s25 ++ [x23]))) else (gd (fitsS x23) <| gd (fits2 s25 (sgns x23)) <| some ((s25 ++ (sgns x23)))))
def m_cells_of (a_parts : (List Str)) : Option (List Str) :=
  ((loopS m_cells_of_b1 a_parts (([] : List Str))).bind fun t17 => some t17)
def m_closed_b1 (a_cells : (List Str)) (a_positions : (List Int)) (x17 : Int) (s19 : (List Int)) : Option (List Int) :=
  ((if (decide (x17 ∈ a_positions)) = true then some (true) else ((if decide (0 < x17) = true then ((atI a_cells (x17 - 1)).bind fun t69 => some (((decide (t69 = ("<any>" : Str))) && (decide ((x17 - 1) ∈ s19))))) else some (false)).bind fun t63 => some (t63))).bind fun t53 => if t53 = true then (gd (fits s19) <| some ((s19 ++ [x17]))) else (some (s19)))
def m_closed (a_cells : (List Str)) (a_positions : (List Int)) : Option (List Int) :=
  (gd (rgOk 0 (((a_cells).length : Int) + 1)) <| (loopS (m_closed_b1 a_cells a_positions) (rng 0 (((a_cells).length : Int) + 1)) (([] : List Int))).bind fun t11 => some t11)
def m_started (a_cells : (List Str)) : Option (List Int) :=
  ((m_closed (a_cells) ([0])).bind fun t7 => some t7)
def m_Form_parts (a_self : (List Str)) : Option (List Str) :=
  (some a_self)
def m_takes (a_cell : Str) (a_sign : Str) : Option Bool :=
  (if (decide (a_cell = ("<any>" : Str))) = true then (some true) else (if (decide (a_cell = ("<digits>" : Str))) = true then (some (inS a_sign ("0123456789" : Str))) else (if (decide (a_cell = ("<word>" : Str))) = true then (some (inS a_sign ("ABCDEFGHIJKLMNOPQRSTUVWXYZabcdefghijklmnopqrstuvwxyz" : Str))) else (some (decide (a_cell = a_sign))))))
def m_moved_b1 (a_cells : (List Str)) (a_sign : Str) (x23 : Int) (s25 : (List Int)) : Option (List Int) :=
  ((((if decide (x23 < ((a_cells).length : Int)) = true then ((atI a_cells x23).bind fun t61 => (m_takes (t61) (a_sign)).bind fun t65 => some (t65)) else some (false)).bind fun t55 => if t55 = true then ((atI a_cells x23).bind fun t80 => (if (decide (t80 = ("<any>" : Str))) = true then (some (x23)) else (some ((x23 + 1)))).bind fun t84 => gd (fits s25) <| some ((s25 ++ [t84]))) else (some (s25)))).bind fun (t39 : (List Int)) => (if decide (0 < x23) = true then ((atI a_cells (x23 - 1)).bind fun t169 => (if (decide (t169 ∈ [("<digits>" : Str), ("<word>" : Str)])) = true then ((atI a_cells (x23 - 1)).bind fun t197 => (m_takes (t197) (a_sign)).bind fun t201 => some (t201)) else some (false)).bind fun t191 => some (t191)) else some (false)).bind fun t163 => if t163 = true then (gd (fits t39) <| some ((t39 ++ [x23]))) else (some (t39)))
def m_moved (a_cells : (List Str)) (a_positions : (List Int)) (a_sign : Str) : Option (List Int) :=
  ((loopS (m_moved_b1 a_cells a_sign) a_positions (([] : List Int))).bind fun t17 => (m_closed (a_cells) (t17)).bind fun t243 => some t243)
def m_is_done (a_cells : (List Str)) (a_positions : (List Int)) : Option Bool :=
  (some (decide (((a_cells).length : Int) ∈ a_positions)))
def m_Form___contains___b1 (t63 : (List Str)) (x84 : Str) (s86 : (List Int)) : Option (List Int) :=
  ((m_moved (t63) (s86) (x84)).bind fun t99 => some (t99))
def m_Form___contains___b2 (a_line : Str) (x36 : (List Str)) (s38 : (List Bool)) : Option (List Bool) :=
  ((m_Form_parts (x36)).bind fun t55 => (m_cells_of (t55)).bind fun t63 => (m_started (t63)).bind fun t71 => (loopS (m_Form___contains___b1 t63) (sgns a_line) (t71)).bind fun t79 => (m_is_done (t63) (t79)).bind fun t115 => gd (fits s38) <| some ((s38 ++ [t115])))
def m_Form___contains__ (a_self : (List Str)) (a_line : Str) : Option Bool :=
  ((m_is_line (Th.d (PyData.str (a_line)))).bind fun t1 => if (!t1) = true then (some false) else ((m_Form_forms (a_self)).bind fun t18 => (loopS (m_Form___contains___b2 a_line) t18 (([] : List Bool))).bind fun t30 => (m_Form_holds (a_self) (t30)).bind fun t147 => some t147))
def m_law_takes (a__law_part : Str) (a__law_sign : Str) : Option Bool :=
  (if (decide (a__law_part = ("<digits>" : Str))) = true then (some (inS a__law_sign ("0123456789" : Str))) else (some ((decide (a__law_part = ("<word>" : Str))) && (inS a__law_sign ("ABCDEFGHIJKLMNOPQRSTUVWXYZabcdefghijklmnopqrstuvwxyz" : Str)))))
def m_law_ends_b1 (a__law_part : Str) (a__law_line_here : Str)  (s35 : ((List Int) × Int)) : Option (Bool × ((List Int) × Int)) :=
  (gd (fitsS a__law_line_here) <| (if decide (s35.2 < ((a__law_line_here).length : Int)) = true then ((ixS a__law_line_here s35.2).bind fun t66 => (m_law_takes (a__law_part) (t66)).bind fun t68 => some (t68)) else some (false)).bind fun t60 => some (t60, (s35.1, s35.2)))
def m_law_ends_b2   (s83 : ((List Int) × Int)) : Option ((List Int) × Int) :=
  (gd (fits s83.1) <| some ((s83.1 ++ [(s83.2 + 1)]), (s83.2 + 1)))
def m_law_ends (a__law_part : Str) (a__law_line_here : Str) (a__law_at : Int) : Option (List Int) :=
  (if (decide (a__law_part = ("<any>" : Str))) = true then (gd (fitsS a__law_line_here) <| gd (rgFit a__law_at (((a__law_line_here).length : Int) + 1)) <| some (rng a__law_at (((a__law_line_here).length : Int) + 1))) else (((if (decide (a__law_part ∈ [("<digits>" : Str), ("<word>" : Str)])) = true then ((whileS (m_law_ends_b1 a__law_part a__law_line_here) m_law_ends_b2 fuel (([] : List Int), a__law_at)).bind fun t30 => some (t30.1)) else (gd (fitsS a__law_part) <| gd (fitsS a__law_line_here) <| if (decide ((cutS a__law_line_here (some a__law_at) (some (a__law_at + ((a__law_part).length : Int)))) = a__law_part)) = true then (gd (fitsS a__law_part) <| gd (fits ([] : List Int)) <| some ((([] : List Int) ++ [(a__law_at + ((a__law_part).length : Int))]))) else (some (([] : List Int)))))).bind fun (t19 : (List Int)) => some t19))
def m_law_fits_b1 (s51 : (List Int)) (x82 : Int) (s84 : Unit) : Option (Option Int × Unit) :=
  (if (!decide (x82 ∈ s51)) = true then (some (some x82, ())) else some (none, ()))
def m_law_fits_b2 (a__law_line_here : Str) (x16 : Str) (x49 : Int) (s51 : (List Int)) : Option (List Int) :=
  ((m_law_ends (x16) (a__law_line_here) (x49)).bind fun t65 => gd (fitsE t65) <| (comp (m_law_fits_b1 s51) t65 ()).bind fun t78 => gd (fits2 s51 t78.1) <| some ((s51 ++ t78.1)))
def m_law_fits_b3 (a__law_line_here : Str) (x16 : Str) (s18 : (List Int)) : Option (List Int) :=
  ((loopS (m_law_fits_b2 a__law_line_here x16) s18 (([] : List Int))).bind fun t44 => some (t44))
def m_law_fits (a__law_parts : (List Str)) (a__law_line_here : Str) : Option Bool :=
  ((loopS (m_law_fits_b3 a__law_line_here) a__law_parts ([0])).bind fun t11 => (if (!decide (a__law_line_here = ("" : Str))) = true then (gd (fitsS a__law_line_here) <| some ((decide (((a__law_line_here).length : Int) ∈ t11)))) else some (false)).bind fun t147 => some t147)
def m_law_b1 (t38 : ((List Str) × (Int × Int))) (t48 : (List Str)) (x131 : Str) (s133 : Unit) : Option (Ctl Unit Bool) :=
  ((m_Form___contains__ (t48) (x131)).bind fun t144 => (m_law_fits (t38.1) (x131)).bind fun t152 => if (!decide (t144 = t152)) = true then (some (.rt false)) else (some (.nx ())))
def m_law_b2 (a__law_script : (List Int)) (x7 : Int) (s9 : Unit) : Option (Ctl Unit Bool) :=
  ((m_law_pool (a__law_script) (x7)).bind fun t27 => (m_law_rich (t27)).bind fun t38 => (m_law_form (t38.1)).bind fun t48 => (m_law_line (t38.2) (t38.1)).bind fun t56 => (m_law_rich (t56.2)).bind fun t66 => (m_law_line (t66.2) (t66.1)).bind fun t76 => (m_law_spoiled (t76.2) (t56.1)).bind fun t86 => (m_law_spoiled (t86.2) (t56.1)).bind fun t96 => (m_law_spoiled (t96.2) (t96.1)).bind fun t106 => (loopC (m_law_b1 t38 t48) [t56.1, t86.1, t106.1, t76.1, ("" : Str), t56.1] ()).bind fun t126 => aftC t126 fun s167 => (m_Form_parts (t48)).bind fun t173 => gd (shp (dT dS) t173) <| gd (shp (dT dS) t38.1) <| if (!decide (t173 = t38.1)) = true then (some (.rt false)) else (some (.nx ())))
def m_law (a__law_script : (List Int)) : Option Bool :=
  (gd (rgOk 0 (maxI 1 (minI 40 ((a__law_script).length : Int)))) <| (loopC (m_law_b2 a__law_script) (rng 0 (maxI 1 (minI 40 ((a__law_script).length : Int)))) ()).bind fun t2 => aft t2 fun s194 => some true)
def top (i : Nat) : Stmt := PySem.Challenge.pw_gluedlines_k04_lines_in_forms.main.body.getD i (.Pass ⟨0, 0, 0, 0⟩)
abbrev s_law_pool : Stmt := top 29
abbrev s_law_take : Stmt := top 30
abbrev s_law_all_signs : Stmt := top 31
abbrev s_law_text : Stmt := top 32
abbrev s_law_rich : Stmt := top 33
abbrev s_is_line : Stmt := top 4
abbrev s_is_allowed : Stmt := top 23
abbrev s_Form___init__ : Stmt := inClass (top 25) 3
abbrev s_law_form : Stmt := top 34
abbrev s_law_line : Stmt := top 38
abbrev s_law_spoiled : Stmt := top 39
abbrev s_Form_forms : Stmt := inClass (top 25) 6
abbrev s_Form_holds : Stmt := inClass (top 25) 7
abbrev s_cells_of : Stmt := top 10
abbrev s_closed : Stmt := top 12
abbrev s_started : Stmt := top 13
abbrev s_Form_parts : Stmt := inClass (top 25) 5
abbrev s_takes : Stmt := top 11
abbrev s_moved : Stmt := top 14
abbrev s_is_done : Stmt := top 15
abbrev s_Form___contains__ : Stmt := inClass (top 24) 2
abbrev s_law_takes : Stmt := top 35
abbrev s_law_ends : Stmt := top 36
abbrev s_law_fits : Stmt := top 37
abbrev s_law : Stmt := top 40
structure Tx (K : PySem.W.Frag) (mg : Str → Option Value) : Prop where
  F_law_pool : FnD' K ("_law_pool", none) "_law_pool" "_law_pool" s_law_pool
  g_law_pool : mg "_law_pool" = some (.ref (He.ga K "_law_pool"))
  F_law_take : FnD' K ("_law_take", none) "_law_take" "_law_take" s_law_take
  g_law_take : mg "_law_take" = some (.ref (He.ga K "_law_take"))
  F_law_all_signs : FnD' K ("_law_all_signs", none) "_law_all_signs" "_law_all_signs" s_law_all_signs
  g_law_all_signs : mg "_law_all_signs" = some (.ref (He.ga K "_law_all_signs"))
  F_law_text : FnD' K ("_law_text", none) "_law_text" "_law_text" s_law_text
  g_law_text : mg "_law_text" = some (.ref (He.ga K "_law_text"))
  F_law_rich : FnD' K ("_law_rich", none) "_law_rich" "_law_rich" s_law_rich
  g_law_rich : mg "_law_rich" = some (.ref (He.ga K "_law_rich"))
  F_is_line : FnD' K ("is_line", none) "is_line" "is_line" s_is_line
  g_is_line : mg "is_line" = some (.ref (He.ga K "is_line"))
  F_is_allowed : FnD' K ("is_allowed", none) "is_allowed" "is_allowed" s_is_allowed
  g_is_allowed : mg "is_allowed" = some (.ref (He.ga K "is_allowed"))
  F_Form___init__ : FnD' K ("Form", some "__init__") "__init__" "Form.__init__" s_Form___init__
  F_law_form : FnD' K ("_law_form", none) "_law_form" "_law_form" s_law_form
  g_law_form : mg "_law_form" = some (.ref (He.ga K "_law_form"))
  F_law_line : FnD' K ("_law_line", none) "_law_line" "_law_line" s_law_line
  g_law_line : mg "_law_line" = some (.ref (He.ga K "_law_line"))
  F_law_spoiled : FnD' K ("_law_spoiled", none) "_law_spoiled" "_law_spoiled" s_law_spoiled
  g_law_spoiled : mg "_law_spoiled" = some (.ref (He.ga K "_law_spoiled"))
  F_Form_forms : FnD' K ("Form", some "forms") "forms" "Form.forms" s_Form_forms
  F_Form_holds : FnD' K ("Form", some "holds") "holds" "Form.holds" s_Form_holds
  F_cells_of : FnD' K ("cells_of", none) "cells_of" "cells_of" s_cells_of
  g_cells_of : mg "cells_of" = some (.ref (He.ga K "cells_of"))
  F_closed : FnD' K ("closed", none) "closed" "closed" s_closed
  g_closed : mg "closed" = some (.ref (He.ga K "closed"))
  F_started : FnD' K ("started", none) "started" "started" s_started
  g_started : mg "started" = some (.ref (He.ga K "started"))
  F_Form_parts : FnD' K ("Form", some "parts") "parts" "Form.parts" s_Form_parts
  F_takes : FnD' K ("takes", none) "takes" "takes" s_takes
  g_takes : mg "takes" = some (.ref (He.ga K "takes"))
  F_moved : FnD' K ("moved", none) "moved" "moved" s_moved
  g_moved : mg "moved" = some (.ref (He.ga K "moved"))
  F_is_done : FnD' K ("is_done", none) "is_done" "is_done" s_is_done
  g_is_done : mg "is_done" = some (.ref (He.ga K "is_done"))
  F_Form___contains__ : FnD' K ("Form", some "__contains__") "__contains__" "Pattern.__contains__" s_Form___contains__
  F_law_takes : FnD' K ("_law_takes", none) "_law_takes" "_law_takes" s_law_takes
  g_law_takes : mg "_law_takes" = some (.ref (He.ga K "_law_takes"))
  F_law_ends : FnD' K ("_law_ends", none) "_law_ends" "_law_ends" s_law_ends
  g_law_ends : mg "_law_ends" = some (.ref (He.ga K "_law_ends"))
  F_law_fits : FnD' K ("_law_fits", none) "_law_fits" "_law_fits" s_law_fits
  g_law_fits : mg "_law_fits" = some (.ref (He.ga K "_law_fits"))
  F_law : FnD' K ("law", none) "law" "law" s_law
  g_law : mg "law" = some (.ref (He.ga K "law"))
  c_Form : Cls K (He.ga K "Form")
  gc_Form : mg "Form" = some (.ref (He.ga K "Form"))
  na_Form_pieces : NoAttr K (He.ga K "Form") "pieces"
  mk_Form : Mk K (He.ga K "Form") (He.fAd K ("Form", some "__init__"))
  me_Form_forms : Meth K (He.ga K "Form") "forms" (He.fAd K ("Form", some "forms"))
  me_Form_holds : Meth K (He.ga K "Form") "holds" (He.fAd K ("Form", some "holds"))
  me_Form_parts : Meth K (He.ga K "Form") "parts" (He.fAd K ("Form", some "parts"))
  me_Form___contains__ : Meth K (He.ga K "Form") "__contains__" (He.fAd K ("Form", some "__contains__"))
  k_ANY_CELL : ∃ t, mg "ANY_CELL" = some (.str "<any>" t)
  k_DIGITS_CELL : ∃ t, mg "DIGITS_CELL" = some (.str "<digits>" t)
  k_DIGIT_SIGNS : ∃ t, mg "DIGIT_SIGNS" = some (.str "0123456789" t)
  g_FREE_CELLS : mg "FREE_CELLS" = some (.ref (He.ga K "FREE_CELLS"))
  q_FREE_CELLS : ∀ F : Hp, (qT qS).r K F (.ref (He.ga K "FREE_CELLS")) (["<digits>", "<word>", "<any>"] : List Str)
  k_LETTER_SIGNS : ∃ t, mg "LETTER_SIGNS" = some (.str "ABCDEFGHIJKLMNOPQRSTUVWXYZabcdefghijklmnopqrstuvwxyz" t)
  k_MOST_PARTS : ∃ t, mg "MOST_PARTS" = some (.int 4 t)
  k_MOST_SIGNS : ∃ t, mg "MOST_SIGNS" = some (.int 4 t)
  k_SIGNS : ∃ t, mg "SIGNS" = some (.str " #-.0123456789:>ABCDEFGHIJKLMNOPQRSTUVWXYZabcdefghijklmnopqrstuvwxyz" t)
  k_WORD_CELL : ∃ t, mg "WORD_CELL" = some (.str "<word>" t)
  n_int : mg "int" = none
  n_isinstance : mg "isinstance" = none
  n_len : mg "len" = none
  n_list : mg "list" = none
  n_max : mg "max" = none
  n_min : mg "min" = none
  n_range : mg "range" = none
  n_str : mg "str" = none
  n_tuple : mg "tuple" = none
section
variable {P : Program} {w : World} {K : PySem.W.Frag} {mg : Str → Option Value} {base : Heap}
theorem fld_Form_pieces {P0' : Addr → Prop} {F0 H0 F H : Hp} {v : V} {a : (List Str)} {Q : VK} (T : Tx K mg) (S : Sx P0' F0 H0 F H) (r : qForm.r K F v a) (k : ∀ u, (qT qS).r K F u a → Q u H) : fdK K "pieces" Q v H := by
  obtain ⟨p, dx, u0, rfl, h2, k0⟩ := r
  exact fd_at (S.sub _ _ h2) T.c_Form T.na_Form_pieces (by rfl) (k _ k0)
theorem mt_Form_forms {P0' : Addr → Prop} {F0 H0 F H : Hp} {v : V} {a : (List Str)} {G : V → Hp → Prop} (S : Sx P0' F0 H0 F H) (r : qForm.r K F v a) (k : G v H) : mtK (He.ga K "Form") "forms" G v H := by
  obtain ⟨p, dx, u0, rfl, h2, k0⟩ := r
  exact mt_at (S.sub _ _ h2) (by rfl) k
theorem mt_Form_holds {P0' : Addr → Prop} {F0 H0 F H : Hp} {v : V} {a : (List Str)} {G : V → Hp → Prop} (S : Sx P0' F0 H0 F H) (r : qForm.r K F v a) (k : G v H) : mtK (He.ga K "Form") "holds" G v H := by
  obtain ⟨p, dx, u0, rfl, h2, k0⟩ := r
  exact mt_at (S.sub _ _ h2) (by rfl) k
theorem mt_Form_parts {P0' : Addr → Prop} {F0 H0 F H : Hp} {v : V} {a : (List Str)} {G : V → Hp → Prop} (S : Sx P0' F0 H0 F H) (r : qForm.r K F v a) (k : G v H) : mtK (He.ga K "Form") "parts" G v H := by
  obtain ⟨p, dx, u0, rfl, h2, k0⟩ := r
  exact mt_at (S.sub _ _ h2) (by rfl) k
theorem in_Form___contains__ {P0' : Addr → Prop} {F0 H0 F H : Hp} {v : V} {a : (List Str)} {Q : VK} {E : XK} {sp : L2.Sp} {x : V} (S : Sx P0' F0 H0 F H) (r : qForm.r K F v a) (k : sp [v, x] H (inK Q) E) : rInO (He.ga K "Form") sp E x v H Q := by
  obtain ⟨p, dx, u0, rfl, h2, k0⟩ := r
  exact in_at (S.sub _ _ h2) k
def sp_law_pool (K : PySem.W.Frag) : Sp := fun vs H Q _ => ∃ (F : Hp) (v__law_script : V) (a__law_script : List Int) (a__law_k : Int) (r : (Int × Int)), vs = [v__law_script, (V.int (a__law_k))] ∧ Same F H ∧ qC.r K F v__law_script a__law_script ∧ m_law_pool a__law_script a__law_k = some r ∧ ∀ p F' H', H p = none → Sx P0 F H F' H' → Ow (fun a => a = p) H F' H' p (.lst [.int r.1, .int r.2]) → Q (.ref p) H'
theorem sc_law_pool : FnScope ["_law_script", "_law_k", "_law_cell", "_law_seed"] ["_law_script", "_law_k"] (defScope s_law_pool) := ⟨rfl, rfl, rfl, by decide +kernel, rfl, by decide +kernel, by decide +kernel⟩
theorem bn_law_pool (T : Tx K mg) : Binds K (fdOf K ("_law_pool", none)) ["_law_script", "_law_k"] [] := FunD.bindsN T.F_law_pool fun _ _ _ _ _ _ us hl => match us, hl with | [_, _], _ => rfl
theorem ok_law_pool (T : Tx K mg) : FnOk P w K mg base CX0 1 (He.ga K "_law_pool") (fdOf K ("_law_pool", none)) ["_law_script", "_law_k"] (sp_law_pool K) := by
  refine FunD.ok T.F_law_pool sc_law_pool (fun vs H0 Q E h => ?_) (fun cdv A outer s H0 vs Q E hr h => ?_)
  · obtain ⟨_, _, _, _, _, rfl, _⟩ := h
    rfl
  · obtain ⟨F0, v__law_script, a__law_script, a__law_k, r, rfl, hE, f__law_script, hm, hQ⟩ := h
    refine ⟨_, PSs.nox ((pss_cons (ps_set (i := 2) sc_law_pool.nd rfl (by first | exact Or.inl rfl | exact Or.inr rfl) pe_int) (C8.pss_cut (ps_if (pt_cmpR (r := rNeD K) (op_neD hr.units) (pv 0) (pe_lst pa_nil) (nomark _)) (pss_one (ps_set (i := 2) sc_law_pool.nd rfl (by first | exact Or.inl rfl | exact Or.inr rfl) (pe_ix (r := rIxL K) ix_list (pv 0) (pe_op op_mod (pe_callTy cr_int (by rfl) T.n_int (by decide +kernel) (pa_cons (pv 1) pa_nil)) (pe_callB (r := rLenQ K) cr_lenQ (by rfl) T.n_len (by decide +kernel) (pa_cons (pv 0) pa_nil))) (fun _ _ => rfl)))) pss_nil) (pss_cons (ps_set (i := 3) sc_law_pool.nd rfl (by first | exact Or.inl rfl | exact Or.inr rfl) (pe_op op_mod (pe_op op_mul (pe_callTy cr_int (by rfl) T.n_int (by decide +kernel) (pa_cons (pe_op op_add (pe_op op_add (pe_op op_mod (pe_callTy cr_int (by rfl) T.n_int (by decide +kernel) (pa_cons (pv 2) pa_nil)) pe_int) (pe_op op_mul pe_int (pv 1))) pe_int) pa_nil)) pe_int) pe_int)) (pss_one (ps_ret (pe_lst (pa_cons (pe_op op_mul (pv 2) (pe_callTy cr_int (by rfl) T.n_int (by decide +kernel) (pa_cons (pe_cmpR op_ge (pv 2) (pe_op op_pow pe_int pe_int) (nomark _)) pa_nil))) (pa_cons (pv 3) pa_nil))))))))), ?_⟩
    have S : Sx P0 F0 H0 F0 H0 := Sx.refl0 hE
    unfold m_law_pool at hm
    obtain ⟨t1, e2, hm⟩ := bd_some hm
    refine rd_seq ?_
    refine rd_asg ?_
    refine rd_c ?_
    refine rd_gn ?_
    refine rd_cut (fun σ' H' => ∃ (F : Hp) (o3 : Option V), σ' = [some v__law_script, some (V.int (a__law_k)), some (V.int (t1)), o3] ∧ Sx P0 F0 H0 F H') ?_ ?_
    · skip
      have S3 := Sx.refl0 S.sub
      refine rd_ifS ?_
      refine rd_test ?_
      refine rd_op ?_
      refine rd_v rfl ?_
      refine rd_lst ?_
      refine rd_nil ?_
      refine rd_lK rfl ?_
      refine alL (K := K) (A := qI) (xs := ([] : List Int)) S3 .nil (fun v4 F5 H6 c7 f8 => ?_)
      have S9 := S3.call0 c7
      have f__law_script := qC.mono c7.le f__law_script
      obtain ⟨g10, e2⟩ := gd_some e2
      obtain ⟨g11, e2⟩ := gd_some e2
      refine rd_neD (D := (dL dI)) (S9.cd f__law_script) (S9.d (dL dI) f8) g10 g11 ?_
      refine rd_b ?_
      refine if_b e2 (fun b12 e2 => ?_) (fun b12 e2 => ?_)
      · skip
        obtain ⟨g13, e2⟩ := gd_some e2
        obtain ⟨t14, e15, e2⟩ := bd_some e2
        refine rd_asg ?_
        refine rd_op ?_
        refine rd_v rfl ?_
        refine rd_op ?_
        refine rd_cb ?_
        refine rd_cons ?_
        refine rd_v rfl ?_
        refine rd_nil ?_
        refine rd_intI ?_
        refine rd_cb ?_
        refine rd_cons ?_
        refine rd_v rfl ?_
        refine rd_nil ?_
        refine rd_lenQ (S9.c f__law_script).q ?_
        refine rd_I (modOk_of g13) ?_
        refine rd_ixL (S9.c f__law_script) e15 (fun u16 f17 => ?_)
        cases (show u16 = (V.int (t14)) from f17)
        cases e2
        refine rd_gn ?_
        exact ⟨F5, _, rfl, S9⟩
      · skip
        cases e2
        refine rd_next ?_
        exact ⟨F5, _, rfl, S9⟩
    · skip
      rintro σ19 H18 ⟨F20, o22, rfl, S21⟩
      have S23 := S.call0 S21
      have f__law_script := qC.mono S21.le f__law_script
      obtain ⟨g24, hm⟩ := gd_some hm
      obtain ⟨g25, hm⟩ := gd_some hm
      obtain ⟨g26, hm⟩ := gd_some hm
      obtain ⟨g27, hm⟩ := gd_some hm
      obtain ⟨g28, hm⟩ := gd_some hm
      obtain ⟨g29, hm⟩ := gd_some hm
      refine rd_seq ?_
      refine rd_asg ?_
      refine rd_op ?_
      refine rd_op ?_
      refine rd_cb ?_
      refine rd_cons ?_
      refine rd_op ?_
      refine rd_op ?_
      refine rd_op ?_
      refine rd_cb ?_
      refine rd_cons ?_
      refine rd_v rfl ?_
      refine rd_nil ?_
      refine rd_intI ?_
      refine rd_c ?_
      refine rd_I (modOk_of g24) ?_
      refine rd_op ?_
      refine rd_c ?_
      refine rd_v rfl ?_
      refine rd_I (mulOk_of g25) ?_
      refine rd_I0 ?_
      refine rd_c ?_
      refine rd_I0 ?_
      refine rd_nil ?_
      refine rd_intI ?_
      refine rd_c ?_
      refine rd_I (mulOk_of g26) ?_
      refine rd_c ?_
      refine rd_I (modOk_of g27) ?_
      refine rd_gn ?_
      refine rd_ret ?_
      refine rd_lst ?_
      refine rd_cons ?_
      refine rd_op ?_
      refine rd_v rfl ?_
      refine rd_cb ?_
      refine rd_cons ?_
      refine rd_op ?_
      refine rd_v rfl ?_
      refine rd_op ?_
      refine rd_c ?_
      refine rd_c ?_
      refine rd_I (powOk_of g28) ?_
      refine rd_I0 ?_
      refine rd_nil ?_
      refine rd_intB ?_
      refine rd_I (mulOk_of g29) ?_
      refine rd_cons ?_
      refine rd_v rfl ?_
      refine rd_nil ?_
      refine rd_lK rfl ?_
      refine al S23 (fun p30 H31 np32 c33 w34 => ?_)
      have z35 := S23.free0 np32
      have S36 := S23.call0 c33
      have f__law_script := qC.mono c33.le f__law_script
      cases hm
      exact hQ _ _ _ z35 S36 ⟨w34.fr, w34.at_, .inr rfl⟩
def sp_law_take (K : PySem.W.Frag) : Sp := fun vs H Q _ => ∃ (F : Hp) (p__law_pool_here : Addr) (a__law_pool_here : Int × Int) (a__law_many : Int) (r : (Int × (Int × Int))), vs = [.ref p__law_pool_here, (V.int (a__law_many))] ∧ Same F H ∧ Ow (fun a => a = p__law_pool_here) H F H p__law_pool_here (.lst [.int a__law_pool_here.1, .int a__law_pool_here.2]) ∧ m_law_take a__law_pool_here a__law_many = some r ∧ ∀ v F' H', Sx (fun a => a = p__law_pool_here) F H F' H' → Ow (fun a => a = p__law_pool_here) H F' H' p__law_pool_here (.lst [.int r.2.1, .int r.2.2]) → qI.r K F' v r.1 → Q v H'
theorem sc_law_take : FnScope ["_law_pool_here", "_law_many", "_law_digit"] ["_law_pool_here", "_law_many"] (defScope s_law_take) := ⟨rfl, rfl, rfl, by decide +kernel, rfl, by decide +kernel, by decide +kernel⟩
theorem bn_law_take (T : Tx K mg) : Binds K (fdOf K ("_law_take", none)) ["_law_pool_here", "_law_many"] [] := FunD.bindsN T.F_law_take fun _ _ _ _ _ _ us hl => match us, hl with | [_, _], _ => rfl
theorem ok_law_take (T : Tx K mg) : FnOk P w K mg base CX0 1 (He.ga K "_law_take") (fdOf K ("_law_take", none)) ["_law_pool_here", "_law_many"] (sp_law_take K) := by
  refine FunD.ok T.F_law_take sc_law_take (fun vs H0 Q E h => ?_) (fun cdv A outer s H0 vs Q E hr h => ?_)
  · obtain ⟨_, _, _, _, _, rfl, _⟩ := h
    rfl
  · obtain ⟨F0, p__law_pool_here, a__law_pool_here, a__law_many, r, rfl, hE, w__law_pool_here, hm, hQ⟩ := h
    refine ⟨_, PSs.nox ((pss_cons (ps_if (pt_cmpR op_gt (pe_ix (r := rIxL K) ix_list (pv 0) pe_int (fun _ _ => rfl)) pe_int (nomark _)) (pss_cons (ps_set (i := 2) sc_law_take.nd rfl (by first | exact Or.inl rfl | exact Or.inr rfl) (pe_op op_mod (pe_callTy cr_int (by rfl) T.n_int (by decide +kernel) (pa_cons (pe_ix (r := rIxL K) ix_list (pv 0) pe_int (fun _ _ => rfl)) pa_nil)) (pv 1))) (pss_cons (ps_asg (pe_op op_fdiv (pe_ix (r := rIxL K) ix_list (pv 0) pe_int (fun _ _ => rfl)) (pv 1)) (pg_sub (pv 0) pe_int set_list)) (pss_one (ps_ret (pv 2))))) pss_nil) (pss_cons (ps_asg (pe_op op_mod (pe_callTy cr_int (by rfl) T.n_int (by decide +kernel) (pa_cons (pe_op op_add (pe_op op_mul (pe_ix (r := rIxL K) ix_list (pv 0) pe_int (fun _ _ => rfl)) pe_int) pe_int) pa_nil)) pe_int) (pg_sub (pv 0) pe_int set_list)) (pss_one (ps_ret (pe_op op_mod (pe_callTy cr_int (by rfl) T.n_int (by decide +kernel) (pa_cons (pe_op op_fdiv (pe_op op_mod (pe_callTy cr_int (by rfl) T.n_int (by decide +kernel) (pa_cons (pe_op op_mul (pe_ix (r := rIxL K) ix_list (pv 0) pe_int (fun _ _ => rfl)) (pe_ix (r := rIxL K) ix_list (pv 0) pe_int (fun _ _ => rfl))) pa_nil)) pe_int) pe_int) pa_nil)) (pv 1))))))), ?_⟩
    have S : Sx (fun a => a = p__law_pool_here) F0 H0 F0 H0 := Sx.refl hE (live1 w__law_pool_here)
    unfold m_law_take at hm
    refine rd_seq ?_
    refine rd_ifS ?_
    refine rd_test ?_
    refine rd_op ?_
    refine rd_op ?_
    refine rd_v rfl ?_
    refine rd_c ?_
    refine pool0 w__law_pool_here ?_
    refine rd_c ?_
    refine rd_I0 ?_
    refine rd_b ?_
    refine if_b hm (fun b1 hm => ?_) (fun b1 hm => ?_)
    · skip
      obtain ⟨g2, hm⟩ := gd_some hm
      obtain ⟨g3, hm⟩ := gd_some hm
      refine rd_seq ?_
      refine rd_asg ?_
      refine rd_op ?_
      refine rd_cb ?_
      refine rd_cons ?_
      refine rd_op ?_
      refine rd_v rfl ?_
      refine rd_c ?_
      refine pool0 w__law_pool_here ?_
      refine rd_nil ?_
      refine rd_intI ?_
      refine rd_v rfl ?_
      refine rd_I (modOk_of g2) ?_
      refine rd_gn ?_
      refine rd_seq ?_
      refine rd_asg ?_
      refine rd_op ?_
      refine rd_op ?_
      refine rd_v rfl ?_
      refine rd_c ?_
      refine pool0 w__law_pool_here ?_
      refine rd_v rfl ?_
      refine rd_I (divOk_of g3) ?_
      refine rd_gsub ?_
      refine rd_v rfl ?_
      refine rd_c ?_
      refine pset0 S w__law_pool_here (fun H4 c5 w6 => ?_)
      have S7 := S.call1 c5 w__law_pool_here
      cases hm
      refine rd_ret ?_
      refine rd_v rfl ?_
      exact hQ _ _ _ S7 w6 rfl
    · skip
      obtain ⟨g8, hm⟩ := gd_some hm
      obtain ⟨g9, hm⟩ := gd_some hm
      refine rd_next ?_
      refine rd_seq ?_
      refine rd_asg ?_
      refine rd_op ?_
      refine rd_cb ?_
      refine rd_cons ?_
      refine rd_op ?_
      refine rd_op ?_
      refine rd_op ?_
      refine rd_v rfl ?_
      refine rd_c ?_
      refine pool1 w__law_pool_here ?_
      refine rd_c ?_
      refine rd_I (mulOk_of g8) ?_
      refine rd_c ?_
      refine rd_I0 ?_
      refine rd_nil ?_
      refine rd_intI ?_
      refine rd_c ?_
      refine rd_I (modOk_of g9) ?_
      refine rd_gsub ?_
      refine rd_v rfl ?_
      refine rd_c ?_
      refine pset1 S w__law_pool_here (fun H10 c11 w12 => ?_)
      have S13 := S.call1 c11 w__law_pool_here
      obtain ⟨g14, hm⟩ := gd_some hm
      obtain ⟨g15, hm⟩ := gd_some hm
      obtain ⟨g16, hm⟩ := gd_some hm
      obtain ⟨g17, hm⟩ := gd_some hm
      cases hm
      refine rd_ret ?_
      refine rd_op ?_
      refine rd_cb ?_
      refine rd_cons ?_
      refine rd_op ?_
      refine rd_op ?_
      refine rd_cb ?_
      refine rd_cons ?_
      refine rd_op ?_
      refine rd_op ?_
      refine rd_v rfl ?_
      refine rd_c ?_
      refine pool1 w12 ?_
      refine rd_op ?_
      refine rd_v rfl ?_
      refine rd_c ?_
      refine pool1 w12 ?_
      refine rd_I (mulOk_of g14) ?_
      refine rd_nil ?_
      refine rd_intI ?_
      refine rd_c ?_
      refine rd_I (modOk_of g15) ?_
      refine rd_c ?_
      refine rd_I (divOk_of g16) ?_
      refine rd_nil ?_
      refine rd_intI ?_
      refine rd_v rfl ?_
      refine rd_I (modOk_of g17) ?_
      exact hQ _ _ _ S13 w12 rfl
def sp_law_all_signs (K : PySem.W.Frag) : Sp := fun vs H Q _ => ∃ (F : Hp)  (r : Str), vs = [] ∧ Same F H ∧ m_law_all_signs = some r ∧ ∀ v F' H', Sx P0 F H F' H' → qS.r K F' v r → Q v H'
theorem sc_law_all_signs : FnScope [] [] (defScope s_law_all_signs) := ⟨rfl, rfl, rfl, by decide +kernel, rfl, by decide +kernel, by decide +kernel⟩
theorem bn_law_all_signs (T : Tx K mg) : Binds K (fdOf K ("_law_all_signs", none)) [] [] := FunD.bindsN T.F_law_all_signs fun _ _ _ _ _ _ us hl => match us, hl with | [], _ => rfl
theorem ok_law_all_signs (T : Tx K mg) : FnOk P w K mg base CX0 1 (He.ga K "_law_all_signs") (fdOf K ("_law_all_signs", none)) [] (sp_law_all_signs K) := by
  refine FunD.ok T.F_law_all_signs sc_law_all_signs (fun vs H0 Q E h => ?_) (fun cdv A outer s H0 vs Q E hr h => ?_)
  · obtain ⟨_, _, rfl, _⟩ := h
    rfl
  · obtain ⟨F0, r, rfl, hE, hm, hQ⟩ := h
    refine ⟨_, PSs.nox ((pss_one (ps_ret pe_str))), ?_⟩
    have S : Sx P0 F0 H0 F0 H0 := Sx.refl0 hE
    unfold m_law_all_signs at hm
    cases hm
    refine rd_ret ?_
    refine rd_c ?_
    exact hQ _ _ _ S rfl
def sp_law_text (K : PySem.W.Frag) : Sp := fun vs H Q _ => ∃ (F : Hp) (p__law_pool_here : Addr) (a__law_pool_here : Int × Int) (r : (Str × (Int × Int))), vs = [.ref p__law_pool_here] ∧ Same F H ∧ Ow (fun a => a = p__law_pool_here) H F H p__law_pool_here (.lst [.int a__law_pool_here.1, .int a__law_pool_here.2]) ∧ m_law_text a__law_pool_here = some r ∧ ∀ v F' H', Sx (fun a => a = p__law_pool_here) F H F' H' → Ow (fun a => a = p__law_pool_here) H F' H' p__law_pool_here (.lst [.int r.2.1, .int r.2.2]) → qS.r K F' v r.1 → Q v H'
theorem sc_law_text : FnScope ["_law_pool_here", "_law_text_here", "_law_style", "_law_k"] ["_law_pool_here"] (defScope s_law_text) := ⟨rfl, rfl, rfl, by decide +kernel, rfl, by decide +kernel, by decide +kernel⟩
theorem bn_law_text (T : Tx K mg) : Binds K (fdOf K ("_law_text", none)) ["_law_pool_here"] [] := FunD.bindsN T.F_law_text fun _ _ _ _ _ _ us hl => match us, hl with | [_], _ => rfl
theorem ok_law_text (T : Tx K mg) : FnOk P w K mg base CX0 2 (He.ga K "_law_text") (fdOf K ("_law_text", none)) ["_law_pool_here"] (sp_law_text K) := by
  refine FunD.ok T.F_law_text sc_law_text (fun vs H0 Q E h => ?_) (fun cdv A outer s H0 vs Q E hr h => ?_)
  · obtain ⟨_, _, _, _, rfl, _⟩ := h
    rfl
  · obtain ⟨F0, p__law_pool_here, a__law_pool_here, r, rfl, hE, w__law_pool_here, hm, hQ⟩ := h
    refine ⟨_, PSs.nox ((pss_cons (ps_set (i := 1) sc_law_text.nd rfl (by first | exact Or.inl rfl | exact Or.inr rfl) pe_str) (pss_cons (ps_set (i := 2) sc_law_text.nd rfl (by first | exact Or.inl rfl | exact Or.inr rfl) (pe_call (ok_law_take T) (hr.mono (by decide)) (by rfl) T.g_law_take T.F_law_take.kp (bn_law_take T) .nil pass0 (pa_cons (pv 0) (pa_cons pe_int pa_nil)))) (pss_cons (ps_for PassesOwn.never rfl (pi_range1 (by rfl) T.n_range (pa_cons (pe_op op_add pe_int (pe_call (ok_law_take T) (hr.mono (by decide)) (by rfl) T.g_law_take T.F_law_take.kp (bn_law_take T) .nil pass0 (pa_cons (pv 0) (pa_cons pe_int pa_nil)))) pa_nil)) (pg_name (i := 3) sc_law_text.nd rfl (by first | exact Or.inl rfl | exact Or.inr rfl)) (pss_one (ps_if (pt_cmpR op_eqI (pv 2) pe_int (nomark _)) (pss_one (ps_set (i := 1) sc_law_text.nd rfl (by first | exact Or.inl rfl | exact Or.inr rfl) (pe_op op_catS (pv 1) (pe_ix ix_str (pe_call0 (ok_law_all_signs T) (hr.mono (by decide)) (by rfl) T.g_law_all_signs T.F_law_all_signs.kp (bn_law_all_signs T) .nil pass0) (pe_call (ok_law_take T) (hr.mono (by decide)) (by rfl) T.g_law_take T.F_law_take.kp (bn_law_take T) .nil pass0 (pa_cons (pv 0) (pa_cons pe_int pa_nil))) (fun _ _ => rfl))))) (pss_one (ps_set (i := 1) sc_law_text.nd rfl (by first | exact Or.inl rfl | exact Or.inr rfl) (pe_op op_catS (pv 1) (pe_ix ix_str pe_str (pe_call (ok_law_take T) (hr.mono (by decide)) (by rfl) T.g_law_take T.F_law_take.kp (bn_law_take T) .nil pass0 (pa_cons (pv 0) (pa_cons pe_int pa_nil))) (fun _ _ => rfl)))))))) (pss_one (ps_ret (pv 1))))))), ?_⟩
    have S : Sx (fun a => a = p__law_pool_here) F0 H0 F0 H0 := Sx.refl hE (live1 w__law_pool_here)
    unfold m_law_text at hm
    obtain ⟨t1, e2, hm⟩ := bd_some hm
    refine rd_seq ?_
    refine rd_asg ?_
    refine rd_c ?_
    refine rd_gn ?_
    refine rd_seq ?_
    refine rd_asg ?_
    refine rd_call ?_
    refine rd_cons ?_
    refine rd_v rfl ?_
    refine rd_cons ?_
    refine rd_c ?_
    refine rd_nil ?_
    refine ⟨F0, _, _, _, t1, rfl, S.sub, w__law_pool_here.arg, e2, fun v6 F3 H4 c5 w8 f7 => ?_⟩
    have S9 := S.call1 c5 w__law_pool_here
    have w10 := w__law_pool_here.back w8
    cases (show v6 = (V.int (t1.1)) from f7)
    obtain ⟨t11, e12, hm⟩ := bd_some hm
    refine rd_gn ?_
    refine rd_seq ?_
    refine rd_for ?_
    refine rd_iR1 ?_
    refine rd_cons ?_
    refine rd_op ?_
    refine rd_c ?_
    refine rd_call ?_
    refine rd_cons ?_
    refine rd_v rfl ?_
    refine rd_cons ?_
    refine rd_c ?_
    refine rd_nil ?_
    refine ⟨F3, _, _, _, t11, rfl, S9.sub, w10.arg, e12, fun v16 F13 H14 c15 w18 f17 => ?_⟩
    have S19 := S9.call1 c15 w10
    have w20 := w10.back w18
    cases (show v16 = (V.int (t11.1)) from f17)
    obtain ⟨g21, hm⟩ := gd_some hm
    refine rd_I0 ?_
    refine rd_nil ?_
    refine rd_r1 g21 ?_
    obtain ⟨t22, e23, hm⟩ := bd_some hm
    refine rd_forS feedsRg (typedR (K := K) (F := F13)) e23 (fun (s24 : ((Int × Int) × Str)) σ H => ∃ (F : Hp) (o3 : Option V), σ = [some (V.ref p__law_pool_here), some (V.str (s24.2)), some (V.int (t1.1)), o3] ∧ Sx (fun a => a = p__law_pool_here) F13 H14 F H ∧ Ow (fun a => a = p__law_pool_here) H14 F H p__law_pool_here (.lst [V.int s24.1.1, V.int s24.1.2])) ?_ ?_ ?_ ?_
    · intro _ _ _ _; trivial
    · skip
      have S26 : Sx (fun a => a = p__law_pool_here) _ _ _ _ := Sx.refl S19.sub (fun a z => by rw [z, w20.at_]; exact (fun h => nomatch h))
      have w27 : Ow (fun a => a = p__law_pool_here) H14 _ _ _ _ := ⟨w20.fr, w20.at_, .inr (rfl)⟩
      exact ⟨F13, _, rfl, S26, w27⟩
    · skip
      rintro x28 v29 s30 c34 σ31 H32 f33 ⟨F35, o37, rfl, S36, w38⟩ hm41
      unfold m_law_text_b1 at hm41
      cases (show v29 = (V.int (x28)) from f33)
      refine rd_gn ?_
      refine rd_ifS ?_
      refine rd_test ?_
      refine rd_op ?_
      refine rd_v rfl ?_
      refine rd_c ?_
      refine rd_I0 ?_
      refine rd_b ?_
      refine if_b hm41 (fun b42 hm41 => ?_) (fun b42 hm41 => ?_)
      · skip
        obtain ⟨t43, e44, hm41⟩ := bd_some hm41
        refine rd_asg ?_
        refine rd_op ?_
        refine rd_v rfl ?_
        refine rd_op ?_
        refine rd_call ?_
        refine rd_nil ?_
        refine ⟨F35, t43, rfl, S36.sub, e44, fun v48 F45 H46 c47 f49 => ?_⟩
        have S50 := S36.call0 c47
        have w38 := w38.call0 c47
        cases (show v48 = (V.str (t43)) from f49)
        obtain ⟨t51, e52, hm41⟩ := bd_some hm41
        refine rd_call ?_
        refine rd_cons ?_
        refine rd_v rfl ?_
        refine rd_cons ?_
        refine rd_c ?_
        refine rd_nil ?_
        refine ⟨F45, _, _, _, t51, rfl, S50.sub, w38.arg, e52, fun v56 F53 H54 c55 w58 f57 => ?_⟩
        have S59 := S50.call1 c55 w38
        have w60 := w38.back w58
        cases (show v56 = (V.int (t51.1)) from f57)
        obtain ⟨t61, e62, hm41⟩ := bd_some hm41
        obtain ⟨g63, hm41⟩ := gd_some hm41
        cases hm41
        refine rd_ixS e62 ?_
        refine rd_catS g63 ?_
        refine rd_gn ?_
        exact ⟨F53, _, rfl, S59, w60⟩
      · skip
        obtain ⟨t64, e65, hm41⟩ := bd_some hm41
        refine rd_asg ?_
        refine rd_op ?_
        refine rd_v rfl ?_
        refine rd_op ?_
        refine rd_c ?_
        refine rd_call ?_
        refine rd_cons ?_
        refine rd_v rfl ?_
        refine rd_cons ?_
        refine rd_c ?_
        refine rd_nil ?_
        refine ⟨F35, _, _, _, t64, rfl, S36.sub, w38.arg, e65, fun v69 F66 H67 c68 w71 f70 => ?_⟩
        have S72 := S36.call1 c68 w38
        have w73 := w38.back w71
        cases (show v69 = (V.int (t64.1)) from f70)
        obtain ⟨t74, e75, hm41⟩ := bd_some hm41
        obtain ⟨g76, hm41⟩ := gd_some hm41
        cases hm41
        refine rd_ixS e75 ?_
        refine rd_catS g76 ?_
        refine rd_gn ?_
        exact ⟨F66, _, rfl, S72, w73⟩
    · skip
      rintro σ77 H78 ⟨F79, o81, rfl, S80, w82⟩
      have S83 := S19.call1 S80 w20
      have w84 : Ow (fun a => a = p__law_pool_here) H0 _ _ _ _ := ⟨w82.fr, w82.at_, w20.mine⟩
      cases hm
      refine rd_ret ?_
      refine rd_v rfl ?_
      exact hQ _ _ _ S83 w84 rfl
def sp_law_rich (K : PySem.W.Frag) : Sp := fun vs H Q _ => ∃ (F : Hp) (p__law_pool_here : Addr) (a__law_pool_here : Int × Int) (r : ((List Str) × (Int × Int))), vs = [.ref p__law_pool_here] ∧ Same F H ∧ Ow (fun a => a = p__law_pool_here) H F H p__law_pool_here (.lst [.int a__law_pool_here.1, .int a__law_pool_here.2]) ∧ m_law_rich a__law_pool_here = some r ∧ ∀ v F' H', Sx (fun a => a = p__law_pool_here) F H F' H' → Ow (fun a => a = p__law_pool_here) H F' H' p__law_pool_here (.lst [.int r.2.1, .int r.2.2]) → (qL qS).r K F' v r.1 → Q v H'
theorem sc_law_rich : FnScope ["_law_pool_here", "_law_parts", "_law_k", "_law_kind", "_law_fixed"] ["_law_pool_here"] (defScope s_law_rich) := ⟨rfl, rfl, rfl, by decide +kernel, rfl, by decide +kernel, by decide +kernel⟩
theorem bn_law_rich (T : Tx K mg) : Binds K (fdOf K ("_law_rich", none)) ["_law_pool_here"] [] := FunD.bindsN T.F_law_rich fun _ _ _ _ _ _ us hl => match us, hl with | [_], _ => rfl
theorem ok_law_rich (T : Tx K mg) : FnOk P w K mg base CX0 3 (He.ga K "_law_rich") (fdOf K ("_law_rich", none)) ["_law_pool_here"] (sp_law_rich K) := by
  refine FunD.ok T.F_law_rich sc_law_rich (fun vs H0 Q E h => ?_) (fun cdv A outer s H0 vs Q E hr h => ?_)
  · obtain ⟨_, _, _, _, rfl, _⟩ := h
    rfl
  · obtain ⟨F0, p__law_pool_here, a__law_pool_here, r, rfl, hE, w__law_pool_here, hm, hQ⟩ := h
    refine ⟨_, PSs.nox ((pss_cons (ps_set (i := 1) sc_law_rich.nd rfl (by first | exact Or.inl rfl | exact Or.inr rfl) (pe_lst pa_nil)) (pss_cons (ps_for PassesOwn.never rfl (pi_range1 (by rfl) T.n_range (pa_cons (pe_op op_add pe_int (pe_call (ok_law_take T) (hr.mono (by decide)) (by rfl) T.g_law_take T.F_law_take.kp (bn_law_take T) .nil pass0 (pa_cons (pv 0) (pa_cons pe_int pa_nil)))) pa_nil)) (pg_name (i := 2) sc_law_rich.nd rfl (by first | exact Or.inl rfl | exact Or.inr rfl)) (pss_cons (ps_set (i := 3) sc_law_rich.nd rfl (by first | exact Or.inl rfl | exact Or.inr rfl) (pe_call (ok_law_take T) (hr.mono (by decide)) (by rfl) T.g_law_take T.F_law_take.kp (bn_law_take T) .nil pass0 (pa_cons (pv 0) (pa_cons pe_int pa_nil)))) (pss_cons (ps_set (i := 4) sc_law_rich.nd rfl (by first | exact Or.inl rfl | exact Or.inr rfl) (pe_and (pe_cmpR (r := rNeD K) (op_neD hr.units) (pv 1) (pe_lst pa_nil) (nomark _)) (pe_one (pe_cmpR (r := rIn K true) op_notIn_seq (pe_ix (r := rIxL K) ix_list (pv 1) (pe_un un_neg pe_int) (fun _ _ => rfl)) (pe_tup (pa_cons pe_str (pa_cons pe_str (pa_cons pe_str pa_nil)))) rfl)))) (pss_one (ps_if (PW.pt (pw_and (pt_cmpR op_eqI (pv 3) pe_int (nomark _)) (pw_and1 (pt_cmpR (r := rIn K true) op_notIn_seq pe_str (pv 1) rfl)))) (pss_one (ps_expr (pe_bm PySem.F.plainAttrs_list PySem.F.slot_list_append PySem.F.type_list_append mt_append (pv 1) (pa_cons pe_str pa_nil)))) (pss_one (ps_if (pt_cmpR op_eqI (pv 3) pe_int (nomark _)) (pss_one (ps_expr (pe_bm PySem.F.plainAttrs_list PySem.F.slot_list_append PySem.F.type_list_append mt_append (pv 1) (pa_cons pe_str pa_nil)))) (pss_one (ps_if (PW.pt (pw_or (pt_cmpR op_eqI (pv 3) pe_int (nomark _)) (pw_or1 (pt_val (pv 4))))) (pss_one (ps_expr (pe_bm PySem.F.plainAttrs_list PySem.F.slot_list_append PySem.F.type_list_append mt_append (pv 1) (pa_cons pe_str pa_nil)))) (pss_one (ps_expr (pe_bm PySem.F.plainAttrs_list PySem.F.slot_list_append PySem.F.type_list_append mt_append (pv 1) (pa_cons (pe_call (ok_law_text T) (hr.mono (by decide)) (by rfl) T.g_law_text T.F_law_text.kp (bn_law_text T) .nil pass0 (pa_cons (pv 0) pa_nil)) pa_nil))))))))))))) (pss_one (ps_ret (pv 1)))))), ?_⟩
    have S : Sx (fun a => a = p__law_pool_here) F0 H0 F0 H0 := Sx.refl hE (live1 w__law_pool_here)
    unfold m_law_rich at hm
    refine rd_seq ?_
    refine rd_asg ?_
    refine rd_lst ?_
    refine rd_nil ?_
    refine rd_lK rfl ?_
    refine al S (fun p1 H2 np3 c4 w5 => ?_)
    have r6 : Row qS K F0 [] ([] : List Str) := .nil
    have ne7 : p__law_pool_here ≠ p1 := w__law_pool_here.ne np3
    have z8 := S.free0 np3
    have S9 := S.call0 c4
    have w__law_pool_here := w__law_pool_here.call0 c4
    obtain ⟨t10, e11, hm⟩ := bd_some hm
    refine rd_gn ?_
    refine rd_seq ?_
    refine rd_for ?_
    refine rd_iR1 ?_
    refine rd_cons ?_
    refine rd_op ?_
    refine rd_c ?_
    refine rd_call ?_
    refine rd_cons ?_
    refine rd_v rfl ?_
    refine rd_cons ?_
    refine rd_c ?_
    refine rd_nil ?_
    refine ⟨F0, _, _, _, t10, rfl, S9.sub, w__law_pool_here.arg, e11, fun v15 F12 H13 c14 w17 f16 => ?_⟩
    have S18 := S9.call1 c14 w__law_pool_here
    have r6 := Row.mono c14.le r6
    have w5 := w5.call c14 (by intro z; exact (Ne.symm ne7) z)
    have w19 := w__law_pool_here.back w17
    cases (show v15 = (V.int (t10.1)) from f16)
    obtain ⟨g20, hm⟩ := gd_some hm
    refine rd_I0 ?_
    refine rd_nil ?_
    refine rd_r1 g20 ?_
    obtain ⟨t21, e22, hm⟩ := bd_some hm
    refine rd_forS feedsRg (typedR (K := K) (F := F12)) e22 (fun (s23 : ((Int × Int) × (List Str))) σ H => ∃ (F : Hp) (o2 : Option V) (o3 : Option V) (o4 : Option V) (vs1 : List V), σ = [some (V.ref p__law_pool_here), some (V.ref p1), o2, o3, o4] ∧ Sx (fun a => a = p__law_pool_here ∨ a = p1) F12 H13 F H ∧ Ow (fun a => a = p__law_pool_here ∨ a = p1) H13 F H p__law_pool_here (.lst [V.int s23.1.1, V.int s23.1.2]) ∧ Ow (fun a => a = p__law_pool_here ∨ a = p1) H13 F H p1 (.lst vs1) ∧ Row qS K F vs1 s23.2) ?_ ?_ ?_ ?_
    · intro _ _ _ _; trivial
    · skip
      have S25 : Sx (fun a => a = p__law_pool_here ∨ a = p1) _ _ _ _ := Sx.refl S18.sub (by
          rintro a (rfl | rfl)
          · rw [w19.at_]; exact (fun h => nomatch h)
          · rw [w5.at_]; exact (fun h => nomatch h))
      have w26 : Ow (fun a => a = p__law_pool_here ∨ a = p1) H13 _ _ _ _ := ⟨w19.fr, w19.at_, .inr (Or.inl rfl)⟩
      have w27 : Ow (fun a => a = p__law_pool_here ∨ a = p1) H13 _ _ _ _ := ⟨w5.fr, w5.at_, .inr (Or.inr (rfl))⟩
      exact ⟨F12, _, _, _, _, rfl, S25, w26, w27, r6⟩
    · skip
      rintro x28 v29 s30 c34 σ31 H32 f33 ⟨F35, o37, o38, o39, v40, rfl, S36, w41, w42, r43⟩ hm46
      unfold m_law_rich_b1 at hm46
      cases (show v29 = (V.int (x28)) from f33)
      obtain ⟨t47, e48, hm46⟩ := bd_some hm46
      refine rd_gn ?_
      refine rd_seq ?_
      refine rd_asg ?_
      refine rd_call ?_
      refine rd_cons ?_
      refine rd_v rfl ?_
      refine rd_cons ?_
      refine rd_c ?_
      refine rd_nil ?_
      refine ⟨F35, _, _, _, t47, rfl, S36.sub, w41.arg, e48, fun v52 F49 H50 c51 w54 f53 => ?_⟩
      have S55 := S36.call1 c51 w41
      have r43 := Row.mono c51.le r43
      have w42 := w42.call c51 (by intro z; exact (Ne.symm ne7) z)
      have w56 := w41.back w54
      cases (show v52 = (V.int (t47.1)) from f53)
      refine rd_gn ?_
      refine rd_seq ?_
      refine rd_asg ?_
      refine rd_andV ?_
      refine rd_op ?_
      refine rd_v rfl ?_
      refine rd_lst ?_
      refine rd_nil ?_
      refine rd_lK rfl ?_
      refine alL (K := K) (A := qS) (xs := ([] : List Str)) S55 .nil (fun v57 F58 H59 c60 f61 => ?_)
      have S62 := S55.call0 c60
      have w56 := w56.call0 c60
      have r43 := Row.mono c60.le r43
      have w42 := w42.call0 c60
      obtain ⟨g63, hm46⟩ := gd_some hm46
      obtain ⟨g64, hm46⟩ := gd_some hm46
      obtain ⟨t75, e76, hm46⟩ := bd_some hm46
      refine rd_neD (D := (dL dS)) (w42.d S62 dS r43) (S62.d (dL dS) f61) g63 g64 ?_
      refine rd_b ?_
      refine andV_j (fun c H' => c = V.bl t75 ∧ ∃ F', Sx P0 F58 H59 F' H') ?_ ?_ ?_
      · intro b77 Q78 q79
        have e76 := if_t e76 b77
        have S80 := Sx.refl0 S62.sub
        obtain ⟨t81, e82, e76⟩ := bd_some e76
        refine rd_op ?_
        refine rd_op ?_
        refine rd_v rfl ?_
        refine rd_un ?_
        refine rd_c ?_
        refine rd_U ?_
        refine rd_ixL (w42.l r43).r e82 (fun u83 f84 => ?_)
        cases (show u83 = (V.str (t81)) from f84)
        refine rd_tup ?_
        refine rd_cons ?_
        refine rd_c ?_
        refine rd_cons ?_
        refine rd_c ?_
        refine rd_cons ?_
        refine rd_c ?_
        refine rd_nil ?_
        refine rd_uK rfl ?_
        refine alT (K := K) (A := qS) (xs := [("<any>" : Str), ("<digits>" : Str), ("<word>" : Str)]) S80 (.cons rfl (.cons rfl (.cons rfl .nil))) (fun v85 F86 H87 c88 f89 => ?_)
        have S90 := S80.call0 c88
        have w56 := w56.call0 c88
        have r43 := Row.mono c88.le r43
        have w42 := w42.call0 c88
        cases e76
        refine rd_niS (S90.t f89).q ?_
        exact q79 _ _ ⟨rfl, F86, S90⟩
      · intro b77
        have e76 := if_f e76 b77
        cases e76
        have S91 := Sx.refl0 S62.sub
        exact ⟨rfl, F58, S91⟩
      rintro b95 H93 ⟨rfl, F92, c94⟩
      have S96 := S62.call0 c94
      have w56 := w56.call0 c94
      have r43 := Row.mono c94.le r43
      have w42 := w42.call0 c94
      refine rd_gn ?_
      refine rd_ifS ?_
      refine rd_and ?_
      refine rd_test ?_
      refine rd_op ?_
      refine rd_v rfl ?_
      refine rd_c ?_
      refine rd_I0 ?_
      refine rd_b ?_
      refine and_p (by intro _ Q' q; refine rd_test ?_; refine rd_op ?_; refine rd_c ?_; refine rd_v rfl ?_; refine rd_niS (w42.l r43).r.q ?_; refine rd_b ?_; exact q) ?_
      refine if_b hm46 (fun b97 hm46 => ?_) (fun b97 hm46 => ?_)
      · skip
        obtain ⟨g98, hm46⟩ := gd_some hm46
        refine rd_drop ?_
        refine rd_bm ?_
        refine rd_v rfl ?_
        refine rd_ty w42.ty ?_
        refine rd_cons ?_
        refine rd_c ?_
        refine rd_nil ?_
        refine ap S96 w42 r43 g98 (fun H99 c100 w101 => ?_)
        have r102 := r43.snoc (show qS.r K F92 _ ("<any>" : Str) from rfl)
        have S103 := S96.call1 c100 w42
        have w56 := w56.call c100 (by intro z; exact ne7 z)
        have r102 := Row.mono c100.le r102
        cases hm46
        exact ⟨F92, _, _, _, _, rfl, S103, w56, w101, r102⟩
      · skip
        refine rd_ifS ?_
        refine rd_test ?_
        refine rd_op ?_
        refine rd_v rfl ?_
        refine rd_c ?_
        refine rd_I0 ?_
        refine rd_b ?_
        refine if_b hm46 (fun b104 hm46 => ?_) (fun b104 hm46 => ?_)
        · skip
          obtain ⟨g105, hm46⟩ := gd_some hm46
          refine rd_drop ?_
          refine rd_bm ?_
          refine rd_v rfl ?_
          refine rd_ty w42.ty ?_
          refine rd_cons ?_
          refine rd_c ?_
          refine rd_nil ?_
          refine ap S96 w42 r43 g105 (fun H106 c107 w108 => ?_)
          have r109 := r43.snoc (show qS.r K F92 _ ("<digits>" : Str) from rfl)
          have S110 := S96.call1 c107 w42
          have w56 := w56.call c107 (by intro z; exact ne7 z)
          have r109 := Row.mono c107.le r109
          cases hm46
          exact ⟨F92, _, _, _, _, rfl, S110, w56, w108, r109⟩
        · skip
          refine rd_ifS ?_
          refine rd_or ?_
          refine rd_test ?_
          refine rd_op ?_
          refine rd_v rfl ?_
          refine rd_c ?_
          refine rd_I0 ?_
          refine rd_b ?_
          refine or_p (by intro _ Q' q; refine rd_tB ?_; refine rd_v rfl ?_; refine rd_b ?_; exact q) ?_
          refine if_b hm46 (fun b111 hm46 => ?_) (fun b111 hm46 => ?_)
          · skip
            obtain ⟨g112, hm46⟩ := gd_some hm46
            refine rd_drop ?_
            refine rd_bm ?_
            refine rd_v rfl ?_
            refine rd_ty w42.ty ?_
            refine rd_cons ?_
            refine rd_c ?_
            refine rd_nil ?_
            refine ap S96 w42 r43 g112 (fun H113 c114 w115 => ?_)
            have r116 := r43.snoc (show qS.r K F92 _ ("<word>" : Str) from rfl)
            have S117 := S96.call1 c114 w42
            have w56 := w56.call c114 (by intro z; exact ne7 z)
            have r116 := Row.mono c114.le r116
            cases hm46
            exact ⟨F92, _, _, _, _, rfl, S117, w56, w115, r116⟩
          · skip
            obtain ⟨t118, e119, hm46⟩ := bd_some hm46
            refine rd_drop ?_
            refine rd_bm ?_
            refine rd_v rfl ?_
            refine rd_ty w42.ty ?_
            refine rd_cons ?_
            refine rd_call ?_
            refine rd_cons ?_
            refine rd_v rfl ?_
            refine rd_nil ?_
            refine ⟨F92, _, _, t118, rfl, S96.sub, w56.arg, e119, fun v123 F120 H121 c122 w125 f124 => ?_⟩
            have S126 := S96.call1 c122 w56
            have r43 := Row.mono c122.le r43
            have w42 := w42.call c122 (by intro z; exact (Ne.symm ne7) z)
            have w127 := w56.back w125
            cases (show v123 = (V.str (t118.1)) from f124)
            obtain ⟨g128, hm46⟩ := gd_some hm46
            refine rd_nil ?_
            refine ap S126 w42 r43 g128 (fun H129 c130 w131 => ?_)
            have r132 := r43.snoc (show qS.r K F120 _ t118.1 from rfl)
            have S133 := S126.call1 c130 w42
            have w127 := w127.call c130 (by intro z; exact ne7 z)
            have r132 := Row.mono c130.le r132
            cases hm46
            exact ⟨F120, _, _, _, _, rfl, S133, w127, w131, r132⟩
    · skip
      rintro σ134 H135 ⟨F136, o138, o139, o140, v141, rfl, S137, w142, w143, r144⟩
      have S145 := S18.call S137 (by
          rintro a (rfl | rfl)
          · exact w19.mine.symm
          · exact w5.mine.symm)
      have w146 : Ow (fun a => a = p__law_pool_here) H0 _ _ _ _ := ⟨w142.fr, w142.at_, w19.mine⟩
      have w147 : Ow (fun a => a = p__law_pool_here) H0 _ _ _ _ := ⟨w143.fr, w143.at_, w5.mine⟩
      obtain ⟨F148, S149, le150, f151, _, eq152⟩ := fz S145 w147 z8 r144
      have w146 := w146.fzO ne7 eq152
      cases hm
      refine rd_ret ?_
      refine rd_v rfl ?_
      exact hQ _ _ _ S149 w146 f151
def sp_is_line (K : PySem.W.Frag) : Sp := fun vs H Q _ => ∃ (F : Hp) (v_thing : V) (a_thing : Th) (r : Bool), vs = [v_thing] ∧ Same F H ∧ qTh.r K F v_thing a_thing ∧ m_is_line a_thing = some r ∧ ∀ v F' H', Sx P0 F H F' H' → qB.r K F' v r → Q v H'
theorem sc_is_line : FnScope ["thing", "sign"] ["thing"] (defScope s_is_line) := ⟨rfl, rfl, rfl, by decide +kernel, rfl, by decide +kernel, by decide +kernel⟩
theorem bn_is_line (T : Tx K mg) : Binds K (fdOf K ("is_line", none)) ["thing"] [] := FunD.bindsN T.F_is_line fun _ _ _ _ _ _ us hl => match us, hl with | [_], _ => rfl
theorem ok_is_line (T : Tx K mg) : FnOk P w K mg base CX0 1 (He.ga K "is_line") (fdOf K ("is_line", none)) ["thing"] (sp_is_line K) := by
  refine FunD.ok T.F_is_line sc_is_line (fun vs H0 Q E h => ?_) (fun cdv A outer s H0 vs Q E hr h => ?_)
  · obtain ⟨_, _, _, _, rfl, _⟩ := h
    rfl
  · obtain ⟨F0, v_thing, a_thing, r, rfl, hE, f_thing, hm, hQ⟩ := h
    refine ⟨_, PSs.nox ((pss_cons (ps_if (PW.pt (pw_or (pt_not (pt_val (pe_callB (r := rIsi K) call_isi (by rfl) T.n_isinstance (by decide +kernel) (pa_cons (pv 0) (pa_cons (pe_bltn (v := V.ty "str") (by rfl) T.n_str (by decide +kernel) rfl) pa_nil))))) (pw_or1 (pt_cmpR op_eqS (pv 0) pe_str (nomark _))))) (pss_one (ps_ret pe_bl)) pss_nil) (pss_cons (ps_for PassesOwn.never rfl (pi_str (pv 0)) (pg_name (i := 1) sc_is_line.nd rfl (by first | exact Or.inl rfl | exact Or.inr rfl)) (pss_one (ps_if (pt_cmpR op_niS (pv 1) (pe_glob (v := V.str " #-.0123456789:>ABCDEFGHIJKLMNOPQRSTUVWXYZabcdefghijklmnopqrstuvwxyz") (by rfl) (T.k_SIGNS.choose_spec) ⟨_, rfl⟩) rfl) (pss_one (ps_ret pe_bl)) pss_nil))) (pss_one (ps_ret pe_bl))))), ?_⟩
    have S : Sx P0 F0 H0 F0 H0 := Sx.refl0 hE
    unfold m_is_line at hm
    obtain ⟨t4, e5, hm⟩ := bd_some hm
    refine rd_seq ?_
    refine rd_ifS ?_
    refine rd_or ?_
    refine rd_not ?_
    refine rd_tB ?_
    refine rd_cb ?_
    refine rd_cons ?_
    refine rd_v rfl ?_
    refine rd_cons ?_
    refine rd_c ?_
    refine rd_nil ?_
    refine rd_isiTh (n := "str") (tx_th S f_thing) (by decide +kernel) ?_
    refine rd_b ?_
    refine or_j (fun c H' => c = t4 ∧ ∃ F', Sx P0 F0 H0 F' H') ?_ ?_ ?_
    · intro b6 Q7 q8
      have e5 := if_f e5 b6
      have S9 := Sx.refl0 S.sub
      obtain ⟨t10, e11, e5⟩ := bd_some e5
      have e12 := thS_fact f_thing e11
      cases e12
      cases e5
      refine rd_test ?_
      refine rd_op ?_
      refine rd_v rfl ?_
      refine rd_c ?_
      refine rd_S0 ?_
      refine rd_b ?_
      exact q8 _ _ ⟨rfl, F0, S9⟩
    · intro b6
      have e5 := if_t e5 b6
      cases e5
      have S13 := Sx.refl0 S.sub
      exact ⟨rfl, F0, S13⟩
    rintro b17 H15 ⟨rfl, F14, c16⟩
    have S18 := S.call0 c16
    have f_thing := qTh.mono c16.le f_thing
    refine if_b hm (fun b19 hm => ?_) (fun b19 hm => ?_)
    · skip
      cases hm
      refine rd_ret ?_
      refine rd_c ?_
      exact hQ _ _ _ S18 rfl
    · skip
      obtain ⟨t20, e21, hm⟩ := bd_some hm
      have e22 := thS_fact f_thing e21
      cases e22
      refine rd_next ?_
      refine rd_seq ?_
      refine rd_for ?_
      refine rd_iS ?_
      refine rd_v rfl ?_
      refine rd_wS ?_
      obtain ⟨t23, e24, hm⟩ := bd_some hm
      refine rd_forC feedsS (typedS (K := K) (F := F14)) e24 (fun (s25 : Unit) σ H => ∃ (F : Hp) (o1 : Option V), σ = [some (V.str (t20)), o1] ∧ Sx P0 F14 H15 F H) ?_ ?_ ?_ ?_
      · intro _ _ _ _; trivial
      · skip
        have S27 := Sx.refl0 S18.sub
        exact ⟨F14, _, rfl, S27⟩
      · skip
        rintro x28 v29 s30 c34 σ31 H32 f33 ⟨F35, o37, rfl, S36⟩ hm40 hbk38 hrt39
        unfold m_is_line_b1 at hm40
        cases (show v29 = (V.str (x28)) from f33)
        refine rd_gn ?_
        refine rd_ifS ?_
        refine rd_test ?_
        refine rd_op ?_
        refine rd_v rfl ?_
        refine rd_c ?_
        refine rd_niSS ?_
        refine rd_b ?_
        refine if_b hm40 (fun b41 hm40 => ?_) (fun b41 hm40 => ?_)
        · skip
          cases hm40
          have e42 := hrt39 _ rfl
          subst e42
          have hm := aft_rt hm
          have S43 := S18.call0 S36
          cases hm
          refine rd_ret ?_
          refine rd_c ?_
          exact hQ _ _ _ S43 rfl
        · skip
          cases hm40
          refine rd_next ?_
          exact ⟨_, rfl, ⟨F35, _, rfl, S36⟩⟩
      · skip
        rintro s46 σ44 H45 e47 ⟨F48, o50, rfl, S49⟩
        subst e47
        have hm := aft_nx hm
        have S51 := S18.call0 S49
        cases hm
        refine rd_ret ?_
        refine rd_c ?_
        exact hQ _ _ _ S51 rfl
def sp_is_allowed (K : PySem.W.Frag) : Sp := fun vs H Q _ => ∃ (F : Hp) (v_parts : V) (a_parts : (List Str)) (a_at : Int) (r : Bool), vs = [v_parts, (V.int (a_at))] ∧ Same F H ∧ (qT qS).r K F v_parts a_parts ∧ m_is_allowed a_parts a_at = some r ∧ ∀ v F' H', Sx P0 F H F' H' → qB.r K F' v r → Q v H'
theorem sc_is_allowed : FnScope ["parts", "at", "part"] ["parts", "at"] (defScope s_is_allowed) := ⟨rfl, rfl, rfl, by decide +kernel, rfl, by decide +kernel, by decide +kernel⟩
theorem bn_is_allowed (T : Tx K mg) : Binds K (fdOf K ("is_allowed", none)) ["parts", "at"] [] := FunD.bindsN T.F_is_allowed fun _ _ _ _ _ _ us hl => match us, hl with | [_, _], _ => rfl
theorem ok_is_allowed (T : Tx K mg) : FnOk P w K mg base CX0 2 (He.ga K "is_allowed") (fdOf K ("is_allowed", none)) ["parts", "at"] (sp_is_allowed K) := by
  refine FunD.ok T.F_is_allowed sc_is_allowed (fun vs H0 Q E h => ?_) (fun cdv A outer s H0 vs Q E hr h => ?_)
  · obtain ⟨_, _, _, _, _, rfl, _⟩ := h
    rfl
  · obtain ⟨F0, v_parts, a_parts, a_at, r, rfl, hE, f_parts, hm, hQ⟩ := h
    refine ⟨_, PSs.nox ((pss_cons (ps_set (i := 2) sc_is_allowed.nd rfl (by first | exact Or.inl rfl | exact Or.inr rfl) (pe_ix (r := rIxT K) ix_tup (pv 0) (pv 1) (fun _ _ => rfl))) (pss_cons (ps_if (PW.pt (pw_or (pt_cmpR op_ge (pv 1) (pe_glob (v := V.int 4) (by rfl) (T.k_MOST_PARTS.choose_spec) ⟨_, rfl⟩) (nomark _)) (pw_or1 (pt_not (pt_val (pe_callB (r := rIsi K) call_isi (by rfl) T.n_isinstance (by decide +kernel) (pa_cons (pv 2) (pa_cons (pe_bltn (v := V.ty "str") (by rfl) T.n_str (by decide +kernel) rfl) pa_nil)))))))) (pss_one (ps_ret pe_bl)) pss_nil) (pss_cons (ps_if (pt_cmpR op_eqS (pv 2) (pe_glob (v := V.str "<any>") (by rfl) (T.k_ANY_CELL.choose_spec) ⟨_, rfl⟩) (nomark _)) (pss_one (ps_ret (pe_cmpR (r := rIn K true) op_notIn_seq (pe_glob (v := V.str "<any>") (by rfl) (T.k_ANY_CELL.choose_spec) ⟨_, rfl⟩) (pe_slice (r := rSlA K) sl_tupA (pv 0) po_none (po_some (pv 1))) rfl))) pss_nil) (pss_cons (ps_if (pt_cmpR (r := rIn K false) op_in_seq (pv 2) (pe_glob (v := V.ref (He.ga K "FREE_CELLS")) (by rfl) T.g_FREE_CELLS rfl) rfl) (pss_one (ps_ret pe_bl)) pss_nil) (pss_cons (ps_if (PW.pt (pw_and (pt_cmpR op_gt (pv 1) pe_int (nomark _)) (pw_and1 (pt_cmpR (r := rIn K true) op_notIn_seq (pe_ix (r := rIxT K) ix_tup (pv 0) (pe_op op_sub (pv 1) pe_int) (fun _ _ => rfl)) (pe_glob (v := V.ref (He.ga K "FREE_CELLS")) (by rfl) T.g_FREE_CELLS rfl) rfl)))) (pss_one (ps_ret pe_bl)) pss_nil) (pss_one (ps_ret (pe_and (pe_call (ok_is_line T) (hr.mono (by decide)) (by rfl) T.g_is_line T.F_is_line.kp (bn_is_line T) .nil pass0 (pa_cons (pv 2) pa_nil)) (pe_one (pe_cmpR op_le (pe_callB cr_lenS (by rfl) T.n_len (by decide +kernel) (pa_cons (pv 2) pa_nil)) (pe_glob (v := V.int 4) (by rfl) (T.k_MOST_SIGNS.choose_spec) ⟨_, rfl⟩) (nomark _)))))))))))), ?_⟩
    have S : Sx P0 F0 H0 F0 H0 := Sx.refl0 hE
    unfold m_is_allowed at hm
    obtain ⟨t1, e2, hm⟩ := bd_some hm
    refine rd_seq ?_
    refine rd_asg ?_
    refine rd_op ?_
    refine rd_v rfl ?_
    refine rd_v rfl ?_
    refine rd_ixT (S.t f_parts) e2 (fun u3 f4 => ?_)
    cases (show u3 = (V.str (t1)) from f4)
    refine rd_gn ?_
    refine rd_seq ?_
    refine rd_ifS ?_
    refine rd_or ?_
    refine rd_test ?_
    refine rd_op ?_
    refine rd_v rfl ?_
    refine rd_c ?_
    refine rd_I0 ?_
    refine rd_b ?_
    refine or_p (by intro _ Q' q; refine rd_not ?_; refine rd_tB ?_; refine rd_cb ?_; refine rd_cons ?_; refine rd_v rfl ?_; refine rd_cons ?_; refine rd_c ?_; refine rd_nil ?_; refine rd_isi (b := true) tx_str (by decide +kernel) ?_; refine rd_b ?_; exact q) ?_
    refine if_b hm (fun b5 hm => ?_) (fun b5 hm => ?_)
    · skip
      cases hm
      refine rd_ret ?_
      refine rd_c ?_
      exact hQ _ _ _ S rfl
    · skip
      refine rd_next ?_
      refine rd_seq ?_
      refine rd_ifS ?_
      refine rd_test ?_
      refine rd_op ?_
      refine rd_v rfl ?_
      refine rd_c ?_
      refine rd_S0 ?_
      refine rd_b ?_
      refine if_b hm (fun b6 hm => ?_) (fun b6 hm => ?_)
      · skip
        refine rd_ret ?_
        refine rd_op ?_
        refine rd_c ?_
        refine rd_sl ?_
        refine rd_v rfl ?_
        refine rd_np ?_
        refine rd_pt ?_
        refine rd_v rfl ?_
        refine rd_i ?_
        refine rd_slA S f_parts (fun v7 F8 H9 c10 f11 => ?_)
        have S12 := S.call0 c10
        have f_parts := (qT qS).mono c10.le f_parts
        cases hm
        refine rd_niS (S12.t f11).q ?_
        exact hQ _ _ _ S12 rfl
      · skip
        have f13 : (qT qS).r K F0 (.ref (He.ga K "FREE_CELLS")) (["<digits>", "<word>", "<any>"] : List Str) := T.q_FREE_CELLS _
        refine rd_next ?_
        refine rd_seq ?_
        refine rd_ifS ?_
        refine rd_test ?_
        refine rd_op ?_
        refine rd_v rfl ?_
        refine rd_c ?_
        refine rd_inS (S.t f13).q ?_
        refine rd_b ?_
        refine if_b hm (fun b14 hm => ?_) (fun b14 hm => ?_)
        · skip
          cases hm
          refine rd_ret ?_
          refine rd_c ?_
          exact hQ _ _ _ S rfl
        · skip
          obtain ⟨t20, e21, hm⟩ := bd_some hm
          refine rd_next ?_
          refine rd_seq ?_
          refine rd_ifS ?_
          refine rd_and ?_
          refine rd_test ?_
          refine rd_op ?_
          refine rd_v rfl ?_
          refine rd_c ?_
          refine rd_I0 ?_
          refine rd_b ?_
          refine and_j (fun c H' => c = t20 ∧ ∃ F', Sx P0 F0 H0 F' H') ?_ ?_ ?_
          · intro b22 Q23 q24
            have e21 := if_t e21 b22
            have S25 := Sx.refl0 S.sub
            obtain ⟨t26, e27, e21⟩ := bd_some e21
            refine rd_test ?_
            refine rd_op ?_
            refine rd_op ?_
            refine rd_v rfl ?_
            refine rd_op ?_
            refine rd_v rfl ?_
            refine rd_c ?_
            refine rd_I0 ?_
            refine rd_ixT (S25.t f_parts) e27 (fun u28 f29 => ?_)
            cases (show u28 = (V.str (t26)) from f29)
            have f30 : (qT qS).r K F0 (.ref (He.ga K "FREE_CELLS")) (["<digits>", "<word>", "<any>"] : List Str) := T.q_FREE_CELLS _
            cases e21
            refine rd_c ?_
            refine rd_niS (S25.t f30).q ?_
            refine rd_b ?_
            exact q24 _ _ ⟨rfl, F0, S25⟩
          · intro b22
            have e21 := if_f e21 b22
            cases e21
            have S31 := Sx.refl0 S.sub
            exact ⟨rfl, F0, S31⟩
          rintro b35 H33 ⟨rfl, F32, c34⟩
          have S36 := S.call0 c34
          have f_parts := (qT qS).mono c34.le f_parts
          refine if_b hm (fun b37 hm => ?_) (fun b37 hm => ?_)
          · skip
            cases hm
            refine rd_ret ?_
            refine rd_c ?_
            exact hQ _ _ _ S36 rfl
          · skip
            obtain ⟨t38, e39, hm⟩ := bd_some hm
            refine rd_next ?_
            refine rd_ret ?_
            refine rd_andV ?_
            refine rd_call ?_
            refine rd_cons ?_
            refine rd_v rfl ?_
            refine rd_nil ?_
            refine ⟨F32, _, _, t38, rfl, S36.sub, (show qTh.r K F32 _ (Th.d (PyData.str (t1))) from Dp.str _), e39, fun v43 F40 H41 c42 f44 => ?_⟩
            have S45 := S36.call0 c42
            have f_parts := (qT qS).mono c42.le f_parts
            cases (show v43 = (V.bl (t38)) from f44)
            obtain ⟨t47, e48, hm⟩ := bd_some hm
            refine rd_b ?_
            refine andV_j (fun c H' => c = V.bl t47 ∧ ∃ F', Sx P0 F40 H41 F' H') ?_ ?_ ?_
            · intro b49 Q50 q51
              have e48 := if_t e48 b49
              have S52 := Sx.refl0 S45.sub
              obtain ⟨g53, e48⟩ := gd_some e48
              cases e48
              refine rd_op ?_
              refine rd_cb ?_
              refine rd_cons ?_
              refine rd_v rfl ?_
              refine rd_nil ?_
              refine rd_lenS g53 ?_
              refine rd_c ?_
              refine rd_I0 ?_
              exact q51 _ _ ⟨rfl, F40, S52⟩
            · intro b49
              have e48 := if_f e48 b49
              cases e48
              have S54 := Sx.refl0 S45.sub
              exact ⟨rfl, F40, S54⟩
            rintro b58 H56 ⟨rfl, F55, c57⟩
            have S59 := S45.call0 c57
            have f_parts := (qT qS).mono c57.le f_parts
            cases hm
            exact hQ _ _ _ S59 rfl
def sp_Form___init__ (K : PySem.W.Frag) : Sp := fun vs H Q _ => ∃ (F : Hp) (p_self : Addr) (dx : Addr) (v_parts : V) (a_parts : (List Str)) (r : (List Str)), vs = [.ref p_self, v_parts] ∧ Same F H ∧ Ow (fun a => a = p_self) H F H p_self (.ins (He.ga K "Form") dx []) ∧ (qT qS).r K F v_parts a_parts ∧ m_Form___init__ a_parts = some r ∧ ∀ (F' H' : Hp) (u0 : V), Sx (fun a => a = p_self) F H F' H' → Ow (fun a => a = p_self) H F' H' p_self (.ins (He.ga K "Form") dx [("pieces", u0)]) → (qT qS).r K F' u0 r → Q .non H'
theorem sc_Form___init__ : FnScope ["self", "parts", "at"] ["self", "parts"] (defScope s_Form___init__) := ⟨rfl, rfl, rfl, by decide +kernel, rfl, by decide +kernel, by decide +kernel⟩
theorem ok_Form___init__ (T : Tx K mg) : FnR P w K mg base CX0 3 (He.fAd K ("Form", some "__init__")) (starSp 1 (sp_Form___init__ K)) := by
  obtain ⟨oc, od, dV, kV, doc, pm, an, cdv, ct, osl, efd, lk, hcd, hD, _⟩ := T.F_Form___init__.ex
  rw [efd] at lk
  obtain ⟨_, rfl⟩ | ⟨nD, _⟩ := hD
  rotate_left
  · exact absurd rfl nD
  refine StX.fn_star (ps := ["self"]) (pv := "parts") lk hcd sc_Form___init__ StX.cxUp_none (fun us rest hl => StX.bind_star1 (p1 := "self") (pv := "parts") (B := fun us => bindArgs (PySem.W.fnOf _ _ _ _ _ .none kV doc pm an cdv ct) ⟨us, []⟩) (fun a => by rfl) (fun a r rs => by rfl) us rest hl) (fun A outer s H0 vs Q E hr h => ?_)
  · obtain ⟨F0, p_self, dx, v_parts, a_parts, r, rfl, hE, w_self, f_parts, hm, hQ⟩ := h
    refine ⟨_, PSs.nox ((pss_cons (ps_if (pt_cmpR op_eqI (pe_callB (r := rLenQ K) cr_lenQ (by rfl) T.n_len (by decide +kernel) (pa_cons (pv 1) pa_nil)) pe_int (nomark _)) (pss_one ps_dead) pss_nil) (pss_cons (ps_for PassesOwn.never rfl (pi_range1 (by rfl) T.n_range (pa_cons (pe_callB (r := rLenQ K) cr_lenQ (by rfl) T.n_len (by decide +kernel) (pa_cons (pv 1) pa_nil)) pa_nil)) (pg_name (i := 2) sc_Form___init__.nd rfl (by first | exact Or.inl rfl | exact Or.inr rfl)) (pss_one (ps_if (pt_not (pt_val (pe_call (ok_is_allowed T) (hr.mono (by decide)) (by rfl) T.g_is_allowed T.F_is_allowed.kp (bn_is_allowed T) .nil pass0 (pa_cons (pv 1) (pa_cons (pv 2) pa_nil))))) (pss_one ps_dead) pss_nil))) (pss_one (ps_fld (pv 0) (pv 1) rfl))))), ?_⟩
    have S : Sx (fun a => a = p_self) F0 H0 F0 H0 := Sx.refl hE (live1 w_self)
    unfold m_Form___init__ at hm
    refine rd_seq ?_
    refine rd_ifS ?_
    refine rd_test ?_
    refine rd_op ?_
    refine rd_cb ?_
    refine rd_cons ?_
    refine rd_v rfl ?_
    refine rd_nil ?_
    refine rd_lenQ (S.t f_parts).q ?_
    refine rd_c ?_
    refine rd_I0 ?_
    refine rd_b ?_
    refine if_b hm (fun b1 hm => ?_) (fun b1 hm => ?_)
    · skip
      cases hm
    · skip
      obtain ⟨g2, hm⟩ := gd_some hm
      refine rd_next ?_
      refine rd_seq ?_
      refine rd_for ?_
      refine rd_iR1 ?_
      refine rd_cons ?_
      refine rd_cb ?_
      refine rd_cons ?_
      refine rd_v rfl ?_
      refine rd_nil ?_
      refine rd_lenQ (S.t f_parts).q ?_
      refine rd_nil ?_
      refine rd_r1 g2 ?_
      obtain ⟨t3, e4, hm⟩ := bd_some hm
      refine rd_forS feedsRg (typedR (K := K) (F := F0)) e4 (fun (s5 : Unit) σ H => ∃ (F : Hp) (o2 : Option V), σ = [some (V.ref p_self), some v_parts, o2] ∧ Sx P0 F0 H0 F H) ?_ ?_ ?_ ?_
      · intro _ _ _ _; trivial
      · skip
        have S7 := Sx.refl0 S.sub
        exact ⟨F0, _, rfl, S7⟩
      · skip
        rintro x8 v9 s10 c14 σ11 H12 f13 ⟨F15, o17, rfl, S16⟩ hm20
        have f_parts := (qT qS).mono S16.le f_parts
        have w_self := w_self.call0 S16
        unfold m_Form___init___b1 at hm20
        cases (show v9 = (V.int (x8)) from f13)
        obtain ⟨t21, e22, hm20⟩ := bd_some hm20
        refine rd_gn ?_
        refine rd_ifS ?_
        refine rd_not ?_
        refine rd_tB ?_
        refine rd_call ?_
        refine rd_cons ?_
        refine rd_v rfl ?_
        refine rd_cons ?_
        refine rd_v rfl ?_
        refine rd_nil ?_
        refine ⟨F15, _, _, _, t21, rfl, S16.sub, f_parts, e22, fun v26 F23 H24 c25 f27 => ?_⟩
        have S28 := S16.call0 c25
        have f_parts := (qT qS).mono c25.le f_parts
        have w_self := w_self.call0 c25
        cases (show v26 = (V.bl (t21)) from f27)
        refine rd_b ?_
        refine if_b hm20 (fun b29 hm20 => ?_) (fun b29 hm20 => ?_)
        · skip
          cases hm20
        · skip
          cases hm20
          refine rd_next ?_
          exact ⟨F23, _, rfl, S28⟩
      · skip
        rintro σ30 H31 ⟨F32, o34, rfl, S33⟩
        have S35 := S.call0 S33
        have f_parts := (qT qS).mono S33.le f_parts
        have w_self := w_self.call0 S33
        refine rd_sfld ?_
        refine rd_v rfl ?_
        refine rd_v rfl ?_
        refine fset (fs' := [("pieces", v_parts)]) S35 w_self T.c_Form T.na_Form_pieces (by rfl) (by rfl) (fun H36 c37 w38 => ?_)
        have f39 : (qT qS).r K F32 v_parts a_parts := f_parts
        have S40 := S35.call1 c37 w_self
        have f_parts := (qT qS).mono c37.le f_parts
        have f39 := (qT qS).mono c37.le f39
        cases hm
        exact hQ _ _ v_parts S40 w38 f39
theorem new_Form {P0' : Addr → Prop} {F0 H0 F H : Hp} {Q : VK} {E : XK} {vs : List V} {xs : List Str} {r : (List Str)} (S : Sx P0' F0 H0 F H) (row : Row qS K F vs xs) (hl : Nat.ble vs.length 900 = true) (hm : m_Form___init__ xs = some r) (k : ∀ v F' H', Sx P0 F H F' H' → qForm.r K F' v r → Q v H') : mkK (He.ga K "Form") (starSp 1 (sp_Form___init__ K)) E Q vs H := by
  refine mk_star S row hl fun x dx v F1 H1 hx c1 w rv => ?_
  refine ⟨F1, x, dx, v, xs, r, rfl, c1.sub, w, rv, hm, fun F' H' u0 c w' k0 => ⟨rfl, ?_⟩⟩
  obtain ⟨F2, S2, le, h3⟩ := fzI c1 hx c w'
  exact k _ F2 H' S2 ⟨x, dx, u0, rfl, h3, (qT qS).mono le k0⟩
def sp_law_form (K : PySem.W.Frag) : Sp := fun vs H Q _ => ∃ (F : Hp) (v__law_parts : V) (a__law_parts : (List Str)) (r : (List Str)), vs = [v__law_parts] ∧ Same F H ∧ (qL qS).r K F v__law_parts a__law_parts ∧ m_law_form a__law_parts = some r ∧ ∀ v F' H', Sx P0 F H F' H' → qForm.r K F' v r → Q v H'
theorem sc_law_form : FnScope ["_law_parts"] ["_law_parts"] (defScope s_law_form) := ⟨rfl, rfl, rfl, by decide +kernel, rfl, by decide +kernel, by decide +kernel⟩
theorem bn_law_form (T : Tx K mg) : Binds K (fdOf K ("_law_form", none)) ["_law_parts"] [] := FunD.bindsN T.F_law_form fun _ _ _ _ _ _ us hl => match us, hl with | [_], _ => rfl
theorem ok_law_form (T : Tx K mg) : FnOk P w K mg base CX0 5 (He.ga K "_law_form") (fdOf K ("_law_form", none)) ["_law_parts"] (sp_law_form K) := by
  refine FunD.ok T.F_law_form sc_law_form (fun vs H0 Q E h => ?_) (fun cdv A outer s H0 vs Q E hr h => ?_)
  · obtain ⟨_, _, _, _, rfl, _⟩ := h
    rfl
  · obtain ⟨F0, v__law_parts, a__law_parts, r, rfl, hE, f__law_parts, hm, hQ⟩ := h
    refine ⟨_, PSs.nox ((pss_cons (ps_if (pt_cmpR op_eqI (pe_callB (r := rLenQ K) cr_lenQ (by rfl) T.n_len (by decide +kernel) (pa_cons (pv 0) pa_nil)) pe_int (nomark _)) (pss_one (ps_ret (StX.pe_makeR T.mk_Form (ok_Form___init__ T) (hr.mono (by decide)) (by rfl) T.gc_Form pass0 (pa_cons (pe_ix (r := rIxL K) ix_list (pv 0) pe_int (fun _ _ => rfl)) pa_nil)))) pss_nil) (pss_cons (ps_if (pt_cmpR op_eqI (pe_callB (r := rLenQ K) cr_lenQ (by rfl) T.n_len (by decide +kernel) (pa_cons (pv 0) pa_nil)) pe_int (nomark _)) (pss_one (ps_ret (StX.pe_makeR T.mk_Form (ok_Form___init__ T) (hr.mono (by decide)) (by rfl) T.gc_Form pass0 (pa_cons (pe_ix (r := rIxL K) ix_list (pv 0) pe_int (fun _ _ => rfl)) (pa_cons (pe_ix (r := rIxL K) ix_list (pv 0) pe_int (fun _ _ => rfl)) pa_nil))))) pss_nil) (pss_cons (ps_if (pt_cmpR op_eqI (pe_callB (r := rLenQ K) cr_lenQ (by rfl) T.n_len (by decide +kernel) (pa_cons (pv 0) pa_nil)) pe_int (nomark _)) (pss_one (ps_ret (StX.pe_makeR T.mk_Form (ok_Form___init__ T) (hr.mono (by decide)) (by rfl) T.gc_Form pass0 (pa_cons (pe_ix (r := rIxL K) ix_list (pv 0) pe_int (fun _ _ => rfl)) (pa_cons (pe_ix (r := rIxL K) ix_list (pv 0) pe_int (fun _ _ => rfl)) (pa_cons (pe_ix (r := rIxL K) ix_list (pv 0) pe_int (fun _ _ => rfl)) pa_nil)))))) pss_nil) (pss_one (ps_ret (StX.pe_makeR T.mk_Form (ok_Form___init__ T) (hr.mono (by decide)) (by rfl) T.gc_Form pass0 (pa_cons (pe_ix (r := rIxL K) ix_list (pv 0) pe_int (fun _ _ => rfl)) (pa_cons (pe_ix (r := rIxL K) ix_list (pv 0) pe_int (fun _ _ => rfl)) (pa_cons (pe_ix (r := rIxL K) ix_list (pv 0) pe_int (fun _ _ => rfl)) (pa_cons (pe_ix (r := rIxL K) ix_list (pv 0) pe_int (fun _ _ => rfl)) pa_nil))))))))))), ?_⟩
    have S : Sx P0 F0 H0 F0 H0 := Sx.refl0 hE
    unfold m_law_form at hm
    refine rd_seq ?_
    refine rd_ifS ?_
    refine rd_test ?_
    refine rd_op ?_
    refine rd_cb ?_
    refine rd_cons ?_
    refine rd_v rfl ?_
    refine rd_nil ?_
    refine rd_lenQ (S.l f__law_parts).r.q ?_
    refine rd_c ?_
    refine rd_I0 ?_
    refine rd_b ?_
    refine if_b hm (fun b1 hm => ?_) (fun b1 hm => ?_)
    · skip
      obtain ⟨t2, e3, hm⟩ := bd_some hm
      refine rd_ret ?_
      refine rd_makeR ?_
      refine rd_cons ?_
      refine rd_op ?_
      refine rd_v rfl ?_
      refine rd_c ?_
      refine rd_ixL (S.l f__law_parts).r e3 (fun u4 f5 => ?_)
      cases (show u4 = (V.str (t2)) from f5)
      obtain ⟨t6, e7, hm⟩ := bd_some hm
      refine rd_nil ?_
      refine new_Form S (.cons rfl .nil) rfl e7 (fun v8 F9 H10 c11 f12 => ?_)
      have S13 := S.call0 c11
      have f__law_parts := (qL qS).mono c11.le f__law_parts
      cases hm
      exact hQ _ _ _ S13 f12
    · skip
      refine rd_next ?_
      refine rd_seq ?_
      refine rd_ifS ?_
      refine rd_test ?_
      refine rd_op ?_
      refine rd_cb ?_
      refine rd_cons ?_
      refine rd_v rfl ?_
      refine rd_nil ?_
      refine rd_lenQ (S.l f__law_parts).r.q ?_
      refine rd_c ?_
      refine rd_I0 ?_
      refine rd_b ?_
      refine if_b hm (fun b14 hm => ?_) (fun b14 hm => ?_)
      · skip
        obtain ⟨t15, e16, hm⟩ := bd_some hm
        refine rd_ret ?_
        refine rd_makeR ?_
        refine rd_cons ?_
        refine rd_op ?_
        refine rd_v rfl ?_
        refine rd_c ?_
        refine rd_ixL (S.l f__law_parts).r e16 (fun u17 f18 => ?_)
        cases (show u17 = (V.str (t15)) from f18)
        obtain ⟨t19, e20, hm⟩ := bd_some hm
        refine rd_cons ?_
        refine rd_op ?_
        refine rd_v rfl ?_
        refine rd_c ?_
        refine rd_ixL (S.l f__law_parts).r e20 (fun u21 f22 => ?_)
        cases (show u21 = (V.str (t19)) from f22)
        obtain ⟨t23, e24, hm⟩ := bd_some hm
        refine rd_nil ?_
        refine new_Form S (.cons rfl (.cons rfl .nil)) rfl e24 (fun v25 F26 H27 c28 f29 => ?_)
        have S30 := S.call0 c28
        have f__law_parts := (qL qS).mono c28.le f__law_parts
        cases hm
        exact hQ _ _ _ S30 f29
      · skip
        refine rd_next ?_
        refine rd_seq ?_
        refine rd_ifS ?_
        refine rd_test ?_
        refine rd_op ?_
        refine rd_cb ?_
        refine rd_cons ?_
        refine rd_v rfl ?_
        refine rd_nil ?_
        refine rd_lenQ (S.l f__law_parts).r.q ?_
        refine rd_c ?_
        refine rd_I0 ?_
        refine rd_b ?_
        refine if_b hm (fun b31 hm => ?_) (fun b31 hm => ?_)
        · skip
          obtain ⟨t32, e33, hm⟩ := bd_some hm
          refine rd_ret ?_
          refine rd_makeR ?_
          refine rd_cons ?_
          refine rd_op ?_
          refine rd_v rfl ?_
          refine rd_c ?_
          refine rd_ixL (S.l f__law_parts).r e33 (fun u34 f35 => ?_)
          cases (show u34 = (V.str (t32)) from f35)
          obtain ⟨t36, e37, hm⟩ := bd_some hm
          refine rd_cons ?_
          refine rd_op ?_
          refine rd_v rfl ?_
          refine rd_c ?_
          refine rd_ixL (S.l f__law_parts).r e37 (fun u38 f39 => ?_)
          cases (show u38 = (V.str (t36)) from f39)
          obtain ⟨t40, e41, hm⟩ := bd_some hm
          refine rd_cons ?_
          refine rd_op ?_
          refine rd_v rfl ?_
          refine rd_c ?_
          refine rd_ixL (S.l f__law_parts).r e41 (fun u42 f43 => ?_)
          cases (show u42 = (V.str (t40)) from f43)
          obtain ⟨t44, e45, hm⟩ := bd_some hm
          refine rd_nil ?_
          refine new_Form S (.cons rfl (.cons rfl (.cons rfl .nil))) rfl e45 (fun v46 F47 H48 c49 f50 => ?_)
          have S51 := S.call0 c49
          have f__law_parts := (qL qS).mono c49.le f__law_parts
          cases hm
          exact hQ _ _ _ S51 f50
        · skip
          obtain ⟨t52, e53, hm⟩ := bd_some hm
          refine rd_next ?_
          refine rd_ret ?_
          refine rd_makeR ?_
          refine rd_cons ?_
          refine rd_op ?_
          refine rd_v rfl ?_
          refine rd_c ?_
          refine rd_ixL (S.l f__law_parts).r e53 (fun u54 f55 => ?_)
          cases (show u54 = (V.str (t52)) from f55)
          obtain ⟨t56, e57, hm⟩ := bd_some hm
          refine rd_cons ?_
          refine rd_op ?_
          refine rd_v rfl ?_
          refine rd_c ?_
          refine rd_ixL (S.l f__law_parts).r e57 (fun u58 f59 => ?_)
          cases (show u58 = (V.str (t56)) from f59)
          obtain ⟨t60, e61, hm⟩ := bd_some hm
          refine rd_cons ?_
          refine rd_op ?_
          refine rd_v rfl ?_
          refine rd_c ?_
          refine rd_ixL (S.l f__law_parts).r e61 (fun u62 f63 => ?_)
          cases (show u62 = (V.str (t60)) from f63)
          obtain ⟨t64, e65, hm⟩ := bd_some hm
          refine rd_cons ?_
          refine rd_op ?_
          refine rd_v rfl ?_
          refine rd_c ?_
          refine rd_ixL (S.l f__law_parts).r e65 (fun u66 f67 => ?_)
          cases (show u66 = (V.str (t64)) from f67)
          obtain ⟨t68, e69, hm⟩ := bd_some hm
          refine rd_nil ?_
          refine new_Form S (.cons rfl (.cons rfl (.cons rfl (.cons rfl .nil)))) rfl e69 (fun v70 F71 H72 c73 f74 => ?_)
          have S75 := S.call0 c73
          have f__law_parts := (qL qS).mono c73.le f__law_parts
          cases hm
          exact hQ _ _ _ S75 f74
def sp_law_line (K : PySem.W.Frag) : Sp := fun vs H Q _ => ∃ (F : Hp) (p__law_pool_here : Addr) (a__law_pool_here : Int × Int) (v__law_parts : V) (a__law_parts : (List Str)) (r : (Str × (Int × Int))), vs = [.ref p__law_pool_here, v__law_parts] ∧ Same F H ∧ Ow (fun a => a = p__law_pool_here) H F H p__law_pool_here (.lst [.int a__law_pool_here.1, .int a__law_pool_here.2]) ∧ (qL qS).r K F v__law_parts a__law_parts ∧ m_law_line a__law_pool_here a__law_parts = some r ∧ ∀ v F' H', Sx (fun a => a = p__law_pool_here) F H F' H' → Ow (fun a => a = p__law_pool_here) H F' H' p__law_pool_here (.lst [.int r.2.1, .int r.2.2]) → qS.r K F' v r.1 → Q v H'
theorem sc_law_line : FnScope ["_law_pool_here", "_law_parts", "_law_line_here", "_law_part"] ["_law_pool_here", "_law_parts"] (defScope s_law_line) := ⟨rfl, rfl, rfl, by decide +kernel, rfl, by decide +kernel, by decide +kernel⟩
theorem bn_law_line (T : Tx K mg) : Binds K (fdOf K ("_law_line", none)) ["_law_pool_here", "_law_parts"] [] := FunD.bindsN T.F_law_line fun _ _ _ _ _ _ us hl => match us, hl with | [_, _], _ => rfl
theorem ok_law_line (T : Tx K mg) : FnOk P w K mg base CX0 3 (He.ga K "_law_line") (fdOf K ("_law_line", none)) ["_law_pool_here", "_law_parts"] (sp_law_line K) := by
  refine FunD.ok T.F_law_line sc_law_line (fun vs H0 Q E h => ?_) (fun cdv A outer s H0 vs Q E hr h => ?_)
  · obtain ⟨_, _, _, _, _, _, rfl, _⟩ := h
    rfl
  · obtain ⟨F0, p__law_pool_here, a__law_pool_here, v__law_parts, a__law_parts, r, rfl, hE, w__law_pool_here, f__law_parts, hm, hQ⟩ := h
    refine ⟨_, PSs.nox ((pss_cons (ps_set (i := 2) sc_law_line.nd rfl (by first | exact Or.inl rfl | exact Or.inr rfl) pe_str) (pss_cons (ps_for PassesOwn.never rfl (pi_listK (pv 1)) (pg_name (i := 3) sc_law_line.nd rfl (by first | exact Or.inl rfl | exact Or.inr rfl)) (pss_one (ps_if (pt_cmpR op_eqS (pv 3) pe_str (nomark _)) (pss_one (ps_set (i := 2) sc_law_line.nd rfl (by first | exact Or.inl rfl | exact Or.inr rfl) (pe_op op_catS (pv 2) (pe_op op_repS (pe_ix ix_str pe_str (pe_call (ok_law_take T) (hr.mono (by decide)) (by rfl) T.g_law_take T.F_law_take.kp (bn_law_take T) .nil pass0 (pa_cons (pv 0) (pa_cons pe_int pa_nil))) (fun _ _ => rfl)) (pe_op op_add pe_int (pe_call (ok_law_take T) (hr.mono (by decide)) (by rfl) T.g_law_take T.F_law_take.kp (bn_law_take T) .nil pass0 (pa_cons (pv 0) (pa_cons pe_int pa_nil)))))))) (pss_one (ps_if (pt_cmpR op_eqS (pv 3) pe_str (nomark _)) (pss_one (ps_set (i := 2) sc_law_line.nd rfl (by first | exact Or.inl rfl | exact Or.inr rfl) (pe_op op_catS (pv 2) (pe_op op_repS (pe_ix ix_str pe_str (pe_call (ok_law_take T) (hr.mono (by decide)) (by rfl) T.g_law_take T.F_law_take.kp (bn_law_take T) .nil pass0 (pa_cons (pv 0) (pa_cons pe_int pa_nil))) (fun _ _ => rfl)) (pe_op op_add pe_int (pe_call (ok_law_take T) (hr.mono (by decide)) (by rfl) T.g_law_take T.F_law_take.kp (bn_law_take T) .nil pass0 (pa_cons (pv 0) (pa_cons pe_int pa_nil)))))))) (pss_one (ps_if (pt_cmpR op_eqS (pv 3) pe_str (nomark _)) (pss_one (ps_set (i := 2) sc_law_line.nd rfl (by first | exact Or.inl rfl | exact Or.inr rfl) (pe_op op_catS (pv 2) (pe_op op_repS (pe_call (ok_law_text T) (hr.mono (by decide)) (by rfl) T.g_law_text T.F_law_text.kp (bn_law_text T) .nil pass0 (pa_cons (pv 0) pa_nil)) (pe_call (ok_law_take T) (hr.mono (by decide)) (by rfl) T.g_law_take T.F_law_take.kp (bn_law_take T) .nil pass0 (pa_cons (pv 0) (pa_cons pe_int pa_nil))))))) (pss_one (ps_set (i := 2) sc_law_line.nd rfl (by first | exact Or.inl rfl | exact Or.inr rfl) (pe_op op_catS (pv 2) (pv 3))))))))))) (pss_one (ps_ret (pv 2)))))), ?_⟩
    have S : Sx (fun a => a = p__law_pool_here) F0 H0 F0 H0 := Sx.refl hE (live1 w__law_pool_here)
    unfold m_law_line at hm
    refine rd_seq ?_
    refine rd_asg ?_
    refine rd_c ?_
    refine rd_gn ?_
    refine rd_seq ?_
    refine rd_for ?_
    refine rd_iL ?_
    refine rd_v rfl ?_
    refine rd_wLF S (f__law_parts) (fun p1 vs2 hq3 row4 => ?_)
    obtain ⟨t5, e6, hm⟩ := bd_some hm
    refine rd_forS feedsL (typedRow row4) e6 (fun (s7 : ((Int × Int) × Str)) σ H => ∃ (F : Hp) (o3 : Option V), σ = [some (V.ref p__law_pool_here), some v__law_parts, some (V.str (s7.2)), o3] ∧ Sx (fun a => a = p__law_pool_here) F0 H0 F H ∧ Ow (fun a => a = p__law_pool_here) H0 F H p__law_pool_here (.lst [V.int s7.1.1, V.int s7.1.2])) ?_ ?_ ?_ ?_
    · rintro _ _ _ ⟨_, _, _, S8, _⟩
      exact (Same.seq S8.sub (Same.seq S8.le hq3))
    · skip
      have S9 : Sx (fun a => a = p__law_pool_here) _ _ _ _ := Sx.refl S.sub (fun a z => by rw [z, w__law_pool_here.at_]; exact (fun h => nomatch h))
      have w10 : Ow (fun a => a = p__law_pool_here) H0 _ _ _ _ := ⟨w__law_pool_here.fr, w__law_pool_here.at_, .inr (rfl)⟩
      exact ⟨F0, _, rfl, S9, w10⟩
    · skip
      rintro x11 v12 s13 c17 σ14 H15 f16 ⟨F18, o20, rfl, S19, w21⟩ hm24
      have f__law_parts := (qL qS).mono S19.le f__law_parts
      unfold m_law_line_b1 at hm24
      cases (show v12 = (V.str (x11)) from f16)
      refine rd_gn ?_
      refine rd_ifS ?_
      refine rd_test ?_
      refine rd_op ?_
      refine rd_v rfl ?_
      refine rd_c ?_
      refine rd_S0 ?_
      refine rd_b ?_
      refine if_b hm24 (fun b25 hm24 => ?_) (fun b25 hm24 => ?_)
      · skip
        obtain ⟨t26, e27, hm24⟩ := bd_some hm24
        refine rd_asg ?_
        refine rd_op ?_
        refine rd_v rfl ?_
        refine rd_op ?_
        refine rd_op ?_
        refine rd_c ?_
        refine rd_call ?_
        refine rd_cons ?_
        refine rd_v rfl ?_
        refine rd_cons ?_
        refine rd_c ?_
        refine rd_nil ?_
        refine ⟨F18, _, _, _, t26, rfl, S19.sub, w21.arg, e27, fun v31 F28 H29 c30 w33 f32 => ?_⟩
        have S34 := S19.call1 c30 w21
        have f__law_parts := (qL qS).mono c30.le f__law_parts
        have w35 := w21.back w33
        cases (show v31 = (V.int (t26.1)) from f32)
        obtain ⟨t36, e37, hm24⟩ := bd_some hm24
        obtain ⟨t38, e39, hm24⟩ := bd_some hm24
        refine rd_ixS e37 ?_
        refine rd_op ?_
        refine rd_c ?_
        refine rd_call ?_
        refine rd_cons ?_
        refine rd_v rfl ?_
        refine rd_cons ?_
        refine rd_c ?_
        refine rd_nil ?_
        refine ⟨F28, _, _, _, t38, rfl, S34.sub, w35.arg, e39, fun v43 F40 H41 c42 w45 f44 => ?_⟩
        have S46 := S34.call1 c42 w35
        have f__law_parts := (qL qS).mono c42.le f__law_parts
        have w47 := w35.back w45
        cases (show v43 = (V.int (t38.1)) from f44)
        obtain ⟨g48, hm24⟩ := gd_some hm24
        obtain ⟨g49, hm24⟩ := gd_some hm24
        cases hm24
        refine rd_I0 ?_
        refine rd_repS g48 ?_
        refine rd_catS g49 ?_
        refine rd_gn ?_
        exact ⟨F40, _, rfl, S46, w47⟩
      · skip
        refine rd_ifS ?_
        refine rd_test ?_
        refine rd_op ?_
        refine rd_v rfl ?_
        refine rd_c ?_
        refine rd_S0 ?_
        refine rd_b ?_
        refine if_b hm24 (fun b50 hm24 => ?_) (fun b50 hm24 => ?_)
        · skip
          obtain ⟨t51, e52, hm24⟩ := bd_some hm24
          refine rd_asg ?_
          refine rd_op ?_
          refine rd_v rfl ?_
          refine rd_op ?_
          refine rd_op ?_
          refine rd_c ?_
          refine rd_call ?_
          refine rd_cons ?_
          refine rd_v rfl ?_
          refine rd_cons ?_
          refine rd_c ?_
          refine rd_nil ?_
          refine ⟨F18, _, _, _, t51, rfl, S19.sub, w21.arg, e52, fun v56 F53 H54 c55 w58 f57 => ?_⟩
          have S59 := S19.call1 c55 w21
          have f__law_parts := (qL qS).mono c55.le f__law_parts
          have w60 := w21.back w58
          cases (show v56 = (V.int (t51.1)) from f57)
          obtain ⟨t61, e62, hm24⟩ := bd_some hm24
          obtain ⟨t63, e64, hm24⟩ := bd_some hm24
          refine rd_ixS e62 ?_
          refine rd_op ?_
          refine rd_c ?_
          refine rd_call ?_
          refine rd_cons ?_
          refine rd_v rfl ?_
          refine rd_cons ?_
          refine rd_c ?_
          refine rd_nil ?_
          refine ⟨F53, _, _, _, t63, rfl, S59.sub, w60.arg, e64, fun v68 F65 H66 c67 w70 f69 => ?_⟩
          have S71 := S59.call1 c67 w60
          have f__law_parts := (qL qS).mono c67.le f__law_parts
          have w72 := w60.back w70
          cases (show v68 = (V.int (t63.1)) from f69)
          obtain ⟨g73, hm24⟩ := gd_some hm24
          obtain ⟨g74, hm24⟩ := gd_some hm24
          cases hm24
          refine rd_I0 ?_
          refine rd_repS g73 ?_
          refine rd_catS g74 ?_
          refine rd_gn ?_
          exact ⟨F65, _, rfl, S71, w72⟩
        · skip
          refine rd_ifS ?_
          refine rd_test ?_
          refine rd_op ?_
          refine rd_v rfl ?_
          refine rd_c ?_
          refine rd_S0 ?_
          refine rd_b ?_
          refine if_b hm24 (fun b75 hm24 => ?_) (fun b75 hm24 => ?_)
          · skip
            obtain ⟨t76, e77, hm24⟩ := bd_some hm24
            refine rd_asg ?_
            refine rd_op ?_
            refine rd_v rfl ?_
            refine rd_op ?_
            refine rd_call ?_
            refine rd_cons ?_
            refine rd_v rfl ?_
            refine rd_nil ?_
            refine ⟨F18, _, _, t76, rfl, S19.sub, w21.arg, e77, fun v81 F78 H79 c80 w83 f82 => ?_⟩
            have S84 := S19.call1 c80 w21
            have f__law_parts := (qL qS).mono c80.le f__law_parts
            have w85 := w21.back w83
            cases (show v81 = (V.str (t76.1)) from f82)
            obtain ⟨t86, e87, hm24⟩ := bd_some hm24
            refine rd_call ?_
            refine rd_cons ?_
            refine rd_v rfl ?_
            refine rd_cons ?_
            refine rd_c ?_
            refine rd_nil ?_
            refine ⟨F78, _, _, _, t86, rfl, S84.sub, w85.arg, e87, fun v91 F88 H89 c90 w93 f92 => ?_⟩
            have S94 := S84.call1 c90 w85
            have f__law_parts := (qL qS).mono c90.le f__law_parts
            have w95 := w85.back w93
            cases (show v91 = (V.int (t86.1)) from f92)
            obtain ⟨g96, hm24⟩ := gd_some hm24
            obtain ⟨g97, hm24⟩ := gd_some hm24
            cases hm24
            refine rd_repS g96 ?_
            refine rd_catS g97 ?_
            refine rd_gn ?_
            exact ⟨F88, _, rfl, S94, w95⟩
          · skip
            obtain ⟨g98, hm24⟩ := gd_some hm24
            cases hm24
            refine rd_asg ?_
            refine rd_op ?_
            refine rd_v rfl ?_
            refine rd_v rfl ?_
            refine rd_catS g98 ?_
            refine rd_gn ?_
            exact ⟨F18, _, rfl, S19, w21⟩
    · skip
      rintro σ99 H100 ⟨F101, o103, rfl, S102, w104⟩
      have S105 := S.call1 S102 w__law_pool_here
      have f__law_parts := (qL qS).mono S102.le f__law_parts
      have w106 : Ow (fun a => a = p__law_pool_here) H0 _ _ _ _ := ⟨w104.fr, w104.at_, w__law_pool_here.mine⟩
      cases hm
      refine rd_ret ?_
      refine rd_v rfl ?_
      exact hQ _ _ _ S105 w106 rfl
def sp_law_spoiled (K : PySem.W.Frag) : Sp := fun vs H Q _ => ∃ (F : Hp) (p__law_pool_here : Addr) (a__law_pool_here : Int × Int) (a__law_line_here : Str) (r : (Str × (Int × Int))), vs = [.ref p__law_pool_here, (V.str (a__law_line_here))] ∧ Same F H ∧ Ow (fun a => a = p__law_pool_here) H F H p__law_pool_here (.lst [.int a__law_pool_here.1, .int a__law_pool_here.2]) ∧ m_law_spoiled a__law_pool_here a__law_line_here = some r ∧ ∀ v F' H', Sx (fun a => a = p__law_pool_here) F H F' H' → Ow (fun a => a = p__law_pool_here) H F' H' p__law_pool_here (.lst [.int r.2.1, .int r.2.2]) → qS.r K F' v r.1 → Q v H'
theorem sc_law_spoiled : FnScope ["_law_pool_here", "_law_line_here", "_law_at", "_law_sign", "_law_way"] ["_law_pool_here", "_law_line_here"] (defScope s_law_spoiled) := ⟨rfl, rfl, rfl, by decide +kernel, rfl, by decide +kernel, by decide +kernel⟩
theorem bn_law_spoiled (T : Tx K mg) : Binds K (fdOf K ("_law_spoiled", none)) ["_law_pool_here", "_law_line_here"] [] := FunD.bindsN T.F_law_spoiled fun _ _ _ _ _ _ us hl => match us, hl with | [_, _], _ => rfl
theorem ok_law_spoiled (T : Tx K mg) : FnOk P w K mg base CX0 2 (He.ga K "_law_spoiled") (fdOf K ("_law_spoiled", none)) ["_law_pool_here", "_law_line_here"] (sp_law_spoiled K) := by
  refine FunD.ok T.F_law_spoiled sc_law_spoiled (fun vs H0 Q E h => ?_) (fun cdv A outer s H0 vs Q E hr h => ?_)
  · obtain ⟨_, _, _, _, _, rfl, _⟩ := h
    rfl
  · obtain ⟨F0, p__law_pool_here, a__law_pool_here, a__law_line_here, r, rfl, hE, w__law_pool_here, hm, hQ⟩ := h
    refine ⟨_, PSs.nox ((pss_cons (ps_set (i := 2) sc_law_spoiled.nd rfl (by first | exact Or.inl rfl | exact Or.inr rfl) (pe_call (ok_law_take T) (hr.mono (by decide)) (by rfl) T.g_law_take T.F_law_take.kp (bn_law_take T) .nil pass0 (pa_cons (pv 0) (pa_cons (pe_op op_add (pe_callB cr_lenS (by rfl) T.n_len (by decide +kernel) (pa_cons (pv 1) pa_nil)) pe_int) pa_nil)))) (pss_cons (ps_set (i := 3) sc_law_spoiled.nd rfl (by first | exact Or.inl rfl | exact Or.inr rfl) (pe_ix ix_str (pe_call0 (ok_law_all_signs T) (hr.mono (by decide)) (by rfl) T.g_law_all_signs T.F_law_all_signs.kp (bn_law_all_signs T) .nil pass0) (pe_call (ok_law_take T) (hr.mono (by decide)) (by rfl) T.g_law_take T.F_law_take.kp (bn_law_take T) .nil pass0 (pa_cons (pv 0) (pa_cons pe_int pa_nil))) (fun _ _ => rfl))) (pss_cons (ps_set (i := 4) sc_law_spoiled.nd rfl (by first | exact Or.inl rfl | exact Or.inr rfl) (pe_call (ok_law_take T) (hr.mono (by decide)) (by rfl) T.g_law_take T.F_law_take.kp (bn_law_take T) .nil pass0 (pa_cons (pv 0) (pa_cons pe_int pa_nil)))) (pss_cons (ps_if (pt_cmpR op_eqI (pv 4) pe_int (nomark _)) (pss_one (ps_ret (pe_op op_catS (pe_op op_catS (pe_slice sl_str (pv 1) po_none (po_some (pv 2))) (pv 3)) (pe_slice sl_str (pv 1) (po_some (pv 2)) po_none)))) pss_nil) (pss_cons (ps_if (pt_cmpR op_eqI (pv 4) pe_int (nomark _)) (pss_one (ps_ret (pe_op op_catS (pe_slice sl_str (pv 1) po_none (po_some (pv 2))) (pe_slice sl_str (pv 1) (po_some (pe_op op_add (pv 2) pe_int)) po_none)))) pss_nil) (pss_cons (ps_if (pt_cmpR op_eqI (pv 4) pe_int (nomark _)) (pss_one (ps_ret (pe_op op_catS (pe_op op_catS (pe_slice sl_str (pv 1) po_none (po_some (pv 2))) (pv 3)) (pe_slice sl_str (pv 1) (po_some (pe_op op_add (pv 2) pe_int)) po_none)))) pss_nil) (pss_one (ps_ret (pv 1)))))))))), ?_⟩
    have S : Sx (fun a => a = p__law_pool_here) F0 H0 F0 H0 := Sx.refl hE (live1 w__law_pool_here)
    unfold m_law_spoiled at hm
    obtain ⟨g1, hm⟩ := gd_some hm
    obtain ⟨t2, e3, hm⟩ := bd_some hm
    refine rd_seq ?_
    refine rd_asg ?_
    refine rd_call ?_
    refine rd_cons ?_
    refine rd_v rfl ?_
    refine rd_cons ?_
    refine rd_op ?_
    refine rd_cb ?_
    refine rd_cons ?_
    refine rd_v rfl ?_
    refine rd_nil ?_
    refine rd_lenS g1 ?_
    refine rd_c ?_
    refine rd_I0 ?_
    refine rd_nil ?_
    refine ⟨F0, _, _, _, t2, rfl, S.sub, w__law_pool_here.arg, e3, fun v7 F4 H5 c6 w9 f8 => ?_⟩
    have S10 := S.call1 c6 w__law_pool_here
    have w11 := w__law_pool_here.back w9
    cases (show v7 = (V.int (t2.1)) from f8)
    obtain ⟨t12, e13, hm⟩ := bd_some hm
    refine rd_gn ?_
    refine rd_seq ?_
    refine rd_asg ?_
    refine rd_op ?_
    refine rd_call ?_
    refine rd_nil ?_
    refine ⟨F4, t12, rfl, S10.sub, e13, fun v17 F14 H15 c16 f18 => ?_⟩
    have S19 := S10.call0 c16
    have w11 := w11.call0 c16
    cases (show v17 = (V.str (t12)) from f18)
    obtain ⟨t20, e21, hm⟩ := bd_some hm
    refine rd_call ?_
    refine rd_cons ?_
    refine rd_v rfl ?_
    refine rd_cons ?_
    refine rd_c ?_
    refine rd_nil ?_
    refine ⟨F14, _, _, _, t20, rfl, S19.sub, w11.arg, e21, fun v25 F22 H23 c24 w27 f26 => ?_⟩
    have S28 := S19.call1 c24 w11
    have w29 := w11.back w27
    cases (show v25 = (V.int (t20.1)) from f26)
    obtain ⟨t30, e31, hm⟩ := bd_some hm
    obtain ⟨t32, e33, hm⟩ := bd_some hm
    refine rd_ixS e31 ?_
    refine rd_gn ?_
    refine rd_seq ?_
    refine rd_asg ?_
    refine rd_call ?_
    refine rd_cons ?_
    refine rd_v rfl ?_
    refine rd_cons ?_
    refine rd_c ?_
    refine rd_nil ?_
    refine ⟨F22, _, _, _, t32, rfl, S28.sub, w29.arg, e33, fun v37 F34 H35 c36 w39 f38 => ?_⟩
    have S40 := S28.call1 c36 w29
    have w41 := w29.back w39
    cases (show v37 = (V.int (t32.1)) from f38)
    refine rd_gn ?_
    refine rd_seq ?_
    refine rd_ifS ?_
    refine rd_test ?_
    refine rd_op ?_
    refine rd_v rfl ?_
    refine rd_c ?_
    refine rd_I0 ?_
    refine rd_b ?_
    refine if_b hm (fun b42 hm => ?_) (fun b42 hm => ?_)
    · skip
      obtain ⟨g43, hm⟩ := gd_some hm
      obtain ⟨g44, hm⟩ := gd_some hm
      obtain ⟨g45, hm⟩ := gd_some hm
      obtain ⟨g46, hm⟩ := gd_some hm
      cases hm
      refine rd_ret ?_
      refine rd_op ?_
      refine rd_op ?_
      refine rd_sl ?_
      refine rd_v rfl ?_
      refine rd_np ?_
      refine rd_pt ?_
      refine rd_v rfl ?_
      refine rd_i ?_
      refine rd_slS g43 ?_
      refine rd_v rfl ?_
      refine rd_catS g44 ?_
      refine rd_sl ?_
      refine rd_v rfl ?_
      refine rd_pt ?_
      refine rd_v rfl ?_
      refine rd_i ?_
      refine rd_np ?_
      refine rd_slS g45 ?_
      refine rd_catS g46 ?_
      exact hQ _ _ _ S40 w41 rfl
    · skip
      refine rd_next ?_
      refine rd_seq ?_
      refine rd_ifS ?_
      refine rd_test ?_
      refine rd_op ?_
      refine rd_v rfl ?_
      refine rd_c ?_
      refine rd_I0 ?_
      refine rd_b ?_
      refine if_b hm (fun b47 hm => ?_) (fun b47 hm => ?_)
      · skip
        obtain ⟨g48, hm⟩ := gd_some hm
        obtain ⟨g49, hm⟩ := gd_some hm
        obtain ⟨g50, hm⟩ := gd_some hm
        cases hm
        refine rd_ret ?_
        refine rd_op ?_
        refine rd_sl ?_
        refine rd_v rfl ?_
        refine rd_np ?_
        refine rd_pt ?_
        refine rd_v rfl ?_
        refine rd_i ?_
        refine rd_slS g48 ?_
        refine rd_sl ?_
        refine rd_v rfl ?_
        refine rd_pt ?_
        refine rd_op ?_
        refine rd_v rfl ?_
        refine rd_c ?_
        refine rd_I0 ?_
        refine rd_i ?_
        refine rd_np ?_
        refine rd_slS g49 ?_
        refine rd_catS g50 ?_
        exact hQ _ _ _ S40 w41 rfl
      · skip
        refine rd_next ?_
        refine rd_seq ?_
        refine rd_ifS ?_
        refine rd_test ?_
        refine rd_op ?_
        refine rd_v rfl ?_
        refine rd_c ?_
        refine rd_I0 ?_
        refine rd_b ?_
        refine if_b hm (fun b51 hm => ?_) (fun b51 hm => ?_)
        · skip
          obtain ⟨g52, hm⟩ := gd_some hm
          obtain ⟨g53, hm⟩ := gd_some hm
          obtain ⟨g54, hm⟩ := gd_some hm
          obtain ⟨g55, hm⟩ := gd_some hm
          cases hm
          refine rd_ret ?_
          refine rd_op ?_
          refine rd_op ?_
          refine rd_sl ?_
          refine rd_v rfl ?_
          refine rd_np ?_
          refine rd_pt ?_
          refine rd_v rfl ?_
          refine rd_i ?_
          refine rd_slS g52 ?_
          refine rd_v rfl ?_
          refine rd_catS g53 ?_
          refine rd_sl ?_
          refine rd_v rfl ?_
          refine rd_pt ?_
          refine rd_op ?_
          refine rd_v rfl ?_
          refine rd_c ?_
          refine rd_I0 ?_
          refine rd_i ?_
          refine rd_np ?_
          refine rd_slS g54 ?_
          refine rd_catS g55 ?_
          exact hQ _ _ _ S40 w41 rfl
        · skip
          cases hm
          refine rd_next ?_
          refine rd_ret ?_
          refine rd_v rfl ?_
          exact hQ _ _ _ S40 w41 rfl
def sp_Form_forms (K : PySem.W.Frag) : Sp := fun vs H Q _ => ∃ (F : Hp) (v_self : V) (a_self : (List Str)) (r : (List (List Str))), vs = [v_self] ∧ Same F H ∧ qForm.r K F v_self a_self ∧ m_Form_forms a_self = some r ∧ ∀ v F' H', Sx P0 F H F' H' → (qL qForm).r K F' v r → Q v H'
theorem sc_Form_forms : FnScope ["self"] ["self"] (defScope s_Form_forms) := ⟨rfl, rfl, rfl, by decide +kernel, rfl, by decide +kernel, by decide +kernel⟩
theorem bn_Form_forms (T : Tx K mg) : Binds K (fdOf K ("Form", some "forms")) ["self"] [] := FunD.bindsN T.F_Form_forms fun _ _ _ _ _ _ us hl => match us, hl with | [_], _ => rfl
theorem ok_Form_forms (T : Tx K mg) : FnOk P w K mg base CX0 1 (He.fAd K ("Form", some "forms")) (fdOf K ("Form", some "forms")) ["self"] (sp_Form_forms K) := by
  refine FunD.ok T.F_Form_forms sc_Form_forms (fun vs H0 Q E h => ?_) (fun cdv A outer s H0 vs Q E hr h => ?_)
  · obtain ⟨_, _, _, _, rfl, _⟩ := h
    rfl
  · obtain ⟨F0, v_self, a_self, r, rfl, hE, f_self, hm, hQ⟩ := h
    refine ⟨_, PSs.nox ((pss_one (ps_ret (pe_lst (pa_cons (pv 0) pa_nil))))), ?_⟩
    have S : Sx P0 F0 H0 F0 H0 := Sx.refl0 hE
    unfold m_Form_forms at hm
    refine rd_ret ?_
    refine rd_lst ?_
    refine rd_cons ?_
    refine rd_v rfl ?_
    refine rd_nil ?_
    refine rd_lK rfl ?_
    refine alL (K := K) (A := qForm) (xs := [a_self]) S (.cons f_self .nil) (fun v1 F2 H3 c4 f5 => ?_)
    have S6 := S.call0 c4
    have f_self := qForm.mono c4.le f_self
    cases hm
    exact hQ _ _ _ S6 f5
def sp_Form_holds (K : PySem.W.Frag) : Sp := fun vs H Q _ => ∃ (F : Hp) (v_self : V) (a_self : (List Str)) (v_truths : V) (a_truths : (List Bool)) (r : Bool), vs = [v_self, v_truths] ∧ Same F H ∧ qForm.r K F v_self a_self ∧ (qL qB).r K F v_truths a_truths ∧ m_Form_holds a_self a_truths = some r ∧ ∀ v F' H', Sx P0 F H F' H' → qB.r K F' v r → Q v H'
theorem sc_Form_holds : FnScope ["self", "truths"] ["self", "truths"] (defScope s_Form_holds) := ⟨rfl, rfl, rfl, by decide +kernel, rfl, by decide +kernel, by decide +kernel⟩
theorem bn_Form_holds (T : Tx K mg) : Binds K (fdOf K ("Form", some "holds")) ["self", "truths"] [] := FunD.bindsN T.F_Form_holds fun _ _ _ _ _ _ us hl => match us, hl with | [_, _], _ => rfl
theorem ok_Form_holds (T : Tx K mg) : FnOk P w K mg base CX0 1 (He.fAd K ("Form", some "holds")) (fdOf K ("Form", some "holds")) ["self", "truths"] (sp_Form_holds K) := by
  refine FunD.ok T.F_Form_holds sc_Form_holds (fun vs H0 Q E h => ?_) (fun cdv A outer s H0 vs Q E hr h => ?_)
  · obtain ⟨_, _, _, _, _, _, rfl, _⟩ := h
    rfl
  · obtain ⟨F0, v_self, a_self, v_truths, a_truths, r, rfl, hE, f_self, f_truths, hm, hQ⟩ := h
    refine ⟨_, PSs.nox ((pss_one (ps_ret (pe_ix (r := rIxL K) ix_list (pv 1) pe_int (fun _ _ => rfl))))), ?_⟩
    have S : Sx P0 F0 H0 F0 H0 := Sx.refl0 hE
    unfold m_Form_holds at hm
    obtain ⟨t1, e2, hm⟩ := bd_some hm
    refine rd_ret ?_
    refine rd_op ?_
    refine rd_v rfl ?_
    refine rd_c ?_
    refine rd_ixL (S.l f_truths).r e2 (fun u3 f4 => ?_)
    cases (show u3 = (V.bl (t1)) from f4)
    cases hm
    exact hQ _ _ _ S rfl
def sp_cells_of (K : PySem.W.Frag) : Sp := fun vs H Q _ => ∃ (F : Hp) (v_parts : V) (a_parts : (List Str)) (r : (List Str)), vs = [v_parts] ∧ Same F H ∧ (qQ qS).r K F v_parts a_parts ∧ m_cells_of a_parts = some r ∧ ∀ v F' H', Sx P0 F H F' H' → (qL qS).r K F' v r → Q v H'
theorem sc_cells_of : FnScope ["parts", "cells", "part"] ["parts"] (defScope s_cells_of) := ⟨rfl, rfl, rfl, by decide +kernel, rfl, by decide +kernel, by decide +kernel⟩
theorem bn_cells_of (T : Tx K mg) : Binds K (fdOf K ("cells_of", none)) ["parts"] [] := FunD.bindsN T.F_cells_of fun _ _ _ _ _ _ us hl => match us, hl with | [_], _ => rfl
theorem ok_cells_of (T : Tx K mg) : FnOk P w K mg base CX0 1 (He.ga K "cells_of") (fdOf K ("cells_of", none)) ["parts"] (sp_cells_of K) := by
  refine FunD.ok T.F_cells_of sc_cells_of (fun vs H0 Q E h => ?_) (fun cdv A outer s H0 vs Q E hr h => ?_)
  · obtain ⟨_, _, _, _, rfl, _⟩ := h
    rfl
  · obtain ⟨F0, v_parts, a_parts, r, rfl, hE, f_parts, hm, hQ⟩ := h
    refine ⟨_, PSs.nox ((pss_cons (ps_set (i := 1) sc_cells_of.nd rfl (by first | exact Or.inl rfl | exact Or.inr rfl) (pe_lst pa_nil)) (pss_cons (ps_for PassesOwn.never rfl (pi_seq (pv 0)) (pg_name (i := 2) sc_cells_of.nd rfl (by first | exact Or.inl rfl | exact Or.inr rfl)) (pss_one (ps_if (pt_cmpR (r := rIn K false) op_in_seq (pv 2) (pe_glob (v := V.ref (He.ga K "FREE_CELLS")) (by rfl) T.g_FREE_CELLS rfl) rfl) (pss_one (ps_expr (pe_bm PySem.F.plainAttrs_list PySem.F.slot_list_append PySem.F.type_list_append mt_append (pv 1) (pa_cons (pv 2) pa_nil)))) (pss_one (ps_expr (pe_bm PySem.F.plainAttrs_list PySem.F.slot_list_extend PySem.F.type_list_extend mt_extend (pv 1) (pa_cons (pe_callTy (cr_listS rfl) (by rfl) T.n_list (by decide +kernel) (pa_cons (pv 2) pa_nil)) pa_nil))))))) (pss_one (ps_ret (pv 1)))))), ?_⟩
    have S : Sx P0 F0 H0 F0 H0 := Sx.refl0 hE
    unfold m_cells_of at hm
    refine rd_seq ?_
    refine rd_asg ?_
    refine rd_lst ?_
    refine rd_nil ?_
    refine rd_lK rfl ?_
    refine al S (fun p1 H2 np3 c4 w5 => ?_)
    have z7 := S.free0 np3
    have S8 := S.call0 c4
    have f_parts := (qQ qS).mono c4.le f_parts
    refine rd_gn ?_
    refine rd_seq ?_
    refine rd_for ?_
    refine rd_wSeq S8 f_parts (by intro _ k; exact rd_v rfl k) (fun J9 n10 G11 it12 fd13 ty14 hg15 => ?_)
    have r16 : Row qS K F0 [] ([] : List Str) := .nil
    obtain ⟨t17, e18, hm⟩ := bd_some hm
    refine rd_forS fd13 ty14 e18 (fun (s19 : (List Str)) σ H => ∃ (F : Hp) (o2 : Option V) (vs0 : List V), σ = [some v_parts, some (V.ref p1), o2] ∧ Sx (fun a => a = p1) F0 H2 F H ∧ Ow (fun a => a = p1) H2 F H p1 (.lst vs0) ∧ Row qS K F vs0 s19) ?_ ?_ ?_ ?_
    · rintro _ _ _ ⟨_, _, _, _, S20, _, _⟩
      exact (hg15 _ _ S20.le S20.sub)
    · skip
      have S21 : Sx (fun a => a = p1) _ _ _ _ := Sx.refl S8.sub (fun a z => by rw [z, w5.at_]; exact (fun h => nomatch h))
      have w22 : Ow (fun a => a = p1) H2 _ _ _ _ := ⟨w5.fr, w5.at_, .inr (rfl)⟩
      exact ⟨F0, _, _, rfl, S21, w22, r16⟩
    · skip
      rintro x23 v24 s25 c29 σ26 H27 f28 ⟨F30, o32, v33, rfl, S31, w34, r35⟩ hm38
      have f_parts := (qQ qS).mono S31.le f_parts
      unfold m_cells_of_b1 at hm38
      cases (show v24 = (V.str (x23)) from f28)
      have f39 : (qT qS).r K F30 (.ref (He.ga K "FREE_CELLS")) (["<digits>", "<word>", "<any>"] : List Str) := T.q_FREE_CELLS _
      refine rd_gn ?_
      refine rd_ifS ?_
      refine rd_test ?_
      refine rd_op ?_
      refine rd_v rfl ?_
      refine rd_c ?_
      refine rd_inS (S31.t f39).q ?_
      refine rd_b ?_
      refine if_b hm38 (fun b40 hm38 => ?_) (fun b40 hm38 => ?_)
      · skip
        obtain ⟨g41, hm38⟩ := gd_some hm38
        refine rd_drop ?_
        refine rd_bm ?_
        refine rd_v rfl ?_
        refine rd_ty w34.ty ?_
        refine rd_cons ?_
        refine rd_v rfl ?_
        refine rd_nil ?_
        refine ap S31 w34 r35 g41 (fun H42 c43 w44 => ?_)
        have r45 := r35.snoc (show qS.r K F30 _ x23 from rfl)
        have S46 := S31.call1 c43 w34
        have f_parts := (qQ qS).mono c43.le f_parts
        have r45 := Row.mono c43.le r45
        cases hm38
        exact ⟨F30, _, _, rfl, S46, w44, r45⟩
      · skip
        obtain ⟨g47, hm38⟩ := gd_some hm38
        refine rd_drop ?_
        refine rd_bm ?_
        refine rd_v rfl ?_
        refine rd_ty w34.ty ?_
        refine rd_cons ?_
        refine rd_cb ?_
        refine rd_cons ?_
        refine rd_v rfl ?_
        refine rd_nil ?_
        refine rd_listS (K := K) (F := F30) g47 ?_
        refine alL' S31 (fun v48 F49 H50 c51 f52 => ?_)
        have S53 := S31.call0 c51
        have f_parts := (qQ qS).mono c51.le f_parts
        have r35 := Row.mono c51.le r35
        have w34 := w34.call0 c51
        obtain ⟨g54, hm38⟩ := gd_some hm38
        refine rd_nil ?_
        refine ex' S53 w34 r35 (S53.l f52) g54 (fun us55 H56 c57 w58 r59 => ?_)
        have S60 := S53.call1 c57 w34
        have f_parts := (qQ qS).mono c57.le f_parts
        have r59 := Row.mono c57.le r59
        cases hm38
        exact ⟨F49, _, _, rfl, S60, w58, r59⟩
    · skip
      rintro σ61 H62 ⟨F63, o65, v66, rfl, S64, w67, r68⟩
      have S69 := S8.call1 S64 w5
      have f_parts := (qQ qS).mono S64.le f_parts
      have w70 : Ow P0 H0 _ _ _ _ := ⟨w67.fr, w67.at_, w5.mine⟩
      obtain ⟨F71, S72, le73, f74, _, eq75⟩ := fz S69 w70 z7 r68
      have f_parts := (qQ qS).mono le73 f_parts
      cases hm
      refine rd_ret ?_
      refine rd_v rfl ?_
      exact hQ _ _ _ S72 f74
def sp_closed (K : PySem.W.Frag) : Sp := fun vs H Q _ => ∃ (F : Hp) (v_cells : V) (a_cells : (List Str)) (v_positions : V) (a_positions : (List Int)) (r : (List Int)), vs = [v_cells, v_positions] ∧ Same F H ∧ (qL qS).r K F v_cells a_cells ∧ (qQ qI).r K F v_positions a_positions ∧ m_closed a_cells a_positions = some r ∧ ∀ v F' H', Sx P0 F H F' H' → (qT qI).r K F' v r → Q v H'
theorem sc_closed : FnScope ["cells", "positions", "found", "at"] ["cells", "positions"] (defScope s_closed) := ⟨rfl, rfl, rfl, by decide +kernel, rfl, by decide +kernel, by decide +kernel⟩
theorem bn_closed (T : Tx K mg) : Binds K (fdOf K ("closed", none)) ["cells", "positions"] [] := FunD.bindsN T.F_closed fun _ _ _ _ _ _ us hl => match us, hl with | [_, _], _ => rfl
theorem ok_closed (T : Tx K mg) : FnOk P w K mg base CX0 1 (He.ga K "closed") (fdOf K ("closed", none)) ["cells", "positions"] (sp_closed K) := by
  refine FunD.ok T.F_closed sc_closed (fun vs H0 Q E h => ?_) (fun cdv A outer s H0 vs Q E hr h => ?_)
  · obtain ⟨_, _, _, _, _, _, rfl, _⟩ := h
    rfl
  · obtain ⟨F0, v_cells, a_cells, v_positions, a_positions, r, rfl, hE, f_cells, f_positions, hm, hQ⟩ := h
    refine ⟨_, PSs.nox ((pss_cons (ps_set (i := 2) sc_closed.nd rfl (by first | exact Or.inl rfl | exact Or.inr rfl) (pe_lst pa_nil)) (pss_cons (ps_for PassesOwn.never rfl (pi_range1 (by rfl) T.n_range (pa_cons (pe_op op_add (pe_callB (r := rLenQ K) cr_lenQ (by rfl) T.n_len (by decide +kernel) (pa_cons (pv 0) pa_nil)) pe_int) pa_nil)) (pg_name (i := 3) sc_closed.nd rfl (by first | exact Or.inl rfl | exact Or.inr rfl)) (pss_one (ps_if (PW.pt (pw_or (pt_cmpR (r := rIn K false) op_in_seq (pv 3) (pv 1) rfl) (pw_or1 (PW.pt (pw_and (pt_cmpR op_gt (pv 3) pe_int (nomark _)) (pw_and (pt_cmpR op_eqS (pe_ix (r := rIxL K) ix_list (pv 0) (pe_op op_sub (pv 3) pe_int) (fun _ _ => rfl)) (pe_glob (v := V.str "<any>") (by rfl) (T.k_ANY_CELL.choose_spec) ⟨_, rfl⟩) (nomark _)) (pw_and1 (pt_cmpR (r := rIn K false) op_in_seq (pe_op op_sub (pv 3) pe_int) (pv 2) rfl)))))))) (pss_one (ps_expr (pe_bm PySem.F.plainAttrs_list PySem.F.slot_list_append PySem.F.type_list_append mt_append (pv 2) (pa_cons (pv 3) pa_nil)))) pss_nil))) (pss_one (ps_ret (pe_tupleOf (by rfl) T.n_tuple (pv 2))))))), ?_⟩
    have S : Sx P0 F0 H0 F0 H0 := Sx.refl0 hE
    unfold m_closed at hm
    refine rd_seq ?_
    refine rd_asg ?_
    refine rd_lst ?_
    refine rd_nil ?_
    refine rd_lK rfl ?_
    refine al S (fun p1 H2 np3 c4 w5 => ?_)
    have z7 := S.free0 np3
    have S8 := S.call0 c4
    have f_cells := (qL qS).mono c4.le f_cells
    have f_positions := (qQ qI).mono c4.le f_positions
    obtain ⟨g9, hm⟩ := gd_some hm
    refine rd_gn ?_
    refine rd_seq ?_
    refine rd_for ?_
    refine rd_iR1 ?_
    refine rd_cons ?_
    refine rd_op ?_
    refine rd_cb ?_
    refine rd_cons ?_
    refine rd_v rfl ?_
    refine rd_nil ?_
    refine rd_lenQ (S8.l f_cells).r.q ?_
    refine rd_c ?_
    refine rd_I0 ?_
    refine rd_nil ?_
    refine rd_r1 g9 ?_
    have r10 : Row qI K F0 [] ([] : List Int) := .nil
    obtain ⟨t11, e12, hm⟩ := bd_some hm
    refine rd_forS feedsRg (typedR (K := K) (F := F0)) e12 (fun (s13 : (List Int)) σ H => ∃ (F : Hp) (o3 : Option V) (vs0 : List V), σ = [some v_cells, some v_positions, some (V.ref p1), o3] ∧ Sx (fun a => a = p1) F0 H2 F H ∧ Ow (fun a => a = p1) H2 F H p1 (.lst vs0) ∧ Row qI K F vs0 s13) ?_ ?_ ?_ ?_
    · intro _ _ _ _; trivial
    · skip
      have S15 : Sx (fun a => a = p1) _ _ _ _ := Sx.refl S8.sub (fun a z => by rw [z, w5.at_]; exact (fun h => nomatch h))
      have w16 : Ow (fun a => a = p1) H2 _ _ _ _ := ⟨w5.fr, w5.at_, .inr (rfl)⟩
      exact ⟨F0, _, _, rfl, S15, w16, r10⟩
    · skip
      rintro x17 v18 s19 c23 σ20 H21 f22 ⟨F24, o26, v27, rfl, S25, w28, r29⟩ hm32
      have f_cells := (qL qS).mono S25.le f_cells
      have f_positions := (qQ qI).mono S25.le f_positions
      unfold m_closed_b1 at hm32
      cases (show v18 = (V.int (x17)) from f22)
      obtain ⟨t53, e54, hm32⟩ := bd_some hm32
      refine rd_gn ?_
      refine rd_ifS ?_
      refine rd_or ?_
      refine rd_test ?_
      refine rd_op ?_
      refine rd_v rfl ?_
      refine rd_v rfl ?_
      refine rd_inI (S25.q f_positions) ?_
      refine rd_b ?_
      refine or_j (fun c H' => c = t53 ∧ ∃ F', Sx P0 F24 H21 F' H') ?_ ?_ ?_
      · intro b55 Q56 q57
        have e54 := if_f e54 b55
        have S58 := Sx.refl0 S25.sub
        obtain ⟨t63, e64, e54⟩ := bd_some e54
        refine rd_and ?_
        refine rd_test ?_
        refine rd_op ?_
        refine rd_v rfl ?_
        refine rd_c ?_
        refine rd_I0 ?_
        refine rd_b ?_
        refine and_j (fun c H' => c = t63 ∧ ∃ F', Sx P0 F24 H21 F' H') ?_ ?_ ?_
        · intro b65 Q66 q67
          have e64 := if_t e64 b65
          have S68 := Sx.refl0 S58.sub
          obtain ⟨t69, e70, e64⟩ := bd_some e64
          refine rd_and ?_
          refine rd_test ?_
          refine rd_op ?_
          refine rd_op ?_
          refine rd_v rfl ?_
          refine rd_op ?_
          refine rd_v rfl ?_
          refine rd_c ?_
          refine rd_I0 ?_
          refine rd_ixL (S68.l f_cells).r e70 (fun u71 f72 => ?_)
          cases (show u71 = (V.str (t69)) from f72)
          cases e64
          refine rd_c ?_
          refine rd_S0 ?_
          refine rd_b ?_
          refine and_p (by intro _ Q' q; refine rd_test ?_; refine rd_op ?_; refine rd_op ?_; refine rd_v rfl ?_; refine rd_c ?_; refine rd_I0 ?_; refine rd_v rfl ?_; refine rd_inI (w28.l r29).r.q ?_; refine rd_b ?_; exact q) ?_
          exact q67 _ _ ⟨rfl, F24, S68⟩
        · intro b65
          have e64 := if_f e64 b65
          cases e64
          have S73 := Sx.refl0 S58.sub
          exact ⟨rfl, F24, S73⟩
        rintro b77 H75 ⟨rfl, F74, c76⟩
        have S78 := S58.call0 c76
        have f_cells := (qL qS).mono c76.le f_cells
        have f_positions := (qQ qI).mono c76.le f_positions
        have r29 := Row.mono c76.le r29
        have w28 := w28.call0 c76
        cases e54
        exact q57 _ _ ⟨rfl, F74, S78⟩
      · intro b55
        have e54 := if_t e54 b55
        cases e54
        have S79 := Sx.refl0 S25.sub
        exact ⟨rfl, F24, S79⟩
      rintro b83 H81 ⟨rfl, F80, c82⟩
      have S84 := S25.call0 c82
      have f_cells := (qL qS).mono c82.le f_cells
      have f_positions := (qQ qI).mono c82.le f_positions
      have r29 := Row.mono c82.le r29
      have w28 := w28.call0 c82
      refine if_b hm32 (fun b85 hm32 => ?_) (fun b85 hm32 => ?_)
      · skip
        obtain ⟨g86, hm32⟩ := gd_some hm32
        refine rd_drop ?_
        refine rd_bm ?_
        refine rd_v rfl ?_
        refine rd_ty w28.ty ?_
        refine rd_cons ?_
        refine rd_v rfl ?_
        refine rd_nil ?_
        refine ap S84 w28 r29 g86 (fun H87 c88 w89 => ?_)
        have r90 := r29.snoc (show qI.r K F80 _ x17 from rfl)
        have S91 := S84.call1 c88 w28
        have f_cells := (qL qS).mono c88.le f_cells
        have f_positions := (qQ qI).mono c88.le f_positions
        have r90 := Row.mono c88.le r90
        cases hm32
        exact ⟨F80, _, _, rfl, S91, w89, r90⟩
      · skip
        cases hm32
        refine rd_next ?_
        exact ⟨F80, _, _, rfl, S84, w28, r29⟩
    · skip
      rintro σ92 H93 ⟨F94, o96, v97, rfl, S95, w98, r99⟩
      have S100 := S8.call1 S95 w5
      have f_cells := (qL qS).mono S95.le f_cells
      have f_positions := (qQ qI).mono S95.le f_positions
      have w101 : Ow P0 H0 _ _ _ _ := ⟨w98.fr, w98.at_, w5.mine⟩
      refine rd_ret ?_
      refine rd_thn ?_
      refine rd_v rfl ?_
      refine rd_tuple (w101.l r99).r ?_
      refine alT' S100 (fun v102 F103 H104 c105 f106 => ?_)
      have S107 := S100.call0 c105
      have f_cells := (qL qS).mono c105.le f_cells
      have f_positions := (qQ qI).mono c105.le f_positions
      have r99 := Row.mono c105.le r99
      have w101 := w101.call0 c105
      cases hm
      exact hQ _ _ _ S107 f106
def sp_started (K : PySem.W.Frag) : Sp := fun vs H Q _ => ∃ (F : Hp) (v_cells : V) (a_cells : (List Str)) (r : (List Int)), vs = [v_cells] ∧ Same F H ∧ (qL qS).r K F v_cells a_cells ∧ m_started a_cells = some r ∧ ∀ v F' H', Sx P0 F H F' H' → (qT qI).r K F' v r → Q v H'
theorem sc_started : FnScope ["cells"] ["cells"] (defScope s_started) := ⟨rfl, rfl, rfl, by decide +kernel, rfl, by decide +kernel, by decide +kernel⟩
theorem bn_started (T : Tx K mg) : Binds K (fdOf K ("started", none)) ["cells"] [] := FunD.bindsN T.F_started fun _ _ _ _ _ _ us hl => match us, hl with | [_], _ => rfl
theorem ok_started (T : Tx K mg) : FnOk P w K mg base CX0 2 (He.ga K "started") (fdOf K ("started", none)) ["cells"] (sp_started K) := by
  refine FunD.ok T.F_started sc_started (fun vs H0 Q E h => ?_) (fun cdv A outer s H0 vs Q E hr h => ?_)
  · obtain ⟨_, _, _, _, rfl, _⟩ := h
    rfl
  · obtain ⟨F0, v_cells, a_cells, r, rfl, hE, f_cells, hm, hQ⟩ := h
    refine ⟨_, PSs.nox ((pss_one (ps_ret (pe_call (ok_closed T) (hr.mono (by decide)) (by rfl) T.g_closed T.F_closed.kp (bn_closed T) .nil pass0 (pa_cons (pv 0) (pa_cons (pe_lst (pa_cons pe_int pa_nil)) pa_nil)))))), ?_⟩
    have S : Sx P0 F0 H0 F0 H0 := Sx.refl0 hE
    unfold m_started at hm
    refine rd_ret ?_
    refine rd_call ?_
    refine rd_cons ?_
    refine rd_v rfl ?_
    refine rd_cons ?_
    refine rd_lst ?_
    refine rd_cons ?_
    refine rd_c ?_
    refine rd_nil ?_
    refine rd_lK rfl ?_
    refine alL (K := K) (A := qI) (xs := [0]) S (.cons rfl .nil) (fun v1 F2 H3 c4 f5 => ?_)
    have S6 := S.call0 c4
    have f_cells := (qL qS).mono c4.le f_cells
    obtain ⟨t7, e8, hm⟩ := bd_some hm
    refine rd_nil ?_
    refine ⟨F2, _, _, _, _, t7, rfl, S6.sub, f_cells, (.inl f5), e8, fun v12 F9 H10 c11 f13 => ?_⟩
    have S14 := S6.call0 c11
    have f_cells := (qL qS).mono c11.le f_cells
    cases hm
    exact hQ _ _ _ S14 f13
def sp_Form_parts (K : PySem.W.Frag) : Sp := fun vs H Q _ => ∃ (F : Hp) (v_self : V) (a_self : (List Str)) (r : (List Str)), vs = [v_self] ∧ Same F H ∧ qForm.r K F v_self a_self ∧ m_Form_parts a_self = some r ∧ ∀ v F' H', Sx P0 F H F' H' → (qT qS).r K F' v r → Q v H'
theorem sc_Form_parts : FnScope ["self"] ["self"] (defScope s_Form_parts) := ⟨rfl, rfl, rfl, by decide +kernel, rfl, by decide +kernel, by decide +kernel⟩
theorem bn_Form_parts (T : Tx K mg) : Binds K (fdOf K ("Form", some "parts")) ["self"] [] := FunD.bindsN T.F_Form_parts fun _ _ _ _ _ _ us hl => match us, hl with | [_], _ => rfl
theorem ok_Form_parts (T : Tx K mg) : FnOk P w K mg base CX0 1 (He.fAd K ("Form", some "parts")) (fdOf K ("Form", some "parts")) ["self"] (sp_Form_parts K) := by
  refine FunD.ok T.F_Form_parts sc_Form_parts (fun vs H0 Q E h => ?_) (fun cdv A outer s H0 vs Q E hr h => ?_)
  · obtain ⟨_, _, _, _, rfl, _⟩ := h
    rfl
  · obtain ⟨F0, v_self, a_self, r, rfl, hE, f_self, hm, hQ⟩ := h
    refine ⟨_, PSs.nox ((pss_one (ps_ret (pe_fldK (pv 0) rfl)))), ?_⟩
    have S : Sx P0 F0 H0 F0 H0 := Sx.refl0 hE
    unfold m_Form_parts at hm
    refine rd_ret ?_
    refine rd_fld ?_
    refine rd_v rfl ?_
    refine fld_Form_pieces T S f_self (fun u1 f2 => ?_)
    cases hm
    exact hQ _ _ _ S f2
def sp_takes (K : PySem.W.Frag) : Sp := fun vs H Q _ => ∃ (F : Hp) (a_cell : Str) (a_sign : Str) (r : Bool), vs = [(V.str (a_cell)), (V.str (a_sign))] ∧ Same F H ∧ m_takes a_cell a_sign = some r ∧ ∀ v F' H', Sx P0 F H F' H' → qB.r K F' v r → Q v H'
theorem sc_takes : FnScope ["cell", "sign"] ["cell", "sign"] (defScope s_takes) := ⟨rfl, rfl, rfl, by decide +kernel, rfl, by decide +kernel, by decide +kernel⟩
theorem bn_takes (T : Tx K mg) : Binds K (fdOf K ("takes", none)) ["cell", "sign"] [] := FunD.bindsN T.F_takes fun _ _ _ _ _ _ us hl => match us, hl with | [_, _], _ => rfl
theorem ok_takes (T : Tx K mg) : FnOk P w K mg base CX0 1 (He.ga K "takes") (fdOf K ("takes", none)) ["cell", "sign"] (sp_takes K) := by
  refine FunD.ok T.F_takes sc_takes (fun vs H0 Q E h => ?_) (fun cdv A outer s H0 vs Q E hr h => ?_)
  · obtain ⟨_, _, _, _, rfl, _⟩ := h
    rfl
  · obtain ⟨F0, a_cell, a_sign, r, rfl, hE, hm, hQ⟩ := h
    refine ⟨_, PSs.nox ((pss_cons (ps_if (pt_cmpR op_eqS (pv 0) (pe_glob (v := V.str "<any>") (by rfl) (T.k_ANY_CELL.choose_spec) ⟨_, rfl⟩) (nomark _)) (pss_one (ps_ret pe_bl)) pss_nil) (pss_cons (ps_if (pt_cmpR op_eqS (pv 0) (pe_glob (v := V.str "<digits>") (by rfl) (T.k_DIGITS_CELL.choose_spec) ⟨_, rfl⟩) (nomark _)) (pss_one (ps_ret (pe_cmpR op_inS (pv 1) (pe_glob (v := V.str "0123456789") (by rfl) (T.k_DIGIT_SIGNS.choose_spec) ⟨_, rfl⟩) rfl))) pss_nil) (pss_cons (ps_if (pt_cmpR op_eqS (pv 0) (pe_glob (v := V.str "<word>") (by rfl) (T.k_WORD_CELL.choose_spec) ⟨_, rfl⟩) (nomark _)) (pss_one (ps_ret (pe_cmpR op_inS (pv 1) (pe_glob (v := V.str "ABCDEFGHIJKLMNOPQRSTUVWXYZabcdefghijklmnopqrstuvwxyz") (by rfl) (T.k_LETTER_SIGNS.choose_spec) ⟨_, rfl⟩) rfl))) pss_nil) (pss_one (ps_ret (pe_cmpR op_eqS (pv 0) (pv 1) (nomark _)))))))), ?_⟩
    have S : Sx P0 F0 H0 F0 H0 := Sx.refl0 hE
    unfold m_takes at hm
    refine rd_seq ?_
    refine rd_ifS ?_
    refine rd_test ?_
    refine rd_op ?_
    refine rd_v rfl ?_
    refine rd_c ?_
    refine rd_S0 ?_
    refine rd_b ?_
    refine if_b hm (fun b1 hm => ?_) (fun b1 hm => ?_)
    · skip
      cases hm
      refine rd_ret ?_
      refine rd_c ?_
      exact hQ _ _ _ S rfl
    · skip
      refine rd_next ?_
      refine rd_seq ?_
      refine rd_ifS ?_
      refine rd_test ?_
      refine rd_op ?_
      refine rd_v rfl ?_
      refine rd_c ?_
      refine rd_S0 ?_
      refine rd_b ?_
      refine if_b hm (fun b2 hm => ?_) (fun b2 hm => ?_)
      · skip
        cases hm
        refine rd_ret ?_
        refine rd_op ?_
        refine rd_v rfl ?_
        refine rd_c ?_
        refine rd_inSS ?_
        exact hQ _ _ _ S rfl
      · skip
        refine rd_next ?_
        refine rd_seq ?_
        refine rd_ifS ?_
        refine rd_test ?_
        refine rd_op ?_
        refine rd_v rfl ?_
        refine rd_c ?_
        refine rd_S0 ?_
        refine rd_b ?_
        refine if_b hm (fun b3 hm => ?_) (fun b3 hm => ?_)
        · skip
          cases hm
          refine rd_ret ?_
          refine rd_op ?_
          refine rd_v rfl ?_
          refine rd_c ?_
          refine rd_inSS ?_
          exact hQ _ _ _ S rfl
        · skip
          cases hm
          refine rd_next ?_
          refine rd_ret ?_
          refine rd_op ?_
          refine rd_v rfl ?_
          refine rd_v rfl ?_
          refine rd_S0 ?_
          exact hQ _ _ _ S rfl
def sp_moved (K : PySem.W.Frag) : Sp := fun vs H Q _ => ∃ (F : Hp) (v_cells : V) (a_cells : (List Str)) (v_positions : V) (a_positions : (List Int)) (a_sign : Str) (r : (List Int)), vs = [v_cells, v_positions, (V.str (a_sign))] ∧ Same F H ∧ (qL qS).r K F v_cells a_cells ∧ (qQ qI).r K F v_positions a_positions ∧ m_moved a_cells a_positions a_sign = some r ∧ ∀ v F' H', Sx P0 F H F' H' → (qT qI).r K F' v r → Q v H'
theorem sc_moved : FnScope ["cells", "positions", "sign", "found", "at"] ["cells", "positions", "sign"] (defScope s_moved) := ⟨rfl, rfl, rfl, by decide +kernel, rfl, by decide +kernel, by decide +kernel⟩
theorem bn_moved (T : Tx K mg) : Binds K (fdOf K ("moved", none)) ["cells", "positions", "sign"] [] := FunD.bindsN T.F_moved fun _ _ _ _ _ _ us hl => match us, hl with | [_, _, _], _ => rfl
theorem ok_moved (T : Tx K mg) : FnOk P w K mg base CX0 2 (He.ga K "moved") (fdOf K ("moved", none)) ["cells", "positions", "sign"] (sp_moved K) := by
  refine FunD.ok T.F_moved sc_moved (fun vs H0 Q E h => ?_) (fun cdv A outer s H0 vs Q E hr h => ?_)
  · obtain ⟨_, _, _, _, _, _, _, rfl, _⟩ := h
    rfl
  · obtain ⟨F0, v_cells, a_cells, v_positions, a_positions, a_sign, r, rfl, hE, f_cells, f_positions, hm, hQ⟩ := h
    refine ⟨_, PSs.nox ((pss_cons (ps_set (i := 3) sc_moved.nd rfl (by first | exact Or.inl rfl | exact Or.inr rfl) (pe_lst pa_nil)) (pss_cons (ps_for PassesOwn.never rfl (pi_seq (pv 1)) (pg_name (i := 4) sc_moved.nd rfl (by first | exact Or.inl rfl | exact Or.inr rfl)) (C8.pss_cut (ps_if (PW.pt (pw_and (pt_cmpR op_lt (pv 4) (pe_callB (r := rLenQ K) cr_lenQ (by rfl) T.n_len (by decide +kernel) (pa_cons (pv 0) pa_nil)) (nomark _)) (pw_and1 (pt_val (pe_call (ok_takes T) (hr.mono (by decide)) (by rfl) T.g_takes T.F_takes.kp (bn_takes T) .nil pass0 (pa_cons (pe_ix (r := rIxL K) ix_list (pv 0) (pv 4) (fun _ _ => rfl)) (pa_cons (pv 2) pa_nil))))))) (pss_one (ps_expr (pe_bm PySem.F.plainAttrs_list PySem.F.slot_list_append PySem.F.type_list_append mt_append (pv 3) (pa_cons (pe_ifExp (pt_cmpR op_eqS (pe_ix (r := rIxL K) ix_list (pv 0) (pv 4) (fun _ _ => rfl)) (pe_glob (v := V.str "<any>") (by rfl) (T.k_ANY_CELL.choose_spec) ⟨_, rfl⟩) (nomark _)) (pv 4) (pe_op op_add (pv 4) pe_int)) pa_nil)))) pss_nil) (pss_one (ps_if (PW.pt (pw_and (pt_cmpR op_gt (pv 4) pe_int (nomark _)) (pw_and (pt_cmpR (r := rIn K false) op_in_seq (pe_ix (r := rIxL K) ix_list (pv 0) (pe_op op_sub (pv 4) pe_int) (fun _ _ => rfl)) (pe_tup (pa_cons (pe_glob (v := V.str "<digits>") (by rfl) (T.k_DIGITS_CELL.choose_spec) ⟨_, rfl⟩) (pa_cons (pe_glob (v := V.str "<word>") (by rfl) (T.k_WORD_CELL.choose_spec) ⟨_, rfl⟩) pa_nil))) rfl) (pw_and1 (pt_val (pe_call (ok_takes T) (hr.mono (by decide)) (by rfl) T.g_takes T.F_takes.kp (bn_takes T) .nil pass0 (pa_cons (pe_ix (r := rIxL K) ix_list (pv 0) (pe_op op_sub (pv 4) pe_int) (fun _ _ => rfl)) (pa_cons (pv 2) pa_nil)))))))) (pss_one (ps_expr (pe_bm PySem.F.plainAttrs_list PySem.F.slot_list_append PySem.F.type_list_append mt_append (pv 3) (pa_cons (pv 4) pa_nil)))) pss_nil)))) (pss_one (ps_ret (pe_call (ok_closed T) (hr.mono (by decide)) (by rfl) T.g_closed T.F_closed.kp (bn_closed T) .nil pass0 (pa_cons (pv 0) (pa_cons (pv 3) pa_nil)))))))), ?_⟩
    have S : Sx P0 F0 H0 F0 H0 := Sx.refl0 hE
    unfold m_moved at hm
    refine rd_seq ?_
    refine rd_asg ?_
    refine rd_lst ?_
    refine rd_nil ?_
    refine rd_lK rfl ?_
    refine al S (fun p1 H2 np3 c4 w5 => ?_)
    have z7 := S.free0 np3
    have S8 := S.call0 c4
    have f_cells := (qL qS).mono c4.le f_cells
    have f_positions := (qQ qI).mono c4.le f_positions
    refine rd_gn ?_
    refine rd_seq ?_
    refine rd_for ?_
    refine rd_wSeq S8 f_positions (by intro _ k; exact rd_v rfl k) (fun J9 n10 G11 it12 fd13 ty14 hg15 => ?_)
    have r16 : Row qI K F0 [] ([] : List Int) := .nil
    obtain ⟨t17, e18, hm⟩ := bd_some hm
    refine rd_forS fd13 ty14 e18 (fun (s19 : (List Int)) σ H => ∃ (F : Hp) (o4 : Option V) (vs0 : List V), σ = [some v_cells, some v_positions, some (V.str (a_sign)), some (V.ref p1), o4] ∧ Sx (fun a => a = p1) F0 H2 F H ∧ Ow (fun a => a = p1) H2 F H p1 (.lst vs0) ∧ Row qI K F vs0 s19) ?_ ?_ ?_ ?_
    · rintro _ _ _ ⟨_, _, _, _, S20, _, _⟩
      exact (hg15 _ _ S20.le S20.sub)
    · skip
      have S21 : Sx (fun a => a = p1) _ _ _ _ := Sx.refl S8.sub (fun a z => by rw [z, w5.at_]; exact (fun h => nomatch h))
      have w22 : Ow (fun a => a = p1) H2 _ _ _ _ := ⟨w5.fr, w5.at_, .inr (rfl)⟩
      exact ⟨F0, _, _, rfl, S21, w22, r16⟩
    · skip
      rintro x23 v24 s25 c29 σ26 H27 f28 ⟨F30, o32, v33, rfl, S31, w34, r35⟩ hm38
      have f_cells := (qL qS).mono S31.le f_cells
      have f_positions := (qQ qI).mono S31.le f_positions
      unfold m_moved_b1 at hm38
      cases (show v24 = (V.int (x23)) from f28)
      obtain ⟨t39, e40, hm38⟩ := bd_some hm38
      refine rd_gn ?_
      refine rd_cut (fun σ' H' => ∃ (F : Hp) (vs0 : List V), σ' = [some v_cells, some v_positions, some (V.str (a_sign)), some (V.ref p1), some (V.int (x23))] ∧ Sx (fun a => a = p1) F30 H27 F H' ∧ Ow (fun a => a = p1) H27 F H' p1 (.lst vs0) ∧ Row qI K F vs0 t39) ?_ ?_
      · skip
        have S41 : Sx (fun a => a = p1) _ _ _ _ := Sx.refl S31.sub (fun a z => by rw [z, w34.at_]; exact (fun h => nomatch h))
        have w42 : Ow (fun a => a = p1) H27 _ _ _ _ := ⟨w34.fr, w34.at_, .inr (rfl)⟩
        obtain ⟨t55, e56, e40⟩ := bd_some e40
        refine rd_ifS ?_
        refine rd_and ?_
        refine rd_test ?_
        refine rd_op ?_
        refine rd_v rfl ?_
        refine rd_cb ?_
        refine rd_cons ?_
        refine rd_v rfl ?_
        refine rd_nil ?_
        refine rd_lenQ (S41.l f_cells).r.q ?_
        refine rd_I0 ?_
        refine rd_b ?_
        refine and_j (fun c H' => c = t55 ∧ ∃ F', Sx P0 F30 H27 F' H') ?_ ?_ ?_
        · intro b57 Q58 q59
          have e56 := if_t e56 b57
          have S60 := Sx.refl0 S41.sub
          obtain ⟨t61, e62, e56⟩ := bd_some e56
          refine rd_tB ?_
          refine rd_call ?_
          refine rd_cons ?_
          refine rd_op ?_
          refine rd_v rfl ?_
          refine rd_v rfl ?_
          refine rd_ixL (S60.l f_cells).r e62 (fun u63 f64 => ?_)
          cases (show u63 = (V.str (t61)) from f64)
          obtain ⟨t65, e66, e56⟩ := bd_some e56
          refine rd_cons ?_
          refine rd_v rfl ?_
          refine rd_nil ?_
          refine ⟨F30, _, _, t65, rfl, S60.sub, e66, fun v70 F67 H68 c69 f71 => ?_⟩
          have S72 := S60.call0 c69
          have f_cells := (qL qS).mono c69.le f_cells
          have f_positions := (qQ qI).mono c69.le f_positions
          have r35 := Row.mono c69.le r35
          have w42 := w42.call0 c69
          cases (show v70 = (V.bl (t65)) from f71)
          cases e56
          refine rd_b ?_
          exact q59 _ _ ⟨rfl, F67, S72⟩
        · intro b57
          have e56 := if_f e56 b57
          cases e56
          have S73 := Sx.refl0 S41.sub
          exact ⟨rfl, F30, S73⟩
        rintro b77 H75 ⟨rfl, F74, c76⟩
        have S78 := S41.call0 c76
        have f_cells := (qL qS).mono c76.le f_cells
        have f_positions := (qQ qI).mono c76.le f_positions
        have r35 := Row.mono c76.le r35
        have w42 := w42.call0 c76
        refine if_b e40 (fun b79 e40 => ?_) (fun b79 e40 => ?_)
        · skip
          obtain ⟨t80, e81, e40⟩ := bd_some e40
          refine rd_drop ?_
          refine rd_bm ?_
          refine rd_v rfl ?_
          refine rd_ty w42.ty ?_
          refine rd_cons ?_
          refine rd_ifE ?_
          refine rd_test ?_
          refine rd_op ?_
          refine rd_op ?_
          refine rd_v rfl ?_
          refine rd_v rfl ?_
          refine rd_ixL (S78.l f_cells).r e81 (fun u82 f83 => ?_)
          cases (show u82 = (V.str (t80)) from f83)
          obtain ⟨t84, e85, e40⟩ := bd_some e40
          refine rd_c ?_
          refine rd_S0 ?_
          refine rd_b ?_
          refine ifE_j (fun c H' => ∃ F', c = (V.int (t84)) ∧ Sx P0 F74 H75 F' H') ?_ ?_ ?_
          · intro b86 Q87 q88
            have hm89 := if_t e85 b86
            have S90 := Sx.refl0 S78.sub
            cases hm89
            refine rd_v rfl ?_
            exact q88 _ _ ⟨F74, rfl, S90⟩
          · intro b91 Q92 q93
            have hm94 := if_f e85 b91
            have S95 := Sx.refl0 S78.sub
            cases hm94
            refine rd_op ?_
            refine rd_v rfl ?_
            refine rd_c ?_
            refine rd_I0 ?_
            exact q93 _ _ ⟨F74, rfl, S95⟩
          rintro v99 H97 ⟨F96, f100, c98⟩
          have S101 := S78.call0 c98
          have f_cells := (qL qS).mono c98.le f_cells
          have f_positions := (qQ qI).mono c98.le f_positions
          have r35 := Row.mono c98.le r35
          have w42 := w42.call0 c98
          cases (show v99 = (V.int (t84)) from f100)
          obtain ⟨g102, e40⟩ := gd_some e40
          refine rd_nil ?_
          refine ap S101 w42 r35 g102 (fun H103 c104 w105 => ?_)
          have r106 := r35.snoc (show qI.r K F96 _ t84 from rfl)
          have S107 := S101.call1 c104 w42
          have f_cells := (qL qS).mono c104.le f_cells
          have f_positions := (qQ qI).mono c104.le f_positions
          have r106 := Row.mono c104.le r106
          cases e40
          exact ⟨F96, _, rfl, S107, w105, r106⟩
        · skip
          cases e40
          refine rd_next ?_
          exact ⟨F74, _, rfl, S78, w42, r35⟩
      · skip
        rintro σ109 H108 ⟨F110, v112, rfl, S111, w113, r114⟩
        have S115 := S31.call1 S111 w34
        have f_cells := (qL qS).mono S111.le f_cells
        have f_positions := (qQ qI).mono S111.le f_positions
        have w116 : Ow (fun a => a = p1) H2 _ _ _ _ := ⟨w113.fr, w113.at_, w34.mine⟩
        obtain ⟨t163, e164, hm38⟩ := bd_some hm38
        refine rd_ifS ?_
        refine rd_and ?_
        refine rd_test ?_
        refine rd_op ?_
        refine rd_v rfl ?_
        refine rd_c ?_
        refine rd_I0 ?_
        refine rd_b ?_
        refine and_j (fun c H' => c = t163 ∧ ∃ F', Sx P0 F110 H108 F' H') ?_ ?_ ?_
        · intro b165 Q166 q167
          have e164 := if_t e164 b165
          have S168 := Sx.refl0 S115.sub
          obtain ⟨t169, e170, e164⟩ := bd_some e164
          refine rd_and ?_
          refine rd_test ?_
          refine rd_op ?_
          refine rd_op ?_
          refine rd_v rfl ?_
          refine rd_op ?_
          refine rd_v rfl ?_
          refine rd_c ?_
          refine rd_I0 ?_
          refine rd_ixL (S168.l f_cells).r e170 (fun u171 f172 => ?_)
          cases (show u171 = (V.str (t169)) from f172)
          refine rd_tup ?_
          refine rd_cons ?_
          refine rd_c ?_
          refine rd_cons ?_
          refine rd_c ?_
          refine rd_nil ?_
          refine rd_uK rfl ?_
          refine alT (K := K) (A := qS) (xs := [("<digits>" : Str), ("<word>" : Str)]) S168 (.cons rfl (.cons rfl .nil)) (fun v173 F174 H175 c176 f177 => ?_)
          have S178 := S168.call0 c176
          have f_cells := (qL qS).mono c176.le f_cells
          have f_positions := (qQ qI).mono c176.le f_positions
          have r114 := Row.mono c176.le r114
          have w116 := w116.call0 c176
          obtain ⟨t191, e192, e164⟩ := bd_some e164
          refine rd_inS (S178.t f177).q ?_
          refine rd_b ?_
          refine and_j (fun c H' => c = t191 ∧ ∃ F', Sx P0 F174 H175 F' H') ?_ ?_ ?_
          · intro b193 Q194 q195
            have e192 := if_t e192 b193
            have S196 := Sx.refl0 S178.sub
            obtain ⟨t197, e198, e192⟩ := bd_some e192
            refine rd_tB ?_
            refine rd_call ?_
            refine rd_cons ?_
            refine rd_op ?_
            refine rd_v rfl ?_
            refine rd_op ?_
            refine rd_v rfl ?_
            refine rd_c ?_
            refine rd_I0 ?_
            refine rd_ixL (S196.l f_cells).r e198 (fun u199 f200 => ?_)
            cases (show u199 = (V.str (t197)) from f200)
            obtain ⟨t201, e202, e192⟩ := bd_some e192
            refine rd_cons ?_
            refine rd_v rfl ?_
            refine rd_nil ?_
            refine ⟨F174, _, _, t201, rfl, S196.sub, e202, fun v206 F203 H204 c205 f207 => ?_⟩
            have S208 := S196.call0 c205
            have f_cells := (qL qS).mono c205.le f_cells
            have f_positions := (qQ qI).mono c205.le f_positions
            have r114 := Row.mono c205.le r114
            have w116 := w116.call0 c205
            cases (show v206 = (V.bl (t201)) from f207)
            cases e192
            refine rd_b ?_
            exact q195 _ _ ⟨rfl, F203, S208⟩
          · intro b193
            have e192 := if_f e192 b193
            cases e192
            have S209 := Sx.refl0 S178.sub
            exact ⟨rfl, F174, S209⟩
          rintro b213 H211 ⟨rfl, F210, c212⟩
          have S214 := S178.call0 c212
          have f_cells := (qL qS).mono c212.le f_cells
          have f_positions := (qQ qI).mono c212.le f_positions
          have r114 := Row.mono c212.le r114
          have w116 := w116.call0 c212
          cases e164
          exact q167 _ _ ⟨rfl, F210, S214⟩
        · intro b165
          have e164 := if_f e164 b165
          cases e164
          have S215 := Sx.refl0 S115.sub
          exact ⟨rfl, F110, S215⟩
        rintro b219 H217 ⟨rfl, F216, c218⟩
        have S220 := S115.call0 c218
        have f_cells := (qL qS).mono c218.le f_cells
        have f_positions := (qQ qI).mono c218.le f_positions
        have r114 := Row.mono c218.le r114
        have w116 := w116.call0 c218
        refine if_b hm38 (fun b221 hm38 => ?_) (fun b221 hm38 => ?_)
        · skip
          obtain ⟨g222, hm38⟩ := gd_some hm38
          refine rd_drop ?_
          refine rd_bm ?_
          refine rd_v rfl ?_
          refine rd_ty w116.ty ?_
          refine rd_cons ?_
          refine rd_v rfl ?_
          refine rd_nil ?_
          refine ap S220 w116 r114 g222 (fun H223 c224 w225 => ?_)
          have r226 := r114.snoc (show qI.r K F216 _ x23 from rfl)
          have S227 := S220.call1 c224 w116
          have f_cells := (qL qS).mono c224.le f_cells
          have f_positions := (qQ qI).mono c224.le f_positions
          have r226 := Row.mono c224.le r226
          cases hm38
          exact ⟨F216, _, _, rfl, S227, w225, r226⟩
        · skip
          cases hm38
          refine rd_next ?_
          exact ⟨F216, _, _, rfl, S220, w116, r114⟩
    · skip
      rintro σ228 H229 ⟨F230, o232, v233, rfl, S231, w234, r235⟩
      have S236 := S8.call1 S231 w5
      have f_cells := (qL qS).mono S231.le f_cells
      have f_positions := (qQ qI).mono S231.le f_positions
      have w237 : Ow P0 H0 _ _ _ _ := ⟨w234.fr, w234.at_, w5.mine⟩
      obtain ⟨F238, S239, le240, f241, _, eq242⟩ := fz S236 w237 z7 r235
      have f_cells := (qL qS).mono le240 f_cells
      have f_positions := (qQ qI).mono le240 f_positions
      obtain ⟨t243, e244, hm⟩ := bd_some hm
      refine rd_ret ?_
      refine rd_call ?_
      refine rd_cons ?_
      refine rd_v rfl ?_
      refine rd_cons ?_
      refine rd_v rfl ?_
      refine rd_nil ?_
      refine ⟨F238, _, _, _, _, t243, rfl, S239.sub, f_cells, (.inl f241), e244, fun v248 F245 H246 c247 f249 => ?_⟩
      have S250 := S239.call0 c247
      have f_cells := (qL qS).mono c247.le f_cells
      have f_positions := (qQ qI).mono c247.le f_positions
      have f241 := (qL qI).mono c247.le f241
      cases hm
      exact hQ _ _ _ S250 f249
def sp_is_done (K : PySem.W.Frag) : Sp := fun vs H Q _ => ∃ (F : Hp) (v_cells : V) (a_cells : (List Str)) (v_positions : V) (a_positions : (List Int)) (r : Bool), vs = [v_cells, v_positions] ∧ Same F H ∧ (qL qS).r K F v_cells a_cells ∧ (qQ qI).r K F v_positions a_positions ∧ m_is_done a_cells a_positions = some r ∧ ∀ v F' H', Sx P0 F H F' H' → qB.r K F' v r → Q v H'
theorem sc_is_done : FnScope ["cells", "positions"] ["cells", "positions"] (defScope s_is_done) := ⟨rfl, rfl, rfl, by decide +kernel, rfl, by decide +kernel, by decide +kernel⟩
theorem bn_is_done (T : Tx K mg) : Binds K (fdOf K ("is_done", none)) ["cells", "positions"] [] := FunD.bindsN T.F_is_done fun _ _ _ _ _ _ us hl => match us, hl with | [_, _], _ => rfl
theorem ok_is_done (T : Tx K mg) : FnOk P w K mg base CX0 1 (He.ga K "is_done") (fdOf K ("is_done", none)) ["cells", "positions"] (sp_is_done K) := by
  refine FunD.ok T.F_is_done sc_is_done (fun vs H0 Q E h => ?_) (fun cdv A outer s H0 vs Q E hr h => ?_)
  · obtain ⟨_, _, _, _, _, _, rfl, _⟩ := h
    rfl
  · obtain ⟨F0, v_cells, a_cells, v_positions, a_positions, r, rfl, hE, f_cells, f_positions, hm, hQ⟩ := h
    refine ⟨_, PSs.nox ((pss_one (ps_ret (pe_cmpR (r := rIn K false) op_in_seq (pe_callB (r := rLenQ K) cr_lenQ (by rfl) T.n_len (by decide +kernel) (pa_cons (pv 0) pa_nil)) (pv 1) rfl)))), ?_⟩
    have S : Sx P0 F0 H0 F0 H0 := Sx.refl0 hE
    unfold m_is_done at hm
    cases hm
    refine rd_ret ?_
    refine rd_op ?_
    refine rd_cb ?_
    refine rd_cons ?_
    refine rd_v rfl ?_
    refine rd_nil ?_
    refine rd_lenQ (S.l f_cells).r.q ?_
    refine rd_v rfl ?_
    refine rd_inI (S.q f_positions) ?_
    exact hQ _ _ _ S rfl
def sp_Form___contains__ (K : PySem.W.Frag) : Sp := fun vs H Q _ => ∃ (F : Hp) (v_self : V) (a_self : (List Str)) (a_line : Str) (r : Bool), vs = [v_self, (V.str (a_line))] ∧ Same F H ∧ qForm.r K F v_self a_self ∧ m_Form___contains__ a_self a_line = some r ∧ ∀ v F' H', Sx P0 F H F' H' → qB.r K F' v r → Q v H'
theorem sc_Form___contains__ : FnScope ["self", "line", "truths", "form", "cells", "positions", "sign"] ["self", "line"] (defScope s_Form___contains__) := ⟨rfl, rfl, rfl, by decide +kernel, rfl, by decide +kernel, by decide +kernel⟩
theorem bn_Form___contains__ (T : Tx K mg) : Binds K (fdOf K ("Form", some "__contains__")) ["self", "line"] [] := FunD.bindsN T.F_Form___contains__ fun _ _ _ _ _ _ us hl => match us, hl with | [_, _], _ => rfl
theorem ok_Form___contains__ (T : Tx K mg) : FnOk P w K mg base CX0 3 (He.fAd K ("Form", some "__contains__")) (fdOf K ("Form", some "__contains__")) ["self", "line"] (sp_Form___contains__ K) := by
  refine FunD.ok T.F_Form___contains__ sc_Form___contains__ (fun vs H0 Q E h => ?_) (fun cdv A outer s H0 vs Q E hr h => ?_)
  · obtain ⟨_, _, _, _, _, rfl, _⟩ := h
    rfl
  · obtain ⟨F0, v_self, a_self, a_line, r, rfl, hE, f_self, hm, hQ⟩ := h
    refine ⟨_, PSs.nox ((pss_cons (ps_if (pt_not (pt_val (pe_call (ok_is_line T) (hr.mono (by decide)) (by rfl) T.g_is_line T.F_is_line.kp (bn_is_line T) .nil pass0 (pa_cons (pv 1) pa_nil)))) (pss_one (ps_ret pe_bl)) pss_nil) (pss_cons (ps_set (i := 2) sc_Form___contains__.nd rfl (by first | exact Or.inl rfl | exact Or.inr rfl) (pe_lst pa_nil)) (pss_cons (ps_for PassesOwn.never rfl (pi_listK (pe_meth0 (pv 0) T.c_Form T.me_Form_forms (ok_Form_forms T) (hr.mono (by decide)) (bn_Form_forms T) .nil pass0)) (pg_name (i := 3) sc_Form___contains__.nd rfl (by first | exact Or.inl rfl | exact Or.inr rfl)) (pss_cons (ps_set (i := 4) sc_Form___contains__.nd rfl (by first | exact Or.inl rfl | exact Or.inr rfl) (pe_call (ok_cells_of T) (hr.mono (by decide)) (by rfl) T.g_cells_of T.F_cells_of.kp (bn_cells_of T) .nil pass0 (pa_cons (pe_meth0 (pv 3) T.c_Form T.me_Form_parts (ok_Form_parts T) (hr.mono (by decide)) (bn_Form_parts T) .nil pass0) pa_nil))) (pss_cons (ps_set (i := 5) sc_Form___contains__.nd rfl (by first | exact Or.inl rfl | exact Or.inr rfl) (pe_call (ok_started T) (hr.mono (by decide)) (by rfl) T.g_started T.F_started.kp (bn_started T) .nil pass0 (pa_cons (pv 4) pa_nil))) (pss_cons (ps_for PassesOwn.never rfl (pi_str (pv 1)) (pg_name (i := 6) sc_Form___contains__.nd rfl (by first | exact Or.inl rfl | exact Or.inr rfl)) (pss_one (ps_set (i := 5) sc_Form___contains__.nd rfl (by first | exact Or.inl rfl | exact Or.inr rfl) (pe_call (ok_moved T) (hr.mono (by decide)) (by rfl) T.g_moved T.F_moved.kp (bn_moved T) .nil pass0 (pa_cons (pv 4) (pa_cons (pv 5) (pa_cons (pv 6) pa_nil))))))) (pss_one (ps_expr (pe_bm PySem.F.plainAttrs_list PySem.F.slot_list_append PySem.F.type_list_append mt_append (pv 2) (pa_cons (pe_call (ok_is_done T) (hr.mono (by decide)) (by rfl) T.g_is_done T.F_is_done.kp (bn_is_done T) .nil pass0 (pa_cons (pv 4) (pa_cons (pv 5) pa_nil))) pa_nil)))))))) (pss_one (ps_ret (pe_meth (pv 0) T.c_Form T.me_Form_holds (ok_Form_holds T) (hr.mono (by decide)) (bn_Form_holds T) .nil pass0 (pa_cons (pv 2) pa_nil)))))))), ?_⟩
    have S : Sx P0 F0 H0 F0 H0 := Sx.refl0 hE
    unfold m_Form___contains__ at hm
    obtain ⟨t1, e2, hm⟩ := bd_some hm
    refine rd_seq ?_
    refine rd_ifS ?_
    refine rd_not ?_
    refine rd_tB ?_
    refine rd_call ?_
    refine rd_cons ?_
    refine rd_v rfl ?_
    refine rd_nil ?_
    refine ⟨F0, _, _, t1, rfl, S.sub, (show qTh.r K F0 _ (Th.d (PyData.str (a_line))) from Dp.str _), e2, fun v6 F3 H4 c5 f7 => ?_⟩
    have S8 := S.call0 c5
    have f_self := qForm.mono c5.le f_self
    cases (show v6 = (V.bl (t1)) from f7)
    refine rd_b ?_
    refine if_b hm (fun b9 hm => ?_) (fun b9 hm => ?_)
    · skip
      cases hm
      refine rd_ret ?_
      refine rd_c ?_
      exact hQ _ _ _ S8 rfl
    · skip
      refine rd_next ?_
      refine rd_seq ?_
      refine rd_asg ?_
      refine rd_lst ?_
      refine rd_nil ?_
      refine rd_lK rfl ?_
      refine al S8 (fun p10 H11 np12 c13 w14 => ?_)
      have r15 : Row qB K F3 [] ([] : List Bool) := .nil
      have z16 := S8.free0 np12
      have S17 := S8.call0 c13
      have f_self := qForm.mono c13.le f_self
      refine rd_gn ?_
      refine rd_seq ?_
      refine rd_for ?_
      refine rd_iL ?_
      refine rd_meth ?_
      refine rd_v rfl ?_
      refine mt_Form_forms S17 f_self ?_
      obtain ⟨t18, e19, hm⟩ := bd_some hm
      refine rd_nil ?_
      refine ⟨F3, _, _, t18, rfl, S17.sub, f_self, e19, fun v23 F20 H21 c22 f24 => ?_⟩
      have S25 := S17.call0 c22
      have f_self := qForm.mono c22.le f_self
      have r15 := Row.mono c22.le r15
      have w14 := w14.call0 c22
      refine rd_wLF S25 (f24) (fun p26 vs27 hq28 row29 => ?_)
      obtain ⟨t30, e31, hm⟩ := bd_some hm
      refine rd_forS feedsL (typedRow row29) e31 (fun (s32 : (List Bool)) σ H => ∃ (F : Hp) (o3 : Option V) (o4 : Option V) (o5 : Option V) (o6 : Option V) (vs0 : List V), σ = [some v_self, some (V.str (a_line)), some (V.ref p10), o3, o4, o5, o6] ∧ Sx (fun a => a = p10) F20 H21 F H ∧ Ow (fun a => a = p10) H21 F H p10 (.lst vs0) ∧ Row qB K F vs0 s32) ?_ ?_ ?_ ?_
      · rintro _ _ _ ⟨_, _, _, _, _, _, _, S33, _, _⟩
        exact (Same.seq S33.sub (Same.seq S33.le hq28))
      · skip
        have S34 : Sx (fun a => a = p10) _ _ _ _ := Sx.refl S25.sub (fun a z => by rw [z, w14.at_]; exact (fun h => nomatch h))
        have w35 : Ow (fun a => a = p10) H21 _ _ _ _ := ⟨w14.fr, w14.at_, .inr (rfl)⟩
        exact ⟨F20, _, _, _, _, _, rfl, S34, w35, r15⟩
      · skip
        rintro x36 v37 s38 c42 σ39 H40 f41 ⟨F43, o45, o46, o47, o48, v49, rfl, S44, w50, r51⟩ hm54
        have f_self := qForm.mono S44.le f_self
        unfold m_Form___contains___b2 at hm54
        have f41 := qForm.mono S44.le f41
        refine rd_gn ?_
        refine rd_seq ?_
        refine rd_asg ?_
        refine rd_call ?_
        refine rd_cons ?_
        refine rd_meth ?_
        refine rd_v rfl ?_
        refine mt_Form_parts S44 f41 ?_
        obtain ⟨t55, e56, hm54⟩ := bd_some hm54
        refine rd_nil ?_
        refine ⟨F43, _, _, t55, rfl, S44.sub, f41, e56, fun v60 F57 H58 c59 f61 => ?_⟩
        have S62 := S44.call0 c59
        have f_self := qForm.mono c59.le f_self
        have f41 := qForm.mono c59.le f41
        have r51 := Row.mono c59.le r51
        have w50 := w50.call0 c59
        obtain ⟨t63, e64, hm54⟩ := bd_some hm54
        refine rd_nil ?_
        refine ⟨F57, _, _, t63, rfl, S62.sub, (.inr f61), e64, fun v68 F65 H66 c67 f69 => ?_⟩
        have S70 := S62.call0 c67
        have f_self := qForm.mono c67.le f_self
        have f41 := qForm.mono c67.le f41
        have r51 := Row.mono c67.le r51
        have w50 := w50.call0 c67
        obtain ⟨t71, e72, hm54⟩ := bd_some hm54
        refine rd_gn ?_
        refine rd_seq ?_
        refine rd_asg ?_
        refine rd_call ?_
        refine rd_cons ?_
        refine rd_v rfl ?_
        refine rd_nil ?_
        refine ⟨F65, _, _, t71, rfl, S70.sub, f69, e72, fun v76 F73 H74 c75 f77 => ?_⟩
        have S78 := S70.call0 c75
        have f_self := qForm.mono c75.le f_self
        have f69 := (qL qS).mono c75.le f69
        have f41 := qForm.mono c75.le f41
        have r51 := Row.mono c75.le r51
        have w50 := w50.call0 c75
        refine rd_gn ?_
        refine rd_seq ?_
        refine rd_for ?_
        refine rd_iS ?_
        refine rd_v rfl ?_
        refine rd_wS ?_
        obtain ⟨t79, e80, hm54⟩ := bd_some hm54
        refine rd_forS feedsS (typedS (K := K) (F := F73)) e80 (fun (s81 : (List Int)) σ H => ∃ (F : Hp) (x0 : V) (o6 : Option V), σ = [some v_self, some (V.str (a_line)), some (V.ref p10), some v37, some v68, some x0, o6] ∧ Sx P0 F73 H74 F H ∧ (qT qI).r K F x0 s81) ?_ ?_ ?_ ?_
        · intro _ _ _ _; trivial
        · skip
          have S83 := Sx.refl0 S78.sub
          exact ⟨F73, _, _, rfl, S83, f77⟩
        · skip
          rintro x84 v85 s86 c90 σ87 H88 f89 ⟨F91, x93, o94, rfl, S92, f95⟩ hm98
          have f_self := qForm.mono S92.le f_self
          have f69 := (qL qS).mono S92.le f69
          have f41 := qForm.mono S92.le f41
          have r51 := Row.mono S92.le r51
          have w50 := w50.call0 S92
          unfold m_Form___contains___b1 at hm98
          cases (show v85 = (V.str (x84)) from f89)
          obtain ⟨t99, e100, hm98⟩ := bd_some hm98
          refine rd_gn ?_
          refine rd_asg ?_
          refine rd_call ?_
          refine rd_cons ?_
          refine rd_v rfl ?_
          refine rd_cons ?_
          refine rd_v rfl ?_
          refine rd_cons ?_
          refine rd_v rfl ?_
          refine rd_nil ?_
          refine ⟨F91, _, _, _, _, _, t99, rfl, S92.sub, f69, (.inr f95), e100, fun v104 F101 H102 c103 f105 => ?_⟩
          have S106 := S92.call0 c103
          have f_self := qForm.mono c103.le f_self
          have f69 := (qL qS).mono c103.le f69
          have f95 := (qT qI).mono c103.le f95
          have f41 := qForm.mono c103.le f41
          have r51 := Row.mono c103.le r51
          have w50 := w50.call0 c103
          cases hm98
          refine rd_gn ?_
          exact ⟨F101, _, _, rfl, S106, f105⟩
        · skip
          rintro σ107 H108 ⟨F109, x111, o112, rfl, S110, f113⟩
          have S114 := S78.call0 S110
          have f_self := qForm.mono S110.le f_self
          have f69 := (qL qS).mono S110.le f69
          have f41 := qForm.mono S110.le f41
          have r51 := Row.mono S110.le r51
          have w50 := w50.call0 S110
          obtain ⟨t115, e116, hm54⟩ := bd_some hm54
          refine rd_drop ?_
          refine rd_bm ?_
          refine rd_v rfl ?_
          refine rd_ty w50.ty ?_
          refine rd_cons ?_
          refine rd_call ?_
          refine rd_cons ?_
          refine rd_v rfl ?_
          refine rd_cons ?_
          refine rd_v rfl ?_
          refine rd_nil ?_
          refine ⟨F109, _, _, _, _, t115, rfl, S114.sub, f69, (.inr f113), e116, fun v120 F117 H118 c119 f121 => ?_⟩
          have S122 := S114.call0 c119
          have f_self := qForm.mono c119.le f_self
          have f69 := (qL qS).mono c119.le f69
          have f113 := (qT qI).mono c119.le f113
          have f41 := qForm.mono c119.le f41
          have r51 := Row.mono c119.le r51
          have w50 := w50.call0 c119
          cases (show v120 = (V.bl (t115)) from f121)
          obtain ⟨g123, hm54⟩ := gd_some hm54
          refine rd_nil ?_
          refine ap S122 w50 r51 g123 (fun H124 c125 w126 => ?_)
          have r127 := r51.snoc (show qB.r K F117 _ t115 from rfl)
          have S128 := S122.call1 c125 w50
          have f_self := qForm.mono c125.le f_self
          have f69 := (qL qS).mono c125.le f69
          have f113 := (qT qI).mono c125.le f113
          have f41 := qForm.mono c125.le f41
          have r127 := Row.mono c125.le r127
          cases hm54
          exact ⟨F117, _, _, _, _, _, rfl, S128, w126, r127⟩
      · skip
        rintro σ129 H130 ⟨F131, o133, o134, o135, o136, v137, rfl, S132, w138, r139⟩
        have S140 := S25.call1 S132 w14
        have f_self := qForm.mono S132.le f_self
        have w141 : Ow P0 H0 _ _ _ _ := ⟨w138.fr, w138.at_, w14.mine⟩
        refine rd_ret ?_
        refine rd_meth ?_
        refine rd_v rfl ?_
        refine mt_Form_holds S140 f_self ?_
        obtain ⟨F142, S143, le144, f145, _, eq146⟩ := fz S140 w141 z16 r139
        have f_self := qForm.mono le144 f_self
        obtain ⟨t147, e148, hm⟩ := bd_some hm
        refine rd_cons ?_
        refine rd_v rfl ?_
        refine rd_nil ?_
        refine ⟨F142, _, _, _, _, t147, rfl, S143.sub, f_self, f145, e148, fun v152 F149 H150 c151 f153 => ?_⟩
        have S154 := S143.call0 c151
        have f_self := qForm.mono c151.le f_self
        have f145 := (qL qB).mono c151.le f145
        cases (show v152 = (V.bl (t147)) from f153)
        cases hm
        exact hQ _ _ _ S154 rfl
def sp_law_takes (K : PySem.W.Frag) : Sp := fun vs H Q _ => ∃ (F : Hp) (a__law_part : Str) (a__law_sign : Str) (r : Bool), vs = [(V.str (a__law_part)), (V.str (a__law_sign))] ∧ Same F H ∧ m_law_takes a__law_part a__law_sign = some r ∧ ∀ v F' H', Sx P0 F H F' H' → qB.r K F' v r → Q v H'
theorem sc_law_takes : FnScope ["_law_part", "_law_sign"] ["_law_part", "_law_sign"] (defScope s_law_takes) := ⟨rfl, rfl, rfl, by decide +kernel, rfl, by decide +kernel, by decide +kernel⟩
theorem bn_law_takes (T : Tx K mg) : Binds K (fdOf K ("_law_takes", none)) ["_law_part", "_law_sign"] [] := FunD.bindsN T.F_law_takes fun _ _ _ _ _ _ us hl => match us, hl with | [_, _], _ => rfl
theorem ok_law_takes (T : Tx K mg) : FnOk P w K mg base CX0 1 (He.ga K "_law_takes") (fdOf K ("_law_takes", none)) ["_law_part", "_law_sign"] (sp_law_takes K) := by
  refine FunD.ok T.F_law_takes sc_law_takes (fun vs H0 Q E h => ?_) (fun cdv A outer s H0 vs Q E hr h => ?_)
  · obtain ⟨_, _, _, _, rfl, _⟩ := h
    rfl
  · obtain ⟨F0, a__law_part, a__law_sign, r, rfl, hE, hm, hQ⟩ := h
    refine ⟨_, PSs.nox ((pss_cons (ps_if (pt_cmpR op_eqS (pv 0) pe_str (nomark _)) (pss_one (ps_ret (pe_cmpR op_inS (pv 1) pe_str rfl))) pss_nil) (pss_one (ps_ret (pe_and (pe_cmpR op_eqS (pv 0) pe_str (nomark _)) (pe_one (pe_cmpR op_inS (pv 1) pe_str rfl))))))), ?_⟩
    have S : Sx P0 F0 H0 F0 H0 := Sx.refl0 hE
    unfold m_law_takes at hm
    refine rd_seq ?_
    refine rd_ifS ?_
    refine rd_test ?_
    refine rd_op ?_
    refine rd_v rfl ?_
    refine rd_c ?_
    refine rd_S0 ?_
    refine rd_b ?_
    refine if_b hm (fun b1 hm => ?_) (fun b1 hm => ?_)
    · skip
      cases hm
      refine rd_ret ?_
      refine rd_op ?_
      refine rd_v rfl ?_
      refine rd_c ?_
      refine rd_inSS ?_
      exact hQ _ _ _ S rfl
    · skip
      cases hm
      refine rd_next ?_
      refine rd_ret ?_
      refine rd_andV ?_
      refine rd_op ?_
      refine rd_v rfl ?_
      refine rd_c ?_
      refine rd_S0 ?_
      refine rd_b ?_
      refine andV_p (by intro _ Q' q; refine rd_op ?_; refine rd_v rfl ?_; refine rd_c ?_; refine rd_inSS ?_; exact q) ?_
      exact hQ _ _ _ S rfl
def sp_law_ends (K : PySem.W.Frag) : Sp := fun vs H Q _ => ∃ (F : Hp) (a__law_part : Str) (a__law_line_here : Str) (a__law_at : Int) (r : (List Int)), vs = [(V.str (a__law_part)), (V.str (a__law_line_here)), (V.int (a__law_at))] ∧ Same F H ∧ m_law_ends a__law_part a__law_line_here a__law_at = some r ∧ ∀ v F' H', Sx P0 F H F' H' → (qL qI).r K F' v r → Q v H'
theorem sc_law_ends : FnScope ["_law_part", "_law_line_here", "_law_at", "_law_found", "_law_end"] ["_law_part", "_law_line_here", "_law_at"] (defScope s_law_ends) := ⟨rfl, rfl, rfl, by decide +kernel, rfl, by decide +kernel, by decide +kernel⟩
theorem bn_law_ends (T : Tx K mg) : Binds K (fdOf K ("_law_ends", none)) ["_law_part", "_law_line_here", "_law_at"] [] := FunD.bindsN T.F_law_ends fun _ _ _ _ _ _ us hl => match us, hl with | [_, _, _], _ => rfl
theorem ok_law_ends (T : Tx K mg) : FnOk P w K mg base CX0 2 (He.ga K "_law_ends") (fdOf K ("_law_ends", none)) ["_law_part", "_law_line_here", "_law_at"] (sp_law_ends K) := by
  refine FunD.ok T.F_law_ends sc_law_ends (fun vs H0 Q E h => ?_) (fun cdv A outer s H0 vs Q E hr h => ?_)
  · obtain ⟨_, _, _, _, _, rfl, _⟩ := h
    rfl
  · obtain ⟨F0, a__law_part, a__law_line_here, a__law_at, r, rfl, hE, hm, hQ⟩ := h
    refine ⟨_, PSs.nox ((pss_cons (ps_if (pt_cmpR op_eqS (pv 0) pe_str (nomark _)) (pss_one (ps_ret (pe_listRg rfl (by rfl) T.n_list (prg_2 (by rfl) T.n_range (pv 2) (pe_op op_add (pe_callB cr_lenS (by rfl) T.n_len (by decide +kernel) (pa_cons (pv 1) pa_nil)) pe_int))))) pss_nil) (pss_cons (ps_set (i := 3) sc_law_ends.nd rfl (by first | exact Or.inl rfl | exact Or.inr rfl) (pe_lst pa_nil)) (C8.pss_cut (ps_if (pt_cmpR (r := rIn K false) op_in_seq (pv 0) (pe_tup (pa_cons pe_str (pa_cons pe_str pa_nil))) rfl) (pss_cons (ps_set (i := 4) sc_law_ends.nd rfl (by first | exact Or.inl rfl | exact Or.inr rfl) (pv 2)) (pss_one (ps_while PassesOwn.never (PW.pt (pw_and (pt_cmpR op_lt (pv 4) (pe_callB cr_lenS (by rfl) T.n_len (by decide +kernel) (pa_cons (pv 1) pa_nil)) (nomark _)) (pw_and1 (pt_val (pe_call (ok_law_takes T) (hr.mono (by decide)) (by rfl) T.g_law_takes T.F_law_takes.kp (bn_law_takes T) .nil pass0 (pa_cons (pv 0) (pa_cons (pe_ix ix_str (pv 1) (pv 4) (fun _ _ => rfl)) pa_nil))))))) (pss_cons (ps_set (i := 4) sc_law_ends.nd rfl (by first | exact Or.inl rfl | exact Or.inr rfl) (pe_op op_add (pv 4) pe_int)) (pss_one (ps_expr (pe_bm PySem.F.plainAttrs_list PySem.F.slot_list_append PySem.F.type_list_append mt_append (pv 3) (pa_cons (pv 4) pa_nil)))))))) (pss_one (ps_if (pt_cmpR op_eqS (pe_slice sl_str (pv 1) (po_some (pv 2)) (po_some (pe_op op_add (pv 2) (pe_callB cr_lenS (by rfl) T.n_len (by decide +kernel) (pa_cons (pv 0) pa_nil))))) (pv 0) (nomark _)) (pss_one (ps_expr (pe_bm PySem.F.plainAttrs_list PySem.F.slot_list_append PySem.F.type_list_append mt_append (pv 3) (pa_cons (pe_op op_add (pv 2) (pe_callB cr_lenS (by rfl) T.n_len (by decide +kernel) (pa_cons (pv 0) pa_nil))) pa_nil)))) pss_nil))) (pss_one (ps_ret (pv 3))))))), ?_⟩
    have S : Sx P0 F0 H0 F0 H0 := Sx.refl0 hE
    unfold m_law_ends at hm
    refine rd_seq ?_
    refine rd_ifS ?_
    refine rd_test ?_
    refine rd_op ?_
    refine rd_v rfl ?_
    refine rd_c ?_
    refine rd_S0 ?_
    refine rd_b ?_
    refine if_b hm (fun b1 hm => ?_) (fun b1 hm => ?_)
    · skip
      obtain ⟨g2, hm⟩ := gd_some hm
      obtain ⟨g3, hm⟩ := gd_some hm
      refine rd_ret ?_
      refine rd_lrg ?_
      refine rd_g2 ?_
      refine rd_v rfl ?_
      refine rd_op ?_
      refine rd_cb ?_
      refine rd_cons ?_
      refine rd_v rfl ?_
      refine rd_nil ?_
      refine rd_lenS g2 ?_
      refine rd_c ?_
      refine rd_I0 ?_
      refine rd_g2i ?_
      refine rd_lrgE (K := K) (F := F0) g3 ?_
      refine alL' S (fun v4 F5 H6 c7 f8 => ?_)
      have S9 := S.call0 c7
      cases hm
      exact hQ _ _ _ S9 f8
    · skip
      refine rd_next ?_
      refine rd_seq ?_
      refine rd_asg ?_
      refine rd_lst ?_
      refine rd_nil ?_
      refine rd_lK rfl ?_
      refine al S (fun p10 H11 np12 c13 w14 => ?_)
      have z16 := S.free0 np12
      have S17 := S.call0 c13
      have r18 : Row qI K F0 [] ([] : List Int) := .nil
      obtain ⟨t19, e20, hm⟩ := bd_some hm
      refine rd_gn ?_
      refine rd_cut (fun σ' H' => ∃ (F : Hp) (o4 : Option V) (vs0 : List V), σ' = [some (V.str (a__law_part)), some (V.str (a__law_line_here)), some (V.int (a__law_at)), some (V.ref p10), o4] ∧ Sx (fun a => a = p10) F0 H11 F H' ∧ Ow (fun a => a = p10) H11 F H' p10 (.lst vs0) ∧ Row qI K F vs0 t19) ?_ ?_
      · skip
        have S21 : Sx (fun a => a = p10) _ _ _ _ := Sx.refl S17.sub (fun a z => by rw [z, w14.at_]; exact (fun h => nomatch h))
        have w22 : Ow (fun a => a = p10) H11 _ _ _ _ := ⟨w14.fr, w14.at_, .inr (rfl)⟩
        refine rd_ifS ?_
        refine rd_test ?_
        refine rd_op ?_
        refine rd_v rfl ?_
        refine rd_tup ?_
        refine rd_cons ?_
        refine rd_c ?_
        refine rd_cons ?_
        refine rd_c ?_
        refine rd_nil ?_
        refine rd_uK rfl ?_
        refine alT (K := K) (A := qS) (xs := [("<digits>" : Str), ("<word>" : Str)]) S21 (.cons rfl (.cons rfl .nil)) (fun v23 F24 H25 c26 f27 => ?_)
        have S28 := S21.call0 c26
        have r18 := Row.mono c26.le r18
        have w22 := w22.call0 c26
        refine rd_inS (S28.t f27).q ?_
        refine rd_b ?_
        refine if_b e20 (fun b29 e20 => ?_) (fun b29 e20 => ?_)
        · skip
          obtain ⟨t30, e31, e20⟩ := bd_some e20
          refine rd_seq ?_
          refine rd_asg ?_
          refine rd_v rfl ?_
          refine rd_gn ?_
          refine rd_whileS e31 (fun (s32 : ((List Int) × Int)) σ H => ∃ (F : Hp) (vs0 : List V), σ = [some (V.str (a__law_part)), some (V.str (a__law_line_here)), some (V.int (a__law_at)), some (V.ref p10), some (V.int (s32.2))] ∧ Sx (fun a => a = p10) F24 H25 F H ∧ Ow (fun a => a = p10) H25 F H p10 (.lst vs0) ∧ Row qI K F vs0 s32.1) ?_ ?_ ?_ ?_
          · skip
            have S33 : Sx (fun a => a = p10) _ _ _ _ := Sx.refl S28.sub (fun a z => by rw [z, w22.at_]; exact (fun h => nomatch h))
            have w34 : Ow (fun a => a = p10) H25 _ _ _ _ := ⟨w22.fr, w22.at_, .inr (rfl)⟩
            exact ⟨F24, _, rfl, S33, w34, r18⟩
          · skip
            rintro s35 b36 σ37 H38 T39 E40 ⟨F44, v46, rfl, S45, w47, r48⟩ hm43 hT41 hE42
            unfold m_law_ends_b1 at hm43
            obtain ⟨g49, hm43⟩ := gd_some hm43
            obtain ⟨t60, e61, hm43⟩ := bd_some hm43
            refine rd_and ?_
            refine rd_test ?_
            refine rd_op ?_
            refine rd_v rfl ?_
            refine rd_cb ?_
            refine rd_cons ?_
            refine rd_v rfl ?_
            refine rd_nil ?_
            refine rd_lenS g49 ?_
            refine rd_I0 ?_
            refine rd_b ?_
            refine and_j (fun c H' => c = t60 ∧ ∃ F', Sx P0 F44 H38 F' H') ?_ ?_ ?_
            · intro b62 Q63 q64
              have e61 := if_t e61 b62
              have S65 := Sx.refl0 S45.sub
              obtain ⟨t66, e67, e61⟩ := bd_some e61
              obtain ⟨t68, e69, e61⟩ := bd_some e61
              refine rd_tB ?_
              refine rd_call ?_
              refine rd_cons ?_
              refine rd_v rfl ?_
              refine rd_cons ?_
              refine rd_op ?_
              refine rd_v rfl ?_
              refine rd_v rfl ?_
              refine rd_ixS e67 ?_
              refine rd_nil ?_
              refine ⟨F44, _, _, t68, rfl, S65.sub, e69, fun v73 F70 H71 c72 f74 => ?_⟩
              have S75 := S65.call0 c72
              have r48 := Row.mono c72.le r48
              have w47 := w47.call0 c72
              cases (show v73 = (V.bl (t68)) from f74)
              cases e61
              refine rd_b ?_
              exact q64 _ _ ⟨rfl, F70, S75⟩
            · intro b62
              have e61 := if_f e61 b62
              cases e61
              have S76 := Sx.refl0 S45.sub
              exact ⟨rfl, F44, S76⟩
            rintro b80 H78 ⟨rfl, F77, c79⟩
            have S81 := S45.call0 c79
            have r48 := Row.mono c79.le r48
            have w47 := w47.call0 c79
            refine if_j (fun b82 => ?_) (fun b82 => ?_)
            · cases hm43; exact hT41 _ _ b82 ⟨F77, _, rfl, S81, w47, r48⟩
            · cases hm43; exact hE42 _ _ b82 ⟨F77, _, rfl, S81, w47, r48⟩
          · skip
            rintro s83 s84 σ85 H86 ⟨F88, v90, rfl, S89, w91, r92⟩ hm87
            unfold m_law_ends_b2 at hm87
            obtain ⟨g93, hm87⟩ := gd_some hm87
            refine rd_seq ?_
            refine rd_asg ?_
            refine rd_op ?_
            refine rd_v rfl ?_
            refine rd_c ?_
            refine rd_I0 ?_
            refine rd_gn ?_
            refine rd_drop ?_
            refine rd_bm ?_
            refine rd_v rfl ?_
            refine rd_ty w91.ty ?_
            refine rd_cons ?_
            refine rd_v rfl ?_
            refine rd_nil ?_
            refine ap S89 w91 r92 g93 (fun H94 c95 w96 => ?_)
            have r97 := r92.snoc (show qI.r K F88 _ (s83.2 + 1) from rfl)
            have S98 := S89.call1 c95 w91
            have r97 := Row.mono c95.le r97
            cases hm87
            exact ⟨F88, _, rfl, S98, w96, r97⟩
          · skip
            rintro σ99 H100 ⟨F101, v103, rfl, S102, w104, r105⟩
            have S106 := S28.call1 S102 w22
            have w107 : Ow (fun a => a = p10) H11 _ _ _ _ := ⟨w104.fr, w104.at_, w22.mine⟩
            cases e20
            exact ⟨F101, _, _, rfl, S106, w107, r105⟩
        · skip
          obtain ⟨g108, e20⟩ := gd_some e20
          obtain ⟨g109, e20⟩ := gd_some e20
          refine rd_ifS ?_
          refine rd_test ?_
          refine rd_op ?_
          refine rd_sl ?_
          refine rd_v rfl ?_
          refine rd_pt ?_
          refine rd_v rfl ?_
          refine rd_i ?_
          refine rd_pt ?_
          refine rd_op ?_
          refine rd_v rfl ?_
          refine rd_cb ?_
          refine rd_cons ?_
          refine rd_v rfl ?_
          refine rd_nil ?_
          refine rd_lenS g108 ?_
          refine rd_I0 ?_
          refine rd_i ?_
          refine rd_slS g109 ?_
          refine rd_v rfl ?_
          refine rd_S0 ?_
          refine rd_b ?_
          refine if_b e20 (fun b110 e20 => ?_) (fun b110 e20 => ?_)
          · skip
            obtain ⟨g111, e20⟩ := gd_some e20
            obtain ⟨g112, e20⟩ := gd_some e20
            refine rd_drop ?_
            refine rd_bm ?_
            refine rd_v rfl ?_
            refine rd_ty w22.ty ?_
            refine rd_cons ?_
            refine rd_op ?_
            refine rd_v rfl ?_
            refine rd_cb ?_
            refine rd_cons ?_
            refine rd_v rfl ?_
            refine rd_nil ?_
            refine rd_lenS g111 ?_
            refine rd_I0 ?_
            refine rd_nil ?_
            refine ap S28 w22 r18 g112 (fun H113 c114 w115 => ?_)
            have r116 := r18.snoc (show qI.r K F24 _ (a__law_at + ((a__law_part).length : Int)) from rfl)
            have S117 := S28.call1 c114 w22
            have r116 := Row.mono c114.le r116
            cases e20
            exact ⟨F24, _, _, rfl, S117, w115, r116⟩
          · skip
            cases e20
            refine rd_next ?_
            exact ⟨F24, _, _, rfl, S28, w22, r18⟩
      · skip
        rintro σ119 H118 ⟨F120, o122, v123, rfl, S121, w124, r125⟩
        have S126 := S17.call1 S121 w14
        have w127 : Ow P0 H0 _ _ _ _ := ⟨w124.fr, w124.at_, w14.mine⟩
        obtain ⟨F128, S129, le130, f131, _, eq132⟩ := fz S126 w127 z16 r125
        cases hm
        refine rd_ret ?_
        refine rd_v rfl ?_
        exact hQ _ _ _ S129 f131
def sp_law_fits (K : PySem.W.Frag) : Sp := fun vs H Q _ => ∃ (F : Hp) (v__law_parts : V) (a__law_parts : (List Str)) (a__law_line_here : Str) (r : Bool), vs = [v__law_parts, (V.str (a__law_line_here))] ∧ Same F H ∧ (qL qS).r K F v__law_parts a__law_parts ∧ m_law_fits a__law_parts a__law_line_here = some r ∧ ∀ v F' H', Sx P0 F H F' H' → qB.r K F' v r → Q v H'
theorem sc_law_fits : FnScope ["_law_parts", "_law_line_here", "_law_places", "_law_part", "_law_more", "_law_at", "_law_end"] ["_law_parts", "_law_line_here"] (defScope s_law_fits) := ⟨rfl, rfl, rfl, by decide +kernel, rfl, by decide +kernel, by decide +kernel⟩
theorem bn_law_fits (T : Tx K mg) : Binds K (fdOf K ("_law_fits", none)) ["_law_parts", "_law_line_here"] [] := FunD.bindsN T.F_law_fits fun _ _ _ _ _ _ us hl => match us, hl with | [_, _], _ => rfl
theorem ok_law_fits (T : Tx K mg) : FnOk P w K mg base CX0 3 (He.ga K "_law_fits") (fdOf K ("_law_fits", none)) ["_law_parts", "_law_line_here"] (sp_law_fits K) := by
  refine FunD.ok T.F_law_fits sc_law_fits (fun vs H0 Q E h => ?_) (fun cdv A outer s H0 vs Q E hr h => ?_)
  · obtain ⟨_, _, _, _, _, rfl, _⟩ := h
    rfl
  · obtain ⟨F0, v__law_parts, a__law_parts, a__law_line_here, r, rfl, hE, f__law_parts, hm, hQ⟩ := h
    refine ⟨_, PSs.nox ((pss_cons (ps_set (i := 2) sc_law_fits.nd rfl (by first | exact Or.inl rfl | exact Or.inr rfl) (pe_lst (pa_cons pe_int pa_nil))) (pss_cons (ps_for PassesOwn.never rfl (pi_listK (pv 0)) (pg_name (i := 3) sc_law_fits.nd rfl (by first | exact Or.inl rfl | exact Or.inr rfl)) (pss_cons (ps_set (i := 4) sc_law_fits.nd rfl (by first | exact Or.inl rfl | exact Or.inr rfl) (pe_lst pa_nil)) (pss_cons (ps_for PassesOwn.never rfl (pi_listK (pv 2)) (pg_name (i := 5) sc_law_fits.nd rfl (by first | exact Or.inl rfl | exact Or.inr rfl)) (pss_one (ps_set (i := 4) sc_law_fits.nd rfl (by first | exact Or.inl rfl | exact Or.inr rfl) (pe_op op_cat (pv 4) (pe_lc (own := [("_law_end", 6)]) rfl sc_law_fits.nd (pi_listK (pe_call (ok_law_ends T) (hr.mono (by decide)) (by rfl) T.g_law_ends T.F_law_ends.kp (bn_law_ends T) .nil pass0 (pa_cons (pv 3) (pa_cons (pv 1) (pa_cons (pv 5) pa_nil))))) (blkOk_by (N := ["_law_parts", "_law_line_here", "_law_places", "_law_part", "_law_more", "_law_at", "_law_end"]) (sc := defScope s_law_fits) (by decide +kernel)) (fun _ _ _ _ _ => pg_name (i := 6) sc_law_fits.nd rfl (Or.inl rfl)) (fun _ _ _ _ _ => (pts_one (pt_cmpR (r := rIn K true) op_notIn_seq (pv 6) (pv 4) rfl))) (fun _ _ _ _ _ => (pv 6))))))) (pss_one (ps_set (i := 2) sc_law_fits.nd rfl (by first | exact Or.inl rfl | exact Or.inr rfl) (pv 4)))))) (pss_one (ps_ret (pe_and (pe_cmpR op_neS (pv 1) pe_str (nomark _)) (pe_one (pe_cmpR (r := rIn K false) op_in_seq (pe_callB cr_lenS (by rfl) T.n_len (by decide +kernel) (pa_cons (pv 1) pa_nil)) (pv 2) rfl)))))))), ?_⟩
    have S : Sx P0 F0 H0 F0 H0 := Sx.refl0 hE
    unfold m_law_fits at hm
    refine rd_seq ?_
    refine rd_asg ?_
    refine rd_lst ?_
    refine rd_cons ?_
    refine rd_c ?_
    refine rd_nil ?_
    refine rd_lK rfl ?_
    refine alL (K := K) (A := qI) (xs := [0]) S (.cons rfl .nil) (fun v1 F2 H3 c4 f5 => ?_)
    have S6 := S.call0 c4
    have f__law_parts := (qL qS).mono c4.le f__law_parts
    refine rd_gn ?_
    refine rd_seq ?_
    refine rd_for ?_
    refine rd_iL ?_
    refine rd_v rfl ?_
    refine rd_wLF S6 (f__law_parts) (fun p7 vs8 hq9 row10 => ?_)
    obtain ⟨t11, e12, hm⟩ := bd_some hm
    refine rd_forS feedsL (typedRow row10) e12 (fun (s13 : (List Int)) σ H => ∃ (F : Hp) (x0 : V) (o3 : Option V) (o4 : Option V) (o5 : Option V) (o6 : Option V), σ = [some v__law_parts, some (V.str (a__law_line_here)), some x0, o3, o4, o5, o6] ∧ Sx P0 F2 H3 F H ∧ (qL qI).r K F x0 s13) ?_ ?_ ?_ ?_
    · rintro _ _ _ ⟨_, _, _, _, _, _, _, S14, _⟩
      exact (Same.seq S14.sub (Same.seq S14.le hq9))
    · skip
      have S15 := Sx.refl0 S6.sub
      exact ⟨F2, _, _, _, _, _, rfl, S15, f5⟩
    · skip
      rintro x16 v17 s18 c22 σ19 H20 f21 ⟨F23, x25, o26, o27, o28, o29, rfl, S24, f30⟩ hm33
      have f__law_parts := (qL qS).mono S24.le f__law_parts
      unfold m_law_fits_b3 at hm33
      cases (show v17 = (V.str (x16)) from f21)
      refine rd_gn ?_
      refine rd_seq ?_
      refine rd_asg ?_
      refine rd_lst ?_
      refine rd_nil ?_
      refine rd_lK rfl ?_
      refine alL (K := K) (A := qI) (xs := ([] : List Int)) S24 .nil (fun v34 F35 H36 c37 f38 => ?_)
      have S39 := S24.call0 c37
      have f__law_parts := (qL qS).mono c37.le f__law_parts
      have f30 := (qL qI).mono c37.le f30
      refine rd_gn ?_
      refine rd_seq ?_
      refine rd_for ?_
      refine rd_iL ?_
      refine rd_v rfl ?_
      refine rd_wLF S39 (f30) (fun p40 vs41 hq42 row43 => ?_)
      obtain ⟨t44, e45, hm33⟩ := bd_some hm33
      refine rd_forS feedsL (typedRow row43) e45 (fun (s46 : (List Int)) σ H => ∃ (F : Hp) (x0 : V) (o5 : Option V) (o6 : Option V), σ = [some v__law_parts, some (V.str (a__law_line_here)), some x25, some (V.str (x16)), some x0, o5, o6] ∧ Sx P0 F35 H36 F H ∧ (qL qI).r K F x0 s46) ?_ ?_ ?_ ?_
      · rintro _ _ _ ⟨_, _, _, _, _, S47, _⟩
        exact (Same.seq S47.sub (Same.seq S47.le hq42))
      · skip
        have S48 := Sx.refl0 S39.sub
        exact ⟨F35, _, _, _, rfl, S48, f38⟩
      · skip
        rintro x49 v50 s51 c55 σ52 H53 f54 ⟨F56, x58, o59, o60, rfl, S57, f61⟩ hm64
        have f__law_parts := (qL qS).mono S57.le f__law_parts
        have f30 := (qL qI).mono S57.le f30
        unfold m_law_fits_b2 at hm64
        cases (show v50 = (V.int (x49)) from f54)
        obtain ⟨t65, e66, hm64⟩ := bd_some hm64
        refine rd_gn ?_
        refine rd_asg ?_
        refine rd_op ?_
        refine rd_v rfl ?_
        refine rd_lc ?_
        refine rd_iL ?_
        refine rd_call ?_
        refine rd_cons ?_
        refine rd_v rfl ?_
        refine rd_cons ?_
        refine rd_v rfl ?_
        refine rd_cons ?_
        refine rd_v rfl ?_
        refine rd_nil ?_
        refine ⟨F56, _, _, _, t65, rfl, S57.sub, e66, fun v70 F67 H68 c69 f71 => ?_⟩
        have S72 := S57.call0 c69
        have f__law_parts := (qL qS).mono c69.le f__law_parts
        have f30 := (qL qI).mono c69.le f30
        have f61 := (qL qI).mono c69.le f61
        refine rd_wLF S72 (f71) (fun p73 vs74 hq75 row76 => ?_)
        obtain ⟨g77, hm64⟩ := gd_some hm64
        obtain ⟨t78, e79, hm64⟩ := bd_some hm64
        refine rd_comp (B := qI) feedsL (typedRow row76) e79 g77 (Pc := P0) (fun _ z => z.elim) S72.sub (fun (s80 : Unit) F H => True) ?_ ?_ ?_ ?_ ?_ ?_
        · intro _ _ _ S81 _
          exact (Same.seq S81.sub (Same.seq S81.le hq75))
        · trivial
        · intros; trivial
        · intros; trivial
        · skip
          intro x82 v83 s84 o85 F86 H87 d88 acc89 f90 S91 w92 w93 n94 hm95 E96 N97 hN98 hE99
          have f__law_parts := (qL qS).mono S91.le f__law_parts
          have f30 := (qL qI).mono S91.le f30
          have f61 := (qL qI).mono S91.le f61
          have S100 := Sx.refl0 S91.sub
          unfold m_law_fits_b1 at hm95
          cases (show v83 = (V.int (x82)) from f90)
          refine rd_gn ?_
          refine rd_wp rfl ?_
          refine rd_test ?_
          refine rd_op ?_
          refine rd_v rfl ?_
          refine rd_v rfl ?_
          refine rd_niI (S100.l f61).r.q ?_
          refine rd_b ?_
          refine if_b hm95 (fun b101 hm95 => ?_) (fun b101 hm95 => ?_)
          · skip
            cases hm95
            refine rd_v rfl ?_
            exact hN98 _ _ _ _ rfl S100 rfl trivial
          · skip
            cases hm95
            exact hE99 _ _ rfl S100 trivial
        intro p102 us103 F104 H105 n106 c107 w108 w109 r110
        have z111 := S72.free0 n106
        have S112 := S72.call0 c107
        have f__law_parts := (qL qS).mono c107.le f__law_parts
        have f30 := (qL qI).mono c107.le f30
        have f61 := (qL qI).mono c107.le f61
        have w113 : Ow P0 H36 _ _ _ _ := ⟨w109.fr, w109.at_, .inl z111⟩
        obtain ⟨F114, S115, le116, f117, _, eq118⟩ := fz S112 w113 z111 r110
        have f__law_parts := (qL qS).mono le116 f__law_parts
        have f30 := (qL qI).mono le116 f30
        have f61 := (qL qI).mono le116 f61
        obtain ⟨g119, hm64⟩ := gd_some hm64
        refine rd_cat (S115.l f61) (S115.l f117) g119 ?_
        refine alL' S115 (fun v120 F121 H122 c123 f124 => ?_)
        have S125 := S115.call0 c123
        have f__law_parts := (qL qS).mono c123.le f__law_parts
        have f30 := (qL qI).mono c123.le f30
        have f61 := (qL qI).mono c123.le f61
        cases hm64
        refine rd_gn ?_
        exact ⟨F121, _, _, _, rfl, S125, f124⟩
      · skip
        rintro σ126 H127 ⟨F128, x130, o131, o132, rfl, S129, f133⟩
        have S134 := S39.call0 S129
        have f__law_parts := (qL qS).mono S129.le f__law_parts
        have f30 := (qL qI).mono S129.le f30
        cases hm33
        refine rd_asg ?_
        refine rd_v rfl ?_
        refine rd_gn ?_
        exact ⟨F128, _, _, _, _, _, rfl, S134, f133⟩
    · skip
      rintro σ135 H136 ⟨F137, x139, o140, o141, o142, o143, rfl, S138, f144⟩
      have S145 := S6.call0 S138
      have f__law_parts := (qL qS).mono S138.le f__law_parts
      obtain ⟨t147, e148, hm⟩ := bd_some hm
      refine rd_ret ?_
      refine rd_andV ?_
      refine rd_op ?_
      refine rd_v rfl ?_
      refine rd_c ?_
      refine rd_S0 ?_
      refine rd_b ?_
      refine andV_j (fun c H' => c = V.bl t147 ∧ ∃ F', Sx P0 F137 H136 F' H') ?_ ?_ ?_
      · intro b149 Q150 q151
        have e148 := if_t e148 b149
        have S152 := Sx.refl0 S145.sub
        obtain ⟨g153, e148⟩ := gd_some e148
        cases e148
        refine rd_op ?_
        refine rd_cb ?_
        refine rd_cons ?_
        refine rd_v rfl ?_
        refine rd_nil ?_
        refine rd_lenS g153 ?_
        refine rd_v rfl ?_
        refine rd_inI (S152.l f144).r.q ?_
        exact q151 _ _ ⟨rfl, F137, S152⟩
      · intro b149
        have e148 := if_f e148 b149
        cases e148
        have S154 := Sx.refl0 S145.sub
        exact ⟨rfl, F137, S154⟩
      rintro b158 H156 ⟨rfl, F155, c157⟩
      have S159 := S145.call0 c157
      have f__law_parts := (qL qS).mono c157.le f__law_parts
      have f144 := (qL qI).mono c157.le f144
      cases hm
      exact hQ _ _ _ S159 rfl
def sp_law (K : PySem.W.Frag) : Sp := fun vs H Q _ => ∃ (F : Hp) (v__law_script : V) (a__law_script : List Int) (r : Bool), vs = [v__law_script] ∧ Same F H ∧ qC.r K F v__law_script a__law_script ∧ m_law a__law_script = some r ∧ ∀ v F' H', Sx P0 F H F' H' → qB.r K F' v r → Q v H'
theorem sc_law : FnScope ["_law_script", "_law_k", "_law_pool_here", "_law_parts", "_law_form_here", "_law_line_here", "_law_other", "_law_some", "_law_one"] ["_law_script"] (defScope s_law) := ⟨rfl, rfl, rfl, by decide +kernel, rfl, by decide +kernel, by decide +kernel⟩
theorem bn_law (T : Tx K mg) : Binds K (fdOf K ("law", none)) ["_law_script"] [] := FunD.bindsN T.F_law fun _ _ _ _ _ _ us hl => match us, hl with | [_], _ => rfl
theorem ok_law (T : Tx K mg) : FnOk P w K mg base CX0 6 (He.ga K "law") (fdOf K ("law", none)) ["_law_script"] (sp_law K) := by
  refine FunD.ok T.F_law sc_law (fun vs H0 Q E h => ?_) (fun cdv A outer s H0 vs Q E hr h => ?_)
  · obtain ⟨_, _, _, _, rfl, _⟩ := h
    rfl
  · obtain ⟨F0, v__law_script, a__law_script, r, rfl, hE, f__law_script, hm, hQ⟩ := h
    refine ⟨_, PSs.nox ((pss_cons (ps_for PassesOwn.never rfl (pi_range1 (by rfl) T.n_range (pa_cons (pe_callB (cr_max2 rfl) (by rfl) T.n_max (by decide +kernel) (pa_cons pe_int (pa_cons (pe_callB (cr_min2 rfl) (by rfl) T.n_min (by decide +kernel) (pa_cons pe_int (pa_cons (pe_callB (r := rLenQ K) cr_lenQ (by rfl) T.n_len (by decide +kernel) (pa_cons (pv 0) pa_nil)) pa_nil))) pa_nil))) pa_nil)) (pg_name (i := 1) sc_law.nd rfl (by first | exact Or.inl rfl | exact Or.inr rfl)) (pss_cons (ps_set (i := 2) sc_law.nd rfl (by first | exact Or.inl rfl | exact Or.inr rfl) (pe_call (ok_law_pool T) (hr.mono (by decide)) (by rfl) T.g_law_pool T.F_law_pool.kp (bn_law_pool T) .nil pass0 (pa_cons (pv 0) (pa_cons (pv 1) pa_nil)))) (pss_cons (ps_set (i := 3) sc_law.nd rfl (by first | exact Or.inl rfl | exact Or.inr rfl) (pe_call (ok_law_rich T) (hr.mono (by decide)) (by rfl) T.g_law_rich T.F_law_rich.kp (bn_law_rich T) .nil pass0 (pa_cons (pv 2) pa_nil))) (pss_cons (ps_set (i := 4) sc_law.nd rfl (by first | exact Or.inl rfl | exact Or.inr rfl) (pe_call (ok_law_form T) (hr.mono (by decide)) (by rfl) T.g_law_form T.F_law_form.kp (bn_law_form T) .nil pass0 (pa_cons (pv 3) pa_nil))) (pss_cons (ps_set (i := 5) sc_law.nd rfl (by first | exact Or.inl rfl | exact Or.inr rfl) (pe_call (ok_law_line T) (hr.mono (by decide)) (by rfl) T.g_law_line T.F_law_line.kp (bn_law_line T) .nil pass0 (pa_cons (pv 2) (pa_cons (pv 3) pa_nil)))) (pss_cons (ps_set (i := 6) sc_law.nd rfl (by first | exact Or.inl rfl | exact Or.inr rfl) (pe_call (ok_law_line T) (hr.mono (by decide)) (by rfl) T.g_law_line T.F_law_line.kp (bn_law_line T) .nil pass0 (pa_cons (pv 2) (pa_cons (pe_call (ok_law_rich T) (hr.mono (by decide)) (by rfl) T.g_law_rich T.F_law_rich.kp (bn_law_rich T) .nil pass0 (pa_cons (pv 2) pa_nil)) pa_nil)))) (pss_cons (ps_set (i := 7) sc_law.nd rfl (by first | exact Or.inl rfl | exact Or.inr rfl) (pe_lst (pa_cons (pv 5) (pa_cons (pe_call (ok_law_spoiled T) (hr.mono (by decide)) (by rfl) T.g_law_spoiled T.F_law_spoiled.kp (bn_law_spoiled T) .nil pass0 (pa_cons (pv 2) (pa_cons (pv 5) pa_nil))) (pa_cons (pe_call (ok_law_spoiled T) (hr.mono (by decide)) (by rfl) T.g_law_spoiled T.F_law_spoiled.kp (bn_law_spoiled T) .nil pass0 (pa_cons (pv 2) (pa_cons (pe_call (ok_law_spoiled T) (hr.mono (by decide)) (by rfl) T.g_law_spoiled T.F_law_spoiled.kp (bn_law_spoiled T) .nil pass0 (pa_cons (pv 2) (pa_cons (pv 5) pa_nil))) pa_nil))) (pa_cons (pv 6) (pa_cons pe_str (pa_cons (pv 5) pa_nil)))))))) (pss_cons (ps_for PassesOwn.never rfl (pi_listK (pv 7)) (pg_name (i := 8) sc_law.nd rfl (by first | exact Or.inl rfl | exact Or.inr rfl)) (pss_one (ps_if (pt_cmpR op_neB (pe_cmpR (r := rInO (He.ga K "Form") (sp_Form___contains__ K) _) (op_inO T.me_Form___contains__ (ok_Form___contains__ T) (hr.mono (by decide)) (bn_Form___contains__ T) pass0) (pv 8) (pv 4) rfl) (pe_call (ok_law_fits T) (hr.mono (by decide)) (by rfl) T.g_law_fits T.F_law_fits.kp (bn_law_fits T) .nil pass0 (pa_cons (pv 3) (pa_cons (pv 8) pa_nil))) (nomark _)) (pss_one (ps_ret pe_bl)) pss_nil))) (pss_one (ps_if (pt_cmpR (r := rNeD K) (op_neD hr.units) (pe_meth0 (pv 4) T.c_Form T.me_Form_parts (ok_Form_parts T) (hr.mono (by decide)) (bn_Form_parts T) .nil pass0) (pe_tupleOf (by rfl) T.n_tuple (pv 3)) (nomark _)) (pss_one (ps_ret pe_bl)) pss_nil)))))))))) (pss_one (ps_ret pe_bl)))), ?_⟩
    have S : Sx P0 F0 H0 F0 H0 := Sx.refl0 hE
    unfold m_law at hm
    obtain ⟨g1, hm⟩ := gd_some hm
    refine rd_seq ?_
    refine rd_for ?_
    refine rd_iR1 ?_
    refine rd_cons ?_
    refine rd_cb ?_
    refine rd_cons ?_
    refine rd_c ?_
    refine rd_cons ?_
    refine rd_cb ?_
    refine rd_cons ?_
    refine rd_c ?_
    refine rd_cons ?_
    refine rd_cb ?_
    refine rd_cons ?_
    refine rd_v rfl ?_
    refine rd_nil ?_
    refine rd_lenQ (S.c f__law_script).q ?_
    refine rd_nil ?_
    refine rd_min2 ?_
    refine rd_nil ?_
    refine rd_max2 ?_
    refine rd_nil ?_
    refine rd_r1 g1 ?_
    obtain ⟨t2, e3, hm⟩ := bd_some hm
    refine rd_forC feedsRg (typedR (K := K) (F := F0)) e3 (fun (s4 : Unit) σ H => ∃ (F : Hp) (o1 : Option V) (o2 : Option V) (o3 : Option V) (o4 : Option V) (o5 : Option V) (o6 : Option V) (o7 : Option V) (o8 : Option V), σ = [some v__law_script, o1, o2, o3, o4, o5, o6, o7, o8] ∧ Sx P0 F0 H0 F H) ?_ ?_ ?_ ?_
    · intro _ _ _ _; trivial
    · skip
      have S6 := Sx.refl0 S.sub
      exact ⟨F0, _, _, _, _, _, _, _, _, rfl, S6⟩
    · skip
      rintro x7 v8 s9 c13 σ10 H11 f12 ⟨F14, o16, o17, o18, o19, o20, o21, o22, o23, rfl, S15⟩ hm26 hbk24 hrt25
      have f__law_script := qC.mono S15.le f__law_script
      unfold m_law_b2 at hm26
      cases (show v8 = (V.int (x7)) from f12)
      obtain ⟨t27, e28, hm26⟩ := bd_some hm26
      refine rd_gn ?_
      refine rd_seq ?_
      refine rd_asg ?_
      refine rd_call ?_
      refine rd_cons ?_
      refine rd_v rfl ?_
      refine rd_cons ?_
      refine rd_v rfl ?_
      refine rd_nil ?_
      refine ⟨F14, _, _, _, t27, rfl, S15.sub, f__law_script, e28, fun p32 F29 H30 np33 c31 w34 => ?_⟩
      have z35 := S15.free0 np33
      have S36 := S15.call0 c31
      have f__law_script := qC.mono c31.le f__law_script
      have w37 : Ow P0 H0 _ _ _ _ := ⟨w34.fr, w34.at_, .inl z35⟩
      obtain ⟨t38, e39, hm26⟩ := bd_some hm26
      refine rd_gn ?_
      refine rd_seq ?_
      refine rd_asg ?_
      refine rd_call ?_
      refine rd_cons ?_
      refine rd_v rfl ?_
      refine rd_nil ?_
      refine ⟨F29, _, _, t38, rfl, S36.sub, w37.arg, e39, fun v43 F40 H41 c42 w45 f44 => ?_⟩
      have S46 := S36.call1 c42 w37
      have f__law_script := qC.mono c42.le f__law_script
      have w47 := w37.back w45
      obtain ⟨t48, e49, hm26⟩ := bd_some hm26
      refine rd_gn ?_
      refine rd_seq ?_
      refine rd_asg ?_
      refine rd_call ?_
      refine rd_cons ?_
      refine rd_v rfl ?_
      refine rd_nil ?_
      refine ⟨F40, _, _, t48, rfl, S46.sub, f44, e49, fun v53 F50 H51 c52 f54 => ?_⟩
      have S55 := S46.call0 c52
      have f__law_script := qC.mono c52.le f__law_script
      have f44 := (qL qS).mono c52.le f44
      have w47 := w47.call0 c52
      obtain ⟨t56, e57, hm26⟩ := bd_some hm26
      refine rd_gn ?_
      refine rd_seq ?_
      refine rd_asg ?_
      refine rd_call ?_
      refine rd_cons ?_
      refine rd_v rfl ?_
      refine rd_cons ?_
      refine rd_v rfl ?_
      refine rd_nil ?_
      refine ⟨F50, _, _, _, _, t56, rfl, S55.sub, w47.arg, f44, e57, fun v61 F58 H59 c60 w63 f62 => ?_⟩
      have S64 := S55.call1 c60 w47
      have f__law_script := qC.mono c60.le f__law_script
      have f44 := (qL qS).mono c60.le f44
      have f54 := qForm.mono c60.le f54
      have w65 := w47.back w63
      cases (show v61 = (V.str (t56.1)) from f62)
      obtain ⟨t66, e67, hm26⟩ := bd_some hm26
      refine rd_gn ?_
      refine rd_seq ?_
      refine rd_asg ?_
      refine rd_call ?_
      refine rd_cons ?_
      refine rd_v rfl ?_
      refine rd_cons ?_
      refine rd_call ?_
      refine rd_cons ?_
      refine rd_v rfl ?_
      refine rd_nil ?_
      refine ⟨F58, _, _, t66, rfl, S64.sub, w65.arg, e67, fun v71 F68 H69 c70 w73 f72 => ?_⟩
      have S74 := S64.call1 c70 w65
      have f__law_script := qC.mono c70.le f__law_script
      have f44 := (qL qS).mono c70.le f44
      have f54 := qForm.mono c70.le f54
      have w75 := w65.back w73
      obtain ⟨t76, e77, hm26⟩ := bd_some hm26
      refine rd_nil ?_
      refine ⟨F68, _, _, _, _, t76, rfl, S74.sub, w75.arg, f72, e77, fun v81 F78 H79 c80 w83 f82 => ?_⟩
      have S84 := S74.call1 c80 w75
      have f__law_script := qC.mono c80.le f__law_script
      have f44 := (qL qS).mono c80.le f44
      have f54 := qForm.mono c80.le f54
      have w85 := w75.back w83
      cases (show v81 = (V.str (t76.1)) from f82)
      obtain ⟨t86, e87, hm26⟩ := bd_some hm26
      refine rd_gn ?_
      refine rd_seq ?_
      refine rd_asg ?_
      refine rd_lst ?_
      refine rd_cons ?_
      refine rd_v rfl ?_
      refine rd_cons ?_
      refine rd_call ?_
      refine rd_cons ?_
      refine rd_v rfl ?_
      refine rd_cons ?_
      refine rd_v rfl ?_
      refine rd_nil ?_
      refine ⟨F78, _, _, _, t86, rfl, S84.sub, w85.arg, e87, fun v91 F88 H89 c90 w93 f92 => ?_⟩
      have S94 := S84.call1 c90 w85
      have f__law_script := qC.mono c90.le f__law_script
      have f44 := (qL qS).mono c90.le f44
      have f54 := qForm.mono c90.le f54
      have w95 := w85.back w93
      cases (show v91 = (V.str (t86.1)) from f92)
      obtain ⟨t96, e97, hm26⟩ := bd_some hm26
      refine rd_cons ?_
      refine rd_call ?_
      refine rd_cons ?_
      refine rd_v rfl ?_
      refine rd_cons ?_
      refine rd_call ?_
      refine rd_cons ?_
      refine rd_v rfl ?_
      refine rd_cons ?_
      refine rd_v rfl ?_
      refine rd_nil ?_
      refine ⟨F88, _, _, _, t96, rfl, S94.sub, w95.arg, e97, fun v101 F98 H99 c100 w103 f102 => ?_⟩
      have S104 := S94.call1 c100 w95
      have f__law_script := qC.mono c100.le f__law_script
      have f44 := (qL qS).mono c100.le f44
      have f54 := qForm.mono c100.le f54
      have w105 := w95.back w103
      cases (show v101 = (V.str (t96.1)) from f102)
      obtain ⟨t106, e107, hm26⟩ := bd_some hm26
      refine rd_nil ?_
      refine ⟨F98, _, _, _, t106, rfl, S104.sub, w105.arg, e107, fun v111 F108 H109 c110 w113 f112 => ?_⟩
      have S114 := S104.call1 c110 w105
      have f__law_script := qC.mono c110.le f__law_script
      have f44 := (qL qS).mono c110.le f44
      have f54 := qForm.mono c110.le f54
      have w115 := w105.back w113
      cases (show v111 = (V.str (t106.1)) from f112)
      refine rd_cons ?_
      refine rd_v rfl ?_
      refine rd_cons ?_
      refine rd_c ?_
      refine rd_cons ?_
      refine rd_v rfl ?_
      refine rd_nil ?_
      refine rd_lK rfl ?_
      refine alL (K := K) (A := qS) (xs := [t56.1, t86.1, t106.1, t76.1, ("" : Str), t56.1]) S114 (.cons rfl (.cons rfl (.cons rfl (.cons rfl (.cons rfl (.cons rfl .nil)))))) (fun v116 F117 H118 c119 f120 => ?_)
      have S121 := S114.call0 c119
      have f__law_script := qC.mono c119.le f__law_script
      have f44 := (qL qS).mono c119.le f44
      have f54 := qForm.mono c119.le f54
      have w115 := w115.call0 c119
      refine rd_gn ?_
      refine rd_seq ?_
      refine rd_for ?_
      refine rd_iL ?_
      refine rd_v rfl ?_
      refine rd_wLF S121 (f120) (fun p122 vs123 hq124 row125 => ?_)
      obtain ⟨t126, e127, hm26⟩ := bd_some hm26
      refine rd_forC feedsL (typedRow row125) e127 (fun (s128 : Unit) σ H => ∃ (F : Hp) (o8 : Option V), σ = [some v__law_script, some (V.int (x7)), some (V.ref p32), some v43, some v53, some (V.str (t56.1)), some (V.str (t76.1)), some v116, o8] ∧ Sx P0 F117 H118 F H) ?_ ?_ ?_ ?_
      · rintro _ _ _ ⟨_, _, _, S129⟩
        exact (Same.seq S129.sub (Same.seq S129.le hq124))
      · skip
        have S130 := Sx.refl0 S121.sub
        exact ⟨F117, _, rfl, S130⟩
      · skip
        rintro x131 v132 s133 c137 σ134 H135 f136 ⟨F138, o140, rfl, S139⟩ hm143 hbk141 hrt142
        have f__law_script := qC.mono S139.le f__law_script
        have f44 := (qL qS).mono S139.le f44
        have f54 := qForm.mono S139.le f54
        have f120 := (qL qS).mono S139.le f120
        have w115 := w115.call0 S139
        unfold m_law_b1 at hm143
        cases (show v132 = (V.str (x131)) from f136)
        obtain ⟨t144, e145, hm143⟩ := bd_some hm143
        refine rd_gn ?_
        refine rd_ifS ?_
        refine rd_test ?_
        refine rd_op ?_
        refine rd_op ?_
        refine rd_v rfl ?_
        refine rd_v rfl ?_
        refine in_Form___contains__ S139 f54 ?_
        refine ⟨F138, _, _, _, t144, rfl, S139.sub, f54, e145, fun v149 F146 H147 c148 f150 => ?_⟩
        have S151 := S139.call0 c148
        have f__law_script := qC.mono c148.le f__law_script
        have f44 := (qL qS).mono c148.le f44
        have f54 := qForm.mono c148.le f54
        have f120 := (qL qS).mono c148.le f120
        have w115 := w115.call0 c148
        cases (show v149 = (V.bl (t144)) from f150)
        obtain ⟨t152, e153, hm143⟩ := bd_some hm143
        refine rd_inK ?_
        refine rd_call ?_
        refine rd_cons ?_
        refine rd_v rfl ?_
        refine rd_cons ?_
        refine rd_v rfl ?_
        refine rd_nil ?_
        refine ⟨F146, _, _, _, t152, rfl, S151.sub, f44, e153, fun v157 F154 H155 c156 f158 => ?_⟩
        have S159 := S151.call0 c156
        have f__law_script := qC.mono c156.le f__law_script
        have f44 := (qL qS).mono c156.le f44
        have f54 := qForm.mono c156.le f54
        have f120 := (qL qS).mono c156.le f120
        have w115 := w115.call0 c156
        cases (show v157 = (V.bl (t152)) from f158)
        refine rd_B0 ?_
        refine rd_b ?_
        refine if_b hm143 (fun b160 hm143 => ?_) (fun b160 hm143 => ?_)
        · skip
          cases hm143
          have e161 := hrt142 _ rfl
          subst e161
          have hm26 := aftC_rt hm26
          cases hm26
          have e162 := hrt25 _ rfl
          subst e162
          have hm := aft_rt hm
          have S163 := S121.call0 S159
          have S164 := S.call0 S163
          cases hm
          refine rd_ret ?_
          refine rd_c ?_
          exact hQ _ _ _ S164 rfl
        · skip
          cases hm143
          refine rd_next ?_
          exact ⟨_, rfl, ⟨F154, _, rfl, S159⟩⟩
      · skip
        rintro s167 σ165 H166 e168 ⟨F169, o171, rfl, S170⟩
        subst e168
        have hm26 := aftC_nx hm26
        have S172 := S121.call0 S170
        have f__law_script := qC.mono S170.le f__law_script
        have f44 := (qL qS).mono S170.le f44
        have f54 := qForm.mono S170.le f54
        have f120 := (qL qS).mono S170.le f120
        have w115 := w115.call0 S170
        refine rd_ifS ?_
        refine rd_test ?_
        refine rd_op ?_
        refine rd_meth ?_
        refine rd_v rfl ?_
        refine mt_Form_parts S172 f54 ?_
        obtain ⟨t173, e174, hm26⟩ := bd_some hm26
        refine rd_nil ?_
        refine ⟨F169, _, _, t173, rfl, S172.sub, f54, e174, fun v178 F175 H176 c177 f179 => ?_⟩
        have S180 := S172.call0 c177
        have f__law_script := qC.mono c177.le f__law_script
        have f44 := (qL qS).mono c177.le f44
        have f54 := qForm.mono c177.le f54
        have f120 := (qL qS).mono c177.le f120
        have w115 := w115.call0 c177
        refine rd_thn ?_
        refine rd_v rfl ?_
        refine rd_tuple (S180.l f44).r ?_
        refine alT' S180 (fun v181 F182 H183 c184 f185 => ?_)
        have S186 := S180.call0 c184
        have f__law_script := qC.mono c184.le f__law_script
        have f44 := (qL qS).mono c184.le f44
        have f54 := qForm.mono c184.le f54
        have f120 := (qL qS).mono c184.le f120
        have f179 := (qT qS).mono c184.le f179
        have w115 := w115.call0 c184
        obtain ⟨g187, hm26⟩ := gd_some hm26
        obtain ⟨g188, hm26⟩ := gd_some hm26
        refine rd_neD (D := (dT dS)) (S186.d (dT dS) f179) (S186.d (dT dS) f185) g187 g188 ?_
        refine rd_b ?_
        refine if_b hm26 (fun b189 hm26 => ?_) (fun b189 hm26 => ?_)
        · skip
          cases hm26
          have e190 := hrt25 _ rfl
          subst e190
          have hm := aft_rt hm
          have S191 := S.call0 S186
          cases hm
          refine rd_ret ?_
          refine rd_c ?_
          exact hQ _ _ _ S191 rfl
        · skip
          cases hm26
          refine rd_next ?_
          exact ⟨_, rfl, ⟨F182, _, _, _, _, _, _, _, _, rfl, S186⟩⟩
    · skip
      rintro s194 σ192 H193 e195 ⟨F196, o198, o199, o200, o201, o202, o203, o204, o205, rfl, S197⟩
      subst e195
      have hm := aft_nx hm
      have S206 := S.call0 S197
      have f__law_script := qC.mono S197.le f__law_script
      cases hm
      refine rd_ret ?_
      refine rd_c ?_
      exact hQ _ _ _ S206 rfl
end

/-! ### the drawn numbers -/
theorem take_ok {p : Int × Int} {n : Int} (h : 0 < n) (h2 : n < 1000000) : Ok (m_law_take p n) fun r => 0 ≤ r.1 ∧ r.1 < n := by
  unfold m_law_take
  have hm : modOk n = true := modOk_ok h
  have hz : n ≠ 0 := by omega
  refine Ok.ite (fun _ => ?_) fun _ => ?_
  · exact Ok.gd hm (Ok.gd (divOk_ok h (by omega)) (Ok.sm ⟨Int.emod_nonneg _ hz, Int.emod_lt_of_pos _ h⟩))
  · have b1 : 0 ≤ (p.2 * 48271 + 11) % 2147483647 := Int.emod_nonneg _ (by decide)
    have b2 : (p.2 * 48271 + 11) % 2147483647 < 2147483647 := Int.emod_lt_of_pos _ (by decide)
    refine Ok.gd (mulOk_r (by decide) (by decide)) (Ok.gd (by decide) (Ok.gd (mulOk_l ?_ ?_) (Ok.gd (by decide) (Ok.gd (by decide) (Ok.gd hm (Ok.sm ⟨Int.emod_nonneg _ hz, Int.emod_lt_of_pos _ h⟩))))))
    · show -(2 ^ 64) < (p.2 * 48271 + 11) % 2147483647
      omega
    · show (p.2 * 48271 + 11) % 2147483647 < 2 ^ 64
      omega
theorem pool_ok {ns : List Int} {k : Int} (h0 : 0 ≤ k) (h1 : k < 1000) : Ok (m_law_pool ns k) fun _ => True := by
  unfold m_law_pool
  refine Ok.bd (P := fun _ => True) (Ok.gd (shp_lI _) (Ok.gd (shp_lI _) (Ok.ite (fun e => ?_) fun _ => Ok.sm trivial))) fun t _ => ?_
  · have hn : ns ≠ [] := by simpa using e
    have hl : (0 : Int) < (ns.length : Int) := by
      cases ns with
      | nil => exact absurd rfl hn
      | cons x xs => show (0 : Int) < ((xs.length + 1 : Nat) : Int); omega
    refine Ok.gd (modOk_ok hl) ?_
    have b1 : 0 ≤ k % (ns.length : Int) := Int.emod_nonneg _ (by omega)
    have b2 : k % (ns.length : Int) < ns.length := Int.emod_lt_of_pos _ hl
    have hlt : (k % (ns.length : Int)).toNat < ns.length := by omega
    exact Ok.bde (a := ns[(k % (ns.length : Int)).toNat]) (by rw [atI_nn b1 b2]; simp [hlt]) (Ok.sm trivial)
  · have b1 : 0 ≤ t % 2147483629 := Int.emod_nonneg _ (by decide)
    have b2 : t % 2147483629 < 2147483629 := Int.emod_lt_of_pos _ (by decide)
    refine Ok.gd (by decide) (Ok.gd (mulOk_l (by decide) (by decide)) (Ok.gd (mulOk_r (by decide) (by decide)) (Ok.gd (by decide) (Ok.gd (by decide) (Ok.gd (mulOk_r ?_ ?_) (Ok.sm trivial))))))
    · unfold b2I; split <;> decide
    · unfold b2I; split <;> decide

/-! ### texts of the 68 signs -/
abbrev SG : Str := " #-.0123456789:>ABCDEFGHIJKLMNOPQRSTUVWXYZabcdefghijklmnopqrstuvwxyz"
def gs (s : Str) : Prop := ∀ c ∈ cl s, c ∈ cl SG
theorem gs_app {a b : Str} (h : gs a) (k : gs b) : gs (a ++ b) := by
  intro c hc
  rw [cl_app, List.mem_append] at hc
  exact hc.elim (h c) (k c)
theorem gs_sg {c : Nat} (h : c ∈ cl SG) : gs ⟨#[c]⟩ := fun d hd => by
  rw [cl_sg, List.mem_singleton] at hd
  rw [hd]; exact h
theorem mem_cut {α : Type} {xs : List α} {lo hi : Option Int} {a : α} (h : a ∈ cut xs lo hi) : a ∈ xs := List.mem_of_mem_drop (List.mem_of_mem_take h)
theorem gs_cut {s : Str} {lo hi : Option Int} (h : gs s) : gs (cutS s lo hi) := fun c hc => h c (mem_cut (by rw [← cl_cut]; exact hc))
theorem gs_rep {s : Str} {n : Int} (h0 : 0 ≤ n) (h : gs s) : gs (repS s n) := fun c hc => by
  rw [repS_cl h0, List.mem_flatten] at hc
  obtain ⟨l, h1, h2⟩ := hc
  rw [List.mem_replicate] at h1
  exact h c (h1.2 ▸ h2)
theorem gs_ok {s : Str} (h : gs s) : okS s := by
  have e : ∀ c ∈ cl SG, c < 0x110000 := by decide +kernel
  show (s.cps.all (· < 0x110000)) = true
  rw [Array.all_eq_true_iff_forall_mem]
  intro c hc
  exact decide_eq_true (e c (h c (Array.mem_toList_iff.mpr hc)))
theorem gs_nil : gs "" := fun c hc => by
  have e : cl "" = [] := by decide +kernel
  rw [e] at hc
  exact absurd hc List.not_mem_nil
theorem gs_at {s z : Str} {c : Nat} {i : Nat} (h : gs s) (h1 : (cl s)[i]? = some c) (h2 : z = ⟨#[c]⟩) : gs z ∧ z.length = 1 := by
  subst h2
  exact ⟨gs_sg (h c (List.mem_of_getElem? h1)), rfl⟩
theorem gs_SG : gs SG := fun c hc => hc
theorem ix_gs {s : Str} {i : Int} (g : gs s) (h : 0 ≤ i) (h2 : i < s.length) (h3 : s.length ≤ 1000000) : Ok (ixS s i) fun z => gs z ∧ z.length = 1 :=
  (ixS_ok h h2 (Nat.le_trans h3 sizeLine_big)).mono fun z ⟨c, h1, h2⟩ => gs_at g h1 h2
theorem len_app (a b : Str) : (a ++ b).length = a.length + b.length := by rw [cl_len, cl_app, List.length_append, ← cl_len, ← cl_len]
theorem len_rep {s : Str} {n : Int} (h : 0 ≤ n) : (repS s n).length = n.toNat * s.length := by
  rw [cl_len, repS_cl h, List.length_flatten, List.map_replicate, List.sum_replicate_nat, ← cl_len]
theorem len_cut_to {s : Str} {n : Int} (h : 0 ≤ n) : (cutS s none (some n)).length = min n.toNat s.length := by
  rw [cl_len, cl_cut, cut_to _ h, List.length_take, ← cl_len]
theorem len_cut_from {s : Str} {n : Int} (h : 0 ≤ n) : (cutS s (some n) none).length = s.length - n.toNat := by
  rw [cl_len, cl_cut, cut_from _ h, List.length_drop, ← cl_len]
theorem len_nil : ("" : Str).length = 0 := by decide +kernel

/-! ### drawn texts, parts, lines -/
theorem text_ok {p : Int × Int} : Ok (m_law_text p) fun r => gs r.1 ∧ 1 ≤ r.1.length ∧ r.1.length ≤ 4 := by
  unfold m_law_text
  refine Ok.bd (take_ok (by decide) (by decide)) fun t1 _ => Ok.bd (take_ok (by decide) (by decide)) fun t2 h2 => ?_
  refine Ok.gd (rgOk_ok (by omega) (by omega) (by omega) (by omega)) ?_
  refine Ok.bd (Ok.loop (fun pre s => gs s.2 ∧ s.2.length = pre.length) ⟨gs_nil, len_nil⟩ fun pre x post s e ⟨g, l⟩ => ?_) fun s ⟨g, l⟩ => Ok.sm ⟨g, ?_, ?_⟩
  · unfold m_law_text_b1
    have fin : ∀ z : Str, gs z ∧ z.length = 1 → pre.length < 100 → gs (s.2 ++ z) ∧ (s.2 ++ z).length = (pre ++ [x]).length := fun z ⟨gz, lz⟩ _ => ⟨gs_app g gz, by rw [len_app, lz, l]; simp⟩
    have hp : pre.length < 100 := by
      have := congrArg List.length e
      rw [rng_len] at this
      simp at this
      omega
    refine Ok.ite (fun _ => ?_) fun _ => ?_
    · unfold m_law_all_signs
      refine Ok.bde rfl (Ok.bd (take_ok (by decide) (by decide)) fun d hd => Ok.bd (ix_gs gs_SG hd.1 ?_ (by decide +kernel)) fun z hz => Ok.gd (catOk_ok ?_) (Ok.sm (fin z hz hp)))
      · show d.1 < ((68 : Nat) : Int)
        exact hd.2
      · rw [hz.2, l]; omega
    · refine Ok.bd (take_ok (by decide) (by decide)) fun d hd => Ok.bd (ix_gs (s := "a1-b") (fun c hc => ?_) hd.1 ?_ (by decide +kernel)) fun z hz => Ok.gd (catOk_ok ?_) (Ok.sm (fin z hz hp))
      · revert c; decide +kernel
      · show d.1 < ((4 : Nat) : Int)
        exact hd.2
      · rw [hz.2, l]; omega
  · show 1 ≤ s.2.length
    rw [l, rng_len]; omega
  · show s.2.length ≤ 4
    rw [l, rng_len]; omega
abbrev DG : Str := "<digits>"
abbrev WD : Str := "<word>"
abbrev AN : Str := "<any>"
/-- a part as a form has it -/
def part (s : Str) : Prop := s = AN ∨ s = DG ∨ s = WD ∨ (gs s ∧ 1 ≤ s.length ∧ s.length ≤ 4)
theorem part_ok {s : Str} (h : part s) : okS s := by
  rcases h with rfl | rfl | rfl | h
  · show PyData.strOk _ = true; decide +kernel
  · show PyData.strOk _ = true; decide +kernel
  · show PyData.strOk _ = true; decide +kernel
  · exact gs_ok h.1
theorem part_len {s : Str} (h : part s) : 1 ≤ s.length ∧ s.length ≤ 8 := by
  rcases h with rfl | rfl | rfl | h
  · decide +kernel
  · decide +kernel
  · decide +kernel
  · omega
theorem rich_ok {p : Int × Int} : Ok (m_law_rich p) fun r => (∀ s ∈ r.1, part s) ∧ 1 ≤ r.1.length ∧ r.1.length ≤ 4 := by
  unfold m_law_rich
  refine Ok.bd (take_ok (by decide) (by decide)) fun t1 h1 => Ok.gd (rgOk_ok (by omega) (by omega) (by omega) (by omega)) ?_
  refine Ok.bd (Ok.loop (fun pre s => (∀ z ∈ s.2, part z) ∧ s.2.length = pre.length) ⟨fun z hz => absurd hz List.not_mem_nil, rfl⟩ fun pre x post s e ⟨g, l⟩ => ?_) fun s ⟨g, l⟩ => Ok.sm ⟨g, ?_, ?_⟩
  · have hp : pre.length < 100 := by
      have := congrArg List.length e
      rw [rng_len] at this
      simp at this
      omega
    have fin : ∀ z : Str, part z → (∀ y ∈ s.2 ++ [z], part y) ∧ (s.2 ++ [z]).length = (pre ++ [x]).length := fun z hz => by
      refine ⟨fun y hy => ?_, by simp [l]⟩
      rcases List.mem_append.mp hy with hy | hy
      · exact g y hy
      · rw [List.mem_singleton] at hy; rw [hy]; exact hz
    have hf : fits s.2 = true := fits_ok (by omega)
    unfold m_law_rich_b1
    refine Ok.bd (take_ok (by decide) (by decide)) fun t2 h2 => Ok.gd (shp_lS fun z hz => part_ok (g z hz)) (Ok.gd (shp_lS fun z hz => absurd hz List.not_mem_nil) ?_)
    refine Ok.bd (P := fun _ => True) (Ok.ite (fun hn => ?_) fun _ => Ok.sm trivial) fun b _ => ?_
    · have hn : s.2 ≠ [] := by simpa using hn
      obtain ⟨q, z, hq⟩ : ∃ q z, s.2 = q ++ [z] := ⟨s.2.dropLast, s.2.getLast hn, (List.dropLast_concat_getLast hn).symm⟩
      exact Ok.bde (a := z) (by rw [hq]; exact atI_last) (Ok.sm trivial)
    · refine Ok.ite (fun _ => Ok.gd hf (Ok.sm (fin _ (.inl rfl)))) fun _ => Ok.ite (fun _ => Ok.gd hf (Ok.sm (fin _ (.inr (.inl rfl))))) fun _ => Ok.ite (fun _ => Ok.gd hf (Ok.sm (fin _ (.inr (.inr (.inl rfl)))))) fun _ => ?_
      exact Ok.bd text_ok fun t3 h3 => Ok.gd hf (Ok.sm (fin _ (.inr (.inr (.inr h3)))))
  · show 1 ≤ s.2.length
    rw [l, rng_len]; omega
  · show s.2.length ≤ 4
    rw [l, rng_len]; omega
theorem line_ok {p : Int × Int} {ps : List Str} (h : ∀ s ∈ ps, part s) (hl : ps.length ≤ 4) : Ok (m_law_line p ps) fun r => gs r.1 ∧ r.1.length ≤ 40 := by
  unfold m_law_line
  refine Ok.bd (Ok.loop (fun pre s => gs s.2 ∧ s.2.length ≤ 10 * pre.length) ⟨gs_nil, by rw [len_nil]; omega⟩ fun pre x post s e ⟨g, l⟩ => ?_) fun s ⟨g, l⟩ => Ok.sm ⟨g, ?_⟩
  · have hp : pre.length ≤ 3 := by
      have := congrArg List.length e
      simp at this
      omega
    have hx : part x := h x (by rw [e]; simp)
    have fin : ∀ z : Str, gs z → z.length ≤ 10 → gs (s.2 ++ z) ∧ (s.2 ++ z).length ≤ 10 * (pre ++ [x]).length := fun z gz lz => ⟨gs_app g gz, by rw [len_app]; simp; omega⟩
    have rep : ∀ (z : Str) (n : Int), gs z → z.length ≤ 4 → 0 ≤ n → n * z.length ≤ 10 → n ≤ 100 → repOk z n = true ∧ catOk s.2 (repS z n) = true ∧ gs (s.2 ++ repS z n) ∧ (s.2 ++ repS z n).length ≤ 10 * (pre ++ [x]).length := by
      intro z n gz lz h0 h1 h2
      have e1 : (repS z n).length ≤ 10 := by
        rw [len_rep h0]
        have e2 : ((n.toNat * z.length : Nat) : Int) ≤ 10 := by
          rw [Int.natCast_mul, Int.toNat_of_nonneg h0]; exact h1
        omega
      exact ⟨repOk_ok h0 h2 (by omega), catOk_ok (by omega), fin _ (gs_rep h0 gz) e1⟩
    unfold m_law_line_b1
    refine Ok.ite (fun _ => ?_) fun n1 => Ok.ite (fun _ => ?_) fun n2 => Ok.ite (fun _ => ?_) fun n3 => ?_
    · refine Ok.bd (take_ok (by decide) (by decide)) fun d hd => Ok.bd (ix_gs (s := "0123456789") (fun c hc => ?_) hd.1 ?_ (by decide +kernel)) fun z hz => Ok.bd (take_ok (by decide) (by decide)) fun d2 hd2 => ?_
      · revert c; decide +kernel
      · show d.1 < ((10 : Nat) : Int)
        exact hd.2
      · obtain ⟨r1, r2, r3, r4⟩ := rep z (1 + d2.1) hz.1 (by omega) (by omega) (by rw [hz.2]; omega) (by omega)
        exact Ok.gd r1 (Ok.gd r2 (Ok.sm ⟨r3, r4⟩))
    · refine Ok.bd (take_ok (by decide) (by decide)) fun d hd => Ok.bd (ix_gs (s := "aBzb") (fun c hc => ?_) hd.1 ?_ (by decide +kernel)) fun z hz => Ok.bd (take_ok (by decide) (by decide)) fun d2 hd2 => ?_
      · revert c; decide +kernel
      · show d.1 < ((4 : Nat) : Int)
        exact hd.2
      · obtain ⟨r1, r2, r3, r4⟩ := rep z (1 + d2.1) hz.1 (by omega) (by omega) (by rw [hz.2]; omega) (by omega)
        exact Ok.gd r1 (Ok.gd r2 (Ok.sm ⟨r3, r4⟩))
    · refine Ok.bd text_ok fun z hz => Ok.bd (take_ok (by decide) (by decide)) fun d2 hd2 => ?_
      obtain ⟨r1, r2, r3, r4⟩ := rep z.1 d2.1 hz.1 hz.2.2 (by omega) (by
        have : d2.1 = 0 ∨ d2.1 = 1 ∨ d2.1 = 2 := by omega
        rcases this with e | e | e <;> rw [e] <;> omega) (by omega)
      exact Ok.gd r1 (Ok.gd r2 (Ok.sm ⟨r3, r4⟩))
    · rcases hx with rfl | rfl | rfl | hx
      · exact absurd n3 (by decide +kernel)
      · exact absurd n1 (by decide +kernel)
      · exact absurd n2 (by decide +kernel)
      · exact Ok.gd (catOk_ok (by omega)) (Ok.sm (fin x hx.1 (by omega)))
  · show s.2.length ≤ 40
    omega
theorem spoiled_ok {p : Int × Int} {z : Str} (g : gs z) (h : z.length ≤ 100) : Ok (m_law_spoiled p z) fun r => gs r.1 ∧ r.1.length ≤ z.length + 1 := by
  unfold m_law_spoiled
  have hf : fitsS z = true := fitsS_ok (by omega)
  refine Ok.gd hf (Ok.bd (take_ok (by omega) (by omega)) fun t1 h1 => ?_)
  unfold m_law_all_signs
  refine Ok.bde rfl (Ok.bd (take_ok (by decide) (by decide)) fun d hd => Ok.bd (ix_gs gs_SG hd.1 ?_ (by decide +kernel)) fun y hy => Ok.bd (take_ok (by decide) (by decide)) fun t2 h2 => ?_)
  · show d.1 < ((68 : Nat) : Int)
    exact hd.2
  have l1 := len_cut_to (s := z) h1.1
  have l2 := len_cut_from (s := z) h1.1
  have l3 := len_cut_from (s := z) (n := t1.1 + 1) (by omega)
  have g1 : gs (cutS z none (some t1.1)) := gs_cut g
  have g2 : gs (cutS z (some t1.1) none) := gs_cut g
  have g3 : gs (cutS z (some (t1.1 + 1)) none) := gs_cut g
  have l4 := len_app (cutS z none (some t1.1)) y
  refine Ok.ite (fun _ => Ok.gd hf (Ok.gd (catOk_ok (by omega)) (Ok.gd hf (Ok.gd (catOk_ok (by omega)) (Ok.sm ⟨gs_app (gs_app g1 hy.1) g2, ?_⟩))))) fun _ => Ok.ite (fun _ => Ok.gd hf (Ok.gd hf (Ok.gd (catOk_ok (by omega)) (Ok.sm ⟨gs_app g1 g3, ?_⟩)))) fun _ =>
    Ok.ite (fun _ => Ok.gd hf (Ok.gd (catOk_ok (by omega)) (Ok.gd hf (Ok.gd (catOk_ok (by omega)) (Ok.sm ⟨gs_app (gs_app g1 hy.1) g3, ?_⟩))))) fun _ => Ok.sm ⟨g, by show z.length ≤ _; omega⟩
  · show (_ ++ _ : Str).length ≤ _
    rw [len_app, len_app]; omega
  · show (_ ++ _ : Str).length ≤ _
    rw [len_app]; omega
  · show (_ ++ _ : Str).length ≤ _
    rw [len_app, len_app]; omega

/-! ### matching -/
theorem Ok.wh {S : Type} {c : S → Option (Bool × S)} {f : S → Option S} {Q : S → Prop} (I : S → Prop) (m : S → Nat) (hs : ∀ s, I s → Ok (c s) fun b => (b.1 = false ∧ Q b.2) ∨ (b.1 = true ∧ Ok (f b.2) fun s' => I s' ∧ m s' < m s)) : ∀ (N : Nat) (s : S), I s → m s < N → Ok (whileS c f N s) Q
  | 0, _, _, h => absurd h (Nat.not_lt_zero _)
  | N + 1, s, i, h => by
    obtain ⟨b, e, h1⟩ := hs s i
    show Ok ((c s).bind fun b => if b.1 = true then (f b.2).bind fun s' => whileS c f N s' else some b.2) Q
    rw [e]
    show Ok (if b.1 = true then (f b.2).bind fun s' => whileS c f N s' else some b.2) Q
    rcases h1 with ⟨hb, q⟩ | ⟨hb, h2⟩
    · rw [hb]; exact Ok.sm q
    · rw [hb]
      exact Ok.bd h2 fun s' ⟨i', h3⟩ => Ok.wh I m hs N s' i' (by omega)
theorem nodup_len : ∀ (n : Nat) (l : List Int), l.Nodup → (∀ x ∈ l, 0 ≤ x ∧ x < n) → l.length ≤ n
  | 0, l, _, h => by
    cases l with
    | nil => exact Nat.le_refl _
    | cons x l => have := h x List.mem_cons_self; omega
  | n + 1, l, hn, h => by
    have h1 := nodup_len n (l.erase (n : Int)) (hn.erase _) fun x hx => by
      rw [hn.mem_erase_iff] at hx
      have := h x hx.2
      have := hx.1
      omega
    by_cases hm : (n : Int) ∈ l
    · rw [List.length_erase_of_mem hm] at h1; omega
    · rw [List.erase_of_not_mem hm] at h1; omega
/-- what a cell takes -/
def tk (c x : Str) : Bool := if c = AN then true else if c = DG then inS x "0123456789" else if c = WD then inS x "ABCDEFGHIJKLMNOPQRSTUVWXYZabcdefghijklmnopqrstuvwxyz" else decide (c = x)
open Classical in
noncomputable def Pc (c : Str) (u : List Nat) : Prop := if c = AN then True else if c = DG ∨ c = WD then u ≠ [] ∧ ∀ x ∈ u, tk c ⟨#[x]⟩ = true else u = cl c
def Mt : List Str → List Nat → Prop
  | [], w => w = []
  | c :: cs, w => ∃ u v, w = u ++ v ∧ Pc c u ∧ Mt cs v
theorem Mt_snoc {c : Str} : ∀ {cs : List Str} {w : List Nat}, Mt (cs ++ [c]) w ↔ ∃ u v, w = u ++ v ∧ Mt cs u ∧ Pc c v
  | [], w => by
    constructor
    · rintro ⟨u, v, rfl, h, rfl⟩
      exact ⟨[], u, by simp, rfl, h⟩
    · rintro ⟨u, v, rfl, rfl, h⟩
      exact ⟨v, [], by simp, h, rfl⟩
  | d :: cs, w => by
    constructor
    · rintro ⟨u, v, rfl, h, k⟩
      obtain ⟨u2, v2, rfl, h2, k2⟩ := Mt_snoc.mp k
      exact ⟨u ++ u2, v2, by simp, ⟨u, u2, rfl, h, h2⟩, k2⟩
    · rintro ⟨u, v, rfl, ⟨u1, u2, rfl, h1, h2⟩, k⟩
      exact ⟨u1, u2 ++ v, by simp, h1, Mt_snoc.mpr ⟨u2, v, rfl, h2, k⟩⟩
theorem AN_ne : ¬ DG = AN ∧ ¬ WD = AN ∧ ¬ WD = DG := by decide +kernel
theorem Pc_any {u : List Nat} : Pc AN u := by unfold Pc; rw [if_pos rfl]; trivial
theorem Pc_run {c : Str} {u : List Nat} (h : c = DG ∨ c = WD) : Pc c u ↔ u ≠ [] ∧ ∀ x ∈ u, tk c ⟨#[x]⟩ = true := by
  have n : ¬ c = AN := by rcases h with rfl | rfl; exact AN_ne.1; exact AN_ne.2.1
  unfold Pc
  rw [if_neg n, if_pos h]
theorem Pc_fix {c : Str} {u : List Nat} (n : ¬ c = AN) (h : ¬ (c = DG ∨ c = WD)) : Pc c u ↔ u = cl c := by
  unfold Pc
  rw [if_neg n, if_neg h]
theorem takes_eq (c x : Str) : m_takes c x = some (tk c x) := by
  unfold m_takes tk
  by_cases h1 : c = AN
  · rw [if_pos (decide_eq_true h1), if_pos h1]
  · rw [if_neg (by rw [decide_eq_false h1]; decide), if_neg h1]
    by_cases h2 : c = DG
    · rw [if_pos (decide_eq_true h2), if_pos h2]
    · rw [if_neg (by rw [decide_eq_false h2]; decide), if_neg h2]
      by_cases h3 : c = WD
      · rw [if_pos (decide_eq_true h3), if_pos h3]
      · rw [if_neg (by rw [decide_eq_false h3]; decide), if_neg h3]
theorem ltakes_eq (c x : Str) (h : c = DG ∨ c = WD) : m_law_takes c x = some (tk c x) := by
  unfold m_law_takes tk
  rcases h with rfl | rfl
  · rw [if_pos (decide_eq_true rfl), if_neg AN_ne.1, if_pos rfl]
  · rw [if_neg (by rw [decide_eq_false AN_ne.2.2]; decide), if_neg AN_ne.2.1, if_neg AN_ne.2.2, if_pos rfl, decide_eq_true rfl, Bool.true_and]
theorem ite_no {α : Type} {p : Prop} [Decidable p] {x y : α} (h : ¬ p) : (if decide p = true then x else y) = y := if_neg (by rw [decide_eq_false h]; decide)
theorem ite_ya {α : Type} {p : Prop} [Decidable p] {x y : α} (h : p) : (if decide p = true then x else y) = x := if_pos (decide_eq_true h)
/-- the ends of a piece that begins at at_ -/
theorem ends_ok {c line : Str} {a : Int} (h0 : 0 ≤ a) (h1 : a ≤ line.length) (hl : line.length ≤ 500) (hc : c.length ≤ 500) :
    Ok (m_law_ends c line a) fun es => es.Nodup ∧ ∀ e, e ∈ es ↔ a ≤ e ∧ e ≤ line.length ∧ Pc c (((cl line).drop a.toNat).take (e.toNat - a.toNat)) := by
  have hf : fitsS line = true := fitsS_ok (by omega)
  have hfc : fitsS c = true := fitsS_ok (by omega)
  have rnd : ∀ a b : Int, (rng a b).Nodup := fun a b => by
    unfold rng
    refine List.Pairwise.map _ (fun x y h => ?_) List.nodup_range
    intro e
    apply h
    omega
  unfold m_law_ends
  by_cases n1 : c = AN
  · rw [ite_ya n1]
    refine Ok.gd hf (Ok.gd (rgFit_ok (by omega) (by omega) (by omega) (by omega)) (Ok.sm ⟨rnd _ _, fun e => ?_⟩))
    rw [rng_mem]
    subst n1
    constructor
    · intro h; exact ⟨h.1, by omega, Pc_any⟩
    · intro h; omega
  · rw [ite_no n1]
    by_cases n2 : c = DG ∨ c = WD
    · have mem : c ∈ [("<digits>" : Str), ("<word>" : Str)] := by
        rcases n2 with h | h
        · rw [h]; exact List.mem_cons_self
        · rw [h]; exact List.mem_cons_of_mem _ List.mem_cons_self
      rw [ite_ya mem]
      refine Ok.bd (P := fun es => es.Nodup ∧ ∀ e, e ∈ es ↔ a ≤ e ∧ e ≤ line.length ∧ Pc c (((cl line).drop a.toNat).take (e.toNat - a.toNat))) ?_ fun es hes => Ok.sm hes
      have ll : (cl line).length = line.length := (cl_len line).symm
      refine Ok.bd (P := fun s : List Int × Int => s.1 = rng (a + 1) (s.2 + 1) ∧ a ≤ s.2 ∧ s.2 ≤ line.length ∧ (∀ j : Nat, a ≤ j → (j : Int) < s.2 → ∃ x, (cl line)[j]? = some x ∧ tk c ⟨#[x]⟩ = true) ∧ (s.2 < line.length → ∃ x, (cl line)[s.2.toNat]? = some x ∧ tk c ⟨#[x]⟩ = false)) ?_ fun s ⟨e1, e2, e3, e4, e5⟩ => Ok.sm ⟨by rw [e1]; exact rnd _ _, fun e => ?_⟩
      · refine Ok.wh (fun s : List Int × Int => s.1 = rng (a + 1) (s.2 + 1) ∧ a ≤ s.2 ∧ s.2 ≤ line.length ∧ (∀ j : Nat, a ≤ j → (j : Int) < s.2 → ∃ x, (cl line)[j]? = some x ∧ tk c ⟨#[x]⟩ = true)) (fun s => line.length - s.2.toNat) (fun s ⟨e1, e2, e3, e4⟩ => ?_) fuel _ ⟨?_, Int.le_refl _, h1, fun j h2 h3 => absurd h3 (by omega)⟩ ?_
        · unfold m_law_ends_b1
          refine Ok.gd hf ?_
          by_cases hlt : s.2 < (line.length : Int)
          · rw [ite_ya hlt]
            have hlt2 : s.2.toNat < (cl line).length := by rw [ll]; omega
            have hz : ixS line s.2 = some ⟨#[(cl line)[s.2.toNat]]⟩ := by
              obtain ⟨z, e, x, hx, hz⟩ := ixS_ok (s := line) (i := s.2) (by omega) hlt (Nat.le_trans hl (Nat.le_trans (by decide) sizeLine_big))
              rw [e, hz]
              rw [List.getElem?_eq_getElem hlt2] at hx
              rw [Option.some.inj hx]
            rw [hz]
            show Ok (((m_law_takes c _).bind fun t68 => some t68).bind _) _
            rw [ltakes_eq c _ n2]
            show Ok (some (tk c _, (s.1, s.2))) _
            refine Ok.sm ?_
            cases hb : tk c ⟨#[(cl line)[s.2.toNat]]⟩ with
            | false => exact .inl ⟨rfl, e1, e2, e3, e4, fun _ => ⟨_, List.getElem?_eq_getElem hlt2, hb⟩⟩
            | true =>
              refine .inr ⟨rfl, ?_⟩
              unfold m_law_ends_b2
              refine Ok.gd (fits_ok ?_) (Ok.sm ⟨⟨?_, ?_, ?_, fun j h2 h3 => ?_⟩, ?_⟩)
              · show s.1.length < 1000000
                rw [e1, rng_len]; omega
              · show s.1 ++ [s.2 + 1] = rng (a + 1) (s.2 + 1 + 1)
                rw [rng_snoc (by omega), e1]
              · show a ≤ s.2 + 1
                omega
              · show s.2 + 1 ≤ line.length
                omega
              · have h3 : (j : Int) < s.2 + 1 := h3
                by_cases ej : (j : Int) < s.2
                · exact e4 j h2 ej
                · have : j = s.2.toNat := by omega
                  subst this
                  exact ⟨_, List.getElem?_eq_getElem hlt2, hb⟩
              · show line.length - (s.2 + 1).toNat < line.length - s.2.toNat
                omega
          · rw [ite_no hlt]
            show Ok (some (false, (s.1, s.2))) _
            exact Ok.sm (.inl ⟨rfl, e1, e2, e3, e4, fun h => absurd h hlt⟩)
        · show [] = rng (a + 1) (a + 1)
          unfold rng
          rw [show (a + 1 - (a + 1)).toNat = 0 by omega]; rfl
        · show line.length - a.toNat < 1000000000
          omega
      · show e ∈ s.1 ↔ _
        rw [e1, rng_mem, Pc_run n2]
        constructor
        · intro h
          refine ⟨by omega, by omega, ?_, fun x hx => ?_⟩
          · intro h2
            have := congrArg List.length h2
            rw [List.length_take, List.length_drop] at this
            simp at this
            omega
          · obtain ⟨i, hi⟩ := List.getElem?_of_mem hx
            rw [List.getElem?_take] at hi
            split at hi
            · rw [List.getElem?_drop] at hi
              obtain ⟨y, hy1, hy2⟩ := e4 (a.toNat + i) (by omega) (by omega)
              rw [hi] at hy1
              cases hy1
              exact hy2
            · cases hi
        · rintro ⟨h2, h3, h4, h5⟩
          refine ⟨?_, ?_⟩
          · apply Classical.byContradiction
            intro h6
            have : e.toNat - a.toNat = 0 := by omega
            rw [this] at h4
            exact h4 rfl
          · apply Classical.byContradiction
            intro h6
            obtain ⟨x, hx1, hx2⟩ := e5 (by omega)
            have := h5 x (by
              apply List.mem_of_getElem? (i := s.2.toNat - a.toNat)
              rw [List.getElem?_take, if_pos (by omega), List.getElem?_drop, ← hx1]
              congr 1
              omega)
            rw [this] at hx2
            cases hx2
    · have mem : ¬ c ∈ [("<digits>" : Str), ("<word>" : Str)] := by
        intro h
        rcases List.mem_cons.mp h with h | h
        · exact n2 (.inl h)
        · rcases List.mem_cons.mp h with h | h
          · exact n2 (.inr h)
          · cases h
      rw [ite_no mem]
      refine Ok.bd (P := fun es => es.Nodup ∧ ∀ e, e ∈ es ↔ a ≤ e ∧ e ≤ line.length ∧ Pc c (((cl line).drop a.toNat).take (e.toNat - a.toNat))) ?_ fun es hes => Ok.sm hes
      have ll : (cl line).length = line.length := (cl_len line).symm
      have cc : (cl c).length = c.length := (cl_len c).symm
      have ec : cl (cutS line (some a) (some (a + (c.length : Int)))) = ((cl line).drop a.toNat).take c.length := by
        rw [cl_cut, cut_mid _ h0 (by omega)]
        congr 1
        omega
      refine Ok.gd hfc (Ok.gd hf ?_)
      by_cases he : cutS line (some a) (some (a + (c.length : Int))) = c
      · rw [ite_ya he]
        rw [he] at ec
        refine Ok.gd hfc (Ok.gd (fits_ok (by simp)) (Ok.sm ⟨by simp, fun e => ?_⟩))
        rw [Pc_fix n1 n2]
        show e ∈ [a + (c.length : Int)] ↔ _
        rw [List.mem_singleton]
        have hlen := congrArg List.length ec
        rw [List.length_take, List.length_drop, cc, ll] at hlen
        constructor
        · rintro rfl
          refine ⟨by omega, by omega, ?_⟩
          rw [ec]
          congr 1
          omega
        · rintro ⟨h2, h3, h4⟩
          have := congrArg List.length h4
          rw [List.length_take, List.length_drop, cc, ll] at this
          omega
      · rw [ite_no he]
        refine Ok.sm ⟨List.nodup_nil, fun e => ?_⟩
        rw [Pc_fix n1 n2]
        constructor
        · intro h; cases h
        · rintro ⟨h2, h3, h4⟩
          exfalso
          apply he
          apply cl_inj
          rw [ec, ← h4]
          have := congrArg List.length h4
          rw [List.length_take, List.length_drop, cc, ll] at this
          congr 1
          omega
theorem take_mid {α : Type} {w : List α} {a b : Nat} (h : a ≤ b) : w.take b = w.take a ++ (w.drop a).take (b - a) := by
  have e : b = a + (b - a) := by omega
  rw [e, List.take_add, Nat.add_sub_cancel_left]
open Classical in
/-- a line fits parts -/
theorem fits_eq {ps : List Str} {line : Str} (hl : line.length ≤ 500) (hc : ∀ c ∈ ps, c.length ≤ 500) : m_law_fits ps line = some (decide (line ≠ "" ∧ Mt ps (cl line))) := by
  refine Ok.eq ?_
  have ll : (cl line).length = line.length := (cl_len line).symm
  have hf : fitsS line = true := fitsS_ok (by omega)
  unfold m_law_fits
  refine Ok.bd (Ok.loop (fun pre (s : List Int) => s.Nodup ∧ ∀ e, e ∈ s ↔ 0 ≤ e ∧ e ≤ line.length ∧ Mt pre ((cl line).take e.toNat)) ⟨by simp, fun e => ?_⟩ fun pre x post s hx ⟨nd, hs⟩ => ?_) fun s ⟨nd, hs⟩ => ?_
  · rw [List.mem_singleton]
    show e = 0 ↔ 0 ≤ e ∧ e ≤ line.length ∧ (cl line).take e.toNat = []
    constructor
    · rintro rfl; exact ⟨by omega, by omega, rfl⟩
    · rintro ⟨h1, h2, h3⟩
      have := congrArg List.length h3
      rw [List.length_take, ll] at this
      simp at this
      omega
  · unfold m_law_fits_b3
    refine Ok.bd (Ok.loop (fun pre2 (s2 : List Int) => s2.Nodup ∧ ∀ e, e ∈ s2 ↔ ∃ a ∈ pre2, a ≤ e ∧ e ≤ line.length ∧ Pc x (((cl line).drop a.toNat).take (e.toNat - a.toNat))) ⟨List.nodup_nil, fun e => ?_⟩ fun pre2 a post2 s2 ha ⟨nd2, hs2⟩ => ?_) fun s2 ⟨nd2, hs2⟩ => Ok.sm ⟨nd2, fun e => ?_⟩
    · constructor
      · intro h; cases h
      · rintro ⟨a, h, _⟩; cases h
    · have hab : a ∈ s := by rw [ha]; simp
      have hab2 := (hs a).mp hab
      have bnd : ∀ l : List Int, l.Nodup → (∀ e ∈ l, 0 ≤ e ∧ e ≤ line.length) → l.length ≤ 501 := fun l h h2 => by
        have := nodup_len (line.length + 1) l h fun e he => by have := h2 e he; omega
        omega
      have hb2 : ∀ e ∈ s2, 0 ≤ e ∧ e ≤ (line.length : Int) := fun e he => by
        obtain ⟨a', ha', h2, h3, _⟩ := (hs2 e).mp he
        have := ((hs a').mp (by rw [ha]; exact List.mem_append_left _ ha')).1
        omega
      unfold m_law_fits_b2
      refine Ok.bd (ends_ok hab2.1 hab2.2.1 hl (hc x (by rw [hx]; simp))) fun es ⟨nde, hes⟩ => ?_
      have hbe : ∀ e ∈ es, 0 ≤ e ∧ e ≤ (line.length : Int) := fun e he => by
        have := (hes e).mp he
        omega
      have l1 := bnd es nde hbe
      have l2 := bnd s2 nd2 hb2
      refine Ok.gd (fitsE_ok (by omega)) ?_
      refine Ok.bde (comp_pure (g := fun e => if (!decide (e ∈ s2)) = true then some e else none) fun e _ => ?_) ?_
      · unfold m_law_fits_b1
        cases decide (e ∈ s2) <;> rfl
      · rw [filterMap_ite]
        have l3 : (es.filter fun e => !decide (e ∈ s2)).length ≤ es.length := List.length_filter_le _ _
        refine Ok.gd (fits2_ok (by show s2.length + (es.filter fun e => !decide (e ∈ s2)).length ≤ 1000000; omega)) (Ok.sm ⟨?_, fun e => ?_⟩)
        · refine List.nodup_append.mpr ⟨nd2, nde.filter _, fun y hy z hz e => ?_⟩
          rw [List.mem_filter] at hz
          rw [e] at hy
          have h3 := hz.2
          simp [hy] at h3
        · rw [List.mem_append, List.mem_filter]
          constructor
          · rintro (h0 | ⟨h1, _⟩)
            · obtain ⟨a', h1, h2⟩ := (hs2 e).mp h0
              exact ⟨a', List.mem_append_left _ h1, h2⟩
            · exact ⟨a, by simp, (hes e).mp h1⟩
          · rintro ⟨a', h1, h2⟩
            rcases List.mem_append.mp h1 with h1 | h1
            · exact .inl ((hs2 e).mpr ⟨a', h1, h2⟩)
            · rw [List.mem_singleton] at h1
              subst h1
              by_cases h3 : e ∈ s2
              · exact .inl h3
              · exact .inr ⟨(hes e).mpr h2, by simp [h3]⟩
    · show e ∈ s2 ↔ _
      rw [hs2 e, Mt_snoc]
      constructor
      · rintro ⟨a, h1, h2, h3, h4⟩
        have h5 := (hs a).mp h1
        refine ⟨by omega, h3, (cl line).take a.toNat, _, take_mid (by omega), h5.2.2, h4⟩
      · rintro ⟨h1, h2, u, v, h3, h4, h5⟩
        have hlen := congrArg List.length h3
        rw [List.length_take, ll, List.length_append] at hlen
        have eu : u = (cl line).take u.length := by
          have h6 := congrArg (List.take u.length) h3
          rw [List.take_take, Nat.min_eq_left (by omega), List.take_left] at h6
          exact h6.symm
        have ev : v = ((cl line).drop u.length).take (e.toNat - u.length) := by
          have h6 := congrArg (List.drop u.length) h3
          rw [List.drop_take, List.drop_left] at h6
          exact h6.symm
        refine ⟨u.length, (hs _).mpr ⟨by omega, by omega, ?_⟩, by omega, h2, ?_⟩
        · rw [Int.toNat_natCast, ← eu]; exact h4
        · rw [Int.toNat_natCast, ← ev]; exact h5
  · by_cases hn : line = ""
    · rw [if_neg (by rw [decide_eq_true hn]; decide)]
      refine Ok.sm ?_
      rw [decide_eq_false (fun h => h.1 hn)]
    · rw [if_pos (by rw [decide_eq_false hn]; rfl)]
      refine Ok.bde (by rw [gd_true hf]) (Ok.sm ?_)
      have e1 : ((line.length : Int) ∈ s) ↔ Mt ps (cl line) := by
        rw [hs]
        rw [Int.toNat_natCast, ← ll, List.take_length]
        exact ⟨fun h => h.2.2, fun h => ⟨by omega, by omega, h⟩⟩
      by_cases hm : Mt ps (cl line)
      · rw [decide_eq_true (e1.mpr hm), decide_eq_true ⟨hn, hm⟩]
      · rw [decide_eq_false (fun h => hm (e1.mp h)), decide_eq_false (fun h => hm h.2)]

/-! ### positions -/
/-- a cell: one of the three others, or one sign -/
def cell (c : Str) : Prop := c = AN ∨ c = DG ∨ c = WD ∨ ∃ x, c = ⟨#[x]⟩ ∧ x ∈ cl SG
def Rp (cs : List Str) (w : List Nat) (p : Nat) : Prop := Mt (cs.take p) w
open Classical in
noncomputable def Sp (cs : List Str) (w : List Nat) (p : Nat) : Prop := if cs[p]? = some AN then Rp cs w (p + 1) else Rp cs w p
def Clo (cs : List Str) (F : Nat → Prop) : Nat → Prop
  | 0 => F 0
  | k + 1 => F (k + 1) ∨ (cs[k]? = some AN ∧ Clo cs F k)
theorem Clo_congr {cs : List Str} {F G : Nat → Prop} : ∀ {p : Nat}, (∀ q, q ≤ p → (F q ↔ G q)) → (Clo cs F p ↔ Clo cs G p)
  | 0, h => h 0 (Nat.le_refl _)
  | p + 1, h => by
    show (F (p + 1) ∨ _) ↔ (G (p + 1) ∨ _)
    rw [h (p + 1) (Nat.le_refl _), Clo_congr fun q hq => h q (Nat.le_succ_of_le hq)]
theorem Rp_succ {cs : List Str} {w : List Nat} {p : Nat} {c : Str} (h : cs[p]? = some c) : Rp cs w (p + 1) ↔ ∃ u v, w = u ++ v ∧ Rp cs u p ∧ Pc c v := by
  unfold Rp
  rw [List.take_succ, h]
  exact Mt_snoc
theorem Rp_zero {cs : List Str} {w : List Nat} : Rp cs w 0 ↔ w = [] := Iff.rfl
theorem Rp_any {cs : List Str} {w : List Nat} {x p : Nat} (h : cs[p]? = some AN) : Rp cs (w ++ [x]) (p + 1) ↔ Rp cs (w ++ [x]) p ∨ Rp cs w (p + 1) := by
  rw [Rp_succ h, Rp_succ h]
  constructor
  · rintro ⟨u, v, e, h1, _⟩
    rcases List.eq_nil_or_concat v with rfl | ⟨v', y, rfl⟩
    · rw [List.append_nil] at e; rw [e]; exact .inl h1
    · rw [List.concat_eq_append, ← List.append_assoc] at e
      obtain ⟨e1, _⟩ := List.append_inj' e rfl
      exact .inr ⟨u, v', e1, h1, Pc_any⟩
  · rintro (h1 | ⟨u, v, rfl, h1, _⟩)
    · exact ⟨_, [], by simp, h1, Pc_any⟩
    · exact ⟨u, v ++ [x], by simp, h1, Pc_any⟩
theorem Rp_le {cs : List Str} {w : List Nat} {p : Nat} (h : cs[p]? = some AN) (k : Rp cs w p) : Rp cs w (p + 1) := (Rp_succ h).mpr ⟨w, [], by simp, k, Pc_any⟩
theorem Rp_run {cs : List Str} {w : List Nat} {x p : Nat} {c : Str} (h : cs[p]? = some c) (hc : c = DG ∨ c = WD) : Rp cs (w ++ [x]) (p + 1) ↔ tk c ⟨#[x]⟩ = true ∧ (Rp cs w p ∨ Rp cs w (p + 1)) := by
  rw [Rp_succ h, Rp_succ h]
  constructor
  · rintro ⟨u, v, e, h1, h2⟩
    rw [Pc_run hc] at h2
    rcases List.eq_nil_or_concat v with rfl | ⟨v', y, rfl⟩
    · exact absurd rfl h2.1
    · rw [List.concat_eq_append] at e h2
      rw [← List.append_assoc] at e
      obtain ⟨e1, e2⟩ := List.append_inj' e rfl
      cases e2
      refine ⟨h2.2 x (by simp), ?_⟩
      by_cases hv : v' = []
      · subst hv; rw [List.append_nil] at e1; rw [e1]; exact .inl h1
      · exact .inr ⟨u, v', e1, h1, (Pc_run hc).mpr ⟨hv, fun z hz => h2.2 z (by simp [hz])⟩⟩
  · rintro ⟨ht, h1 | ⟨u, v, rfl, h1, h2⟩⟩
    · exact ⟨w, [x], rfl, h1, (Pc_run hc).mpr ⟨by simp, fun z hz => by rw [List.mem_singleton] at hz; rw [hz]; exact ht⟩⟩
    · rw [Pc_run hc] at h2
      exact ⟨u, v ++ [x], by simp, h1, (Pc_run hc).mpr ⟨by simp, fun z hz => by
        rcases List.mem_append.mp hz with hz | hz
        · exact h2.2 z hz
        · rw [List.mem_singleton] at hz; rw [hz]; exact ht⟩⟩
theorem sg_ne {y : Nat} : ¬ (⟨#[y]⟩ : Str) = AN ∧ ¬ ((⟨#[y]⟩ : Str) = DG ∨ (⟨#[y]⟩ : Str) = WD) := by
  have h : ∀ z : Str, (⟨#[y]⟩ : Str) = z → z.length = 1 := fun z e => by rw [← e]; rfl
  have h1 : ¬ AN.length = 1 := by decide +kernel
  have h2 : ¬ DG.length = 1 := by decide +kernel
  have h3 : ¬ WD.length = 1 := by decide +kernel
  exact ⟨fun e => h1 (h _ e), fun e => e.elim (fun e => h2 (h _ e)) fun e => h3 (h _ e)⟩
theorem Rp_fix {cs : List Str} {w : List Nat} {x y p : Nat} (h : cs[p]? = some ⟨#[y]⟩) : Rp cs (w ++ [x]) (p + 1) ↔ tk ⟨#[y]⟩ ⟨#[x]⟩ = true ∧ Rp cs w p := by
  obtain ⟨n1, n2⟩ := sg_ne (y := y)
  rw [Rp_succ h]
  have ht : tk ⟨#[y]⟩ ⟨#[x]⟩ = true ↔ y = x := by
    unfold tk
    rw [if_neg n1, if_neg fun e => n2 (.inl e), if_neg fun e => n2 (.inr e), decide_eq_true_eq]
    constructor
    · intro e; cases e; rfl
    · rintro rfl; rfl
  rw [ht]
  constructor
  · rintro ⟨u, v, e, h1, h2⟩
    rw [Pc_fix n1 n2, cl_sg] at h2
    subst h2
    obtain ⟨e1, e2⟩ := List.append_inj' e rfl
    cases e2
    exact ⟨rfl, e1 ▸ h1⟩
  · rintro ⟨rfl, h1⟩
    exact ⟨w, [y], rfl, h1, (Pc_fix n1 n2).mpr rfl⟩
/-- where a sign leads -/
def Fd (cs : List Str) (S : Nat → Prop) (x : Nat) (q : Nat) : Prop :=
  (∃ a c, S a ∧ cs[a]? = some c ∧ tk c ⟨#[x]⟩ = true ∧ q = if c = AN then a else a + 1) ∨ (S q ∧ 0 < q ∧ ∃ c, cs[q - 1]? = some c ∧ (c = DG ∨ c = WD) ∧ tk c ⟨#[x]⟩ = true)
theorem tk_any {x : Str} : tk AN x = true := by unfold tk; rw [if_pos rfl]
theorem Sp_any {cs : List Str} {w : List Nat} {p : Nat} (h : cs[p]? = some AN) : Sp cs w p ↔ Rp cs w (p + 1) := by unfold Sp; rw [if_pos h]
theorem Sp_no {cs : List Str} {w : List Nat} {p : Nat} (h : ¬ cs[p]? = some AN) : Sp cs w p ↔ Rp cs w p := by unfold Sp; rw [if_neg h]
theorem Sp_of {cs : List Str} {w : List Nat} {p : Nat} (h : Rp cs w p) : Sp cs w p := by
  by_cases e : cs[p]? = some AN
  · exact (Sp_any e).mpr (Rp_le e h)
  · exact (Sp_no e).mpr h
/-- a sign's step, whole -/
theorem step_iff {cs : List Str} (hc : ∀ c ∈ cs, cell c) {w : List Nat} {x : Nat} : ∀ p : Nat, p ≤ cs.length → (Clo cs (Fd cs (Sp cs w) x) p ↔ Sp cs (w ++ [x]) p) := by
  -- what the cell ahead gives
  have back : ∀ p : Nat, p + 1 ≤ cs.length → ∀ c, cs[p]? = some c → ¬ c = AN → (Fd cs (Sp cs w) x (p + 1) → Sp cs (w ++ [x]) (p + 1)) ∧ (Rp cs (w ++ [x]) (p + 1) → Fd cs (Sp cs w) x (p + 1)) := by
    intro p hp c h hn
    have hns : ¬ cs[p]? = some AN := by rw [h]; exact fun e => hn (Option.some.inj e)
    have hcell := hc c (List.mem_of_getElem? h)
    have rfix : c = DG ∨ c = WD ∨ ∃ y, c = ⟨#[y]⟩ := by
      rcases hcell with e | e | e | ⟨y, e, _⟩
      · exact absurd e hn
      · exact .inl e
      · exact .inr (.inl e)
      · exact .inr (.inr ⟨y, e⟩)
    constructor
    · rintro (⟨a, d, h1, h2, h3, h4⟩ | ⟨h1, _, d, h2, h3, h4⟩)
      · by_cases hd : d = AN
        · subst hd
          rw [if_pos rfl] at h4
          subst h4
          rw [Sp_any h2] at h1 ⊢
          exact (Rp_any h2).mpr (.inr h1)
        · rw [if_neg hd] at h4
          have e : a = p := by omega
          subst e
          rw [h] at h2
          cases h2
          rw [Sp_no hns] at h1
          refine Sp_of ?_
          rcases rfix with e | e | ⟨y, e⟩
          · exact (Rp_run h (.inl e)).mpr ⟨h3, .inl h1⟩
          · exact (Rp_run h (.inr e)).mpr ⟨h3, .inl h1⟩
          · subst e; exact (Rp_fix h).mpr ⟨h3, h1⟩
      · rw [Nat.add_sub_cancel, h] at h2
        cases h2
        by_cases e : cs[p + 1]? = some AN
        · rw [Sp_any e] at h1 ⊢
          exact (Rp_any e).mpr (.inr h1)
        · rw [Sp_no e] at h1 ⊢
          exact (Rp_run h h3).mpr ⟨h4, .inr h1⟩
    · intro h1
      rcases rfix with e | e | ⟨y, e⟩
      · obtain ⟨h2, h3 | h3⟩ := (Rp_run h (.inl e)).mp h1
        · exact .inl ⟨p, c, Sp_of h3, h, h2, by rw [if_neg hn]⟩
        · exact .inr ⟨Sp_of h3, Nat.succ_pos _, c, by rw [Nat.add_sub_cancel]; exact h, .inl e, h2⟩
      · obtain ⟨h2, h3 | h3⟩ := (Rp_run h (.inr e)).mp h1
        · exact .inl ⟨p, c, Sp_of h3, h, h2, by rw [if_neg hn]⟩
        · exact .inr ⟨Sp_of h3, Nat.succ_pos _, c, by rw [Nat.add_sub_cancel]; exact h, .inr e, h2⟩
      · subst e
        obtain ⟨h2, h3⟩ := (Rp_fix h).mp h1
        exact .inl ⟨p, _, Sp_of h3, h, h2, by rw [if_neg hn]⟩
  -- a cell for any signs that stays
  have stay : ∀ p, Fd cs (Sp cs w) x p → cs[p]? = some AN → (∃ p', p = p' + 1 ∧ cs[p']? = some AN) ∨ p = 0 → Sp cs (w ++ [x]) p := by
    rintro p (⟨a, d, h1, h2, h3, h4⟩ | ⟨h1, h0, d, h2, h3, h4⟩) hp hb
    · by_cases hd : d = AN
      · subst hd
        rw [if_pos rfl] at h4
        subst h4
        rw [Sp_any h2] at h1 ⊢
        exact (Rp_any h2).mpr (.inr h1)
      · rw [if_neg hd] at h4
        rcases hb with ⟨p', e1, e2⟩ | e
        · have : a = p' := by omega
          subst this
          rw [h2] at e2
          exact absurd (Option.some.inj e2) hd
        · omega
    · rw [Sp_any hp] at h1 ⊢
      exact (Rp_any hp).mpr (.inr h1)
  have stay2 : ∀ p, cs[p]? = some AN → Rp cs w (p + 1) → Fd cs (Sp cs w) x p := fun p h1 h2 => .inl ⟨p, AN, (Sp_any h1).mpr h2, h1, tk_any, by rw [if_pos rfl]⟩
  intro p
  induction p with
  | zero =>
    intro _
    show Fd cs (Sp cs w) x 0 ↔ _
    have nz : ¬ Rp cs (w ++ [x]) 0 := by rw [Rp_zero]; simp
    by_cases e : cs[0]? = some AN
    · rw [Sp_any e, Rp_any e]
      exact ⟨fun h => (Rp_any e).mp ((Sp_any e).mp (stay 0 h e (.inr rfl))), fun h => stay2 0 e (h.elim (fun h => absurd h nz) id)⟩
    · rw [Sp_no e]
      refine ⟨fun h => ?_, fun h => absurd h nz⟩
      rcases h with ⟨a, d, h1, h2, h3, h4⟩ | ⟨_, h0, _⟩
      · by_cases hd : d = AN
        · subst hd
          rw [if_pos rfl] at h4
          subst h4
          exact absurd h2 e
        · rw [if_neg hd] at h4; omega
      · omega
  | succ p ih =>
    intro hp
    have ih := ih (by omega)
    show (Fd cs (Sp cs w) x (p + 1) ∨ (cs[p]? = some AN ∧ Clo cs (Fd cs (Sp cs w) x) p)) ↔ _
    rw [ih]
    have hlt : p < cs.length := by omega
    obtain ⟨c, hcp⟩ : ∃ c, cs[p]? = some c := ⟨cs[p], List.getElem?_eq_getElem hlt⟩
    by_cases e : cs[p]? = some AN
    · -- the cell ahead is for any signs
      constructor
      · rintro (h | ⟨_, h⟩)
        · by_cases e1 : cs[p + 1]? = some AN
          · exact stay (p + 1) h e1 (.inl ⟨p, rfl, e⟩)
          · rcases h with ⟨a, d, h1, h2, h3, h4⟩ | ⟨_, _, d, h2, h3, _⟩
            · by_cases hd : d = AN
              · subst hd
                rw [if_pos rfl] at h4
                subst h4
                exact absurd h2 e1
              · rw [if_neg hd] at h4
                have : a = p := by omega
                subst this
                rw [h2] at e
                exact absurd (Option.some.inj e) hd
            · rw [Nat.add_sub_cancel, e] at h2
              cases h2
              rcases h3 with h3 | h3
              · exact absurd h3.symm AN_ne.1
              · exact absurd h3.symm AN_ne.2.1
        · rw [Sp_any e] at h
          exact Sp_of h
      · intro h
        by_cases e1 : cs[p + 1]? = some AN
        · rw [Sp_any e1, Rp_any e1] at h
          rcases h with h | h
          · exact .inr ⟨e, (Sp_any e).mpr h⟩
          · exact .inl (stay2 _ e1 h)
        · rw [Sp_no e1] at h
          exact .inr ⟨e, (Sp_any e).mpr h⟩
    · have hn : ¬ c = AN := fun z => e (by rw [hcp, z])
      obtain ⟨b1, b2⟩ := back p hp c hcp hn
      constructor
      · rintro (h | ⟨h, _⟩)
        · exact b1 h
        · exact absurd h e
      · intro h
        by_cases e1 : cs[p + 1]? = some AN
        · rw [Sp_any e1, Rp_any e1] at h
          rcases h with h | h
          · exact .inl (b2 h)
          · exact .inl (stay2 _ e1 h)
        · rw [Sp_no e1] at h
          exact .inl (b2 h)
/-- at the start -/
theorem start_iff {cs : List Str} (hc : ∀ c ∈ cs, cell c) : ∀ p : Nat, p ≤ cs.length → (Clo cs (fun q => q = 0) p ↔ Sp cs [] p) := by
  have nil : ∀ p c, cs[p]? = some c → (Rp cs [] (p + 1) ↔ c = AN ∧ Rp cs [] p) := by
    intro p c h
    rw [Rp_succ h]
    constructor
    · rintro ⟨u, v, e, h1, h2⟩
      obtain ⟨rfl, rfl⟩ := List.append_eq_nil_iff.mp e.symm
      refine ⟨?_, h1⟩
      rcases hc c (List.mem_of_getElem? h) with e | e | e | ⟨y, e, _⟩
      · exact e
      · exact absurd rfl ((Pc_run (.inl e)).mp h2).1
      · exact absurd rfl ((Pc_run (.inr e)).mp h2).1
      · subst e
        have := (Pc_fix sg_ne.1 sg_ne.2).mp h2
        cases this
    · rintro ⟨rfl, h1⟩
      exact ⟨[], [], rfl, h1, Pc_any⟩
  have sp : ∀ p, Sp cs [] p ↔ Rp cs [] p := by
    intro p
    by_cases e : cs[p]? = some AN
    · rw [Sp_any e, nil p AN e]; exact ⟨fun h => h.2, fun h => ⟨rfl, h⟩⟩
    · rw [Sp_no e]
  intro p
  induction p with
  | zero => intro _; rw [sp]; show (0 = 0) ↔ ([] : List Nat) = []; simp
  | succ p ih =>
    intro hp
    rw [sp]
    have hlt : p < cs.length := by omega
    have hcp : cs[p]? = some cs[p] := List.getElem?_eq_getElem hlt
    show (p + 1 = 0 ∨ (cs[p]? = some AN ∧ Clo cs _ p)) ↔ _
    rw [ih (by omega), sp, nil p _ hcp, hcp]
    constructor
    · rintro (h | ⟨h, h2⟩)
      · omega
      · exact ⟨Option.some.inj h, h2⟩
    · rintro ⟨h, h2⟩
      exact .inr ⟨by rw [h], h2⟩
open Classical in
/-- the numbers up to all cells that are told -/
noncomputable def told (cs : List Str) (F : Nat → Prop) : List Int := (rng 0 ((cs.length : Int) + 1)).filter fun i => decide (F i.toNat)
open Classical in
theorem told_congr {cs : List Str} {F G : Nat → Prop} (h : ∀ p, p ≤ cs.length → (F p ↔ G p)) : told cs F = told cs G := by
  unfold told
  refine List.filter_congr fun i hi => ?_
  rw [rng_mem] at hi
  by_cases e : F i.toNat
  · rw [decide_eq_true e, decide_eq_true ((h _ (by omega)).mp e)]
  · rw [decide_eq_false e, decide_eq_false fun z => e ((h _ (by omega)).mpr z)]
open Classical in
theorem told_mem {cs : List Str} {F : Nat → Prop} {i : Int} : i ∈ told cs F ↔ 0 ≤ i ∧ i ≤ cs.length ∧ F i.toNat := by
  unfold told
  rw [List.mem_filter, rng_mem, decide_eq_true_eq]
  constructor
  · intro h; exact ⟨by omega, by omega, h.2⟩
  · intro h; exact ⟨by omega, h.2.2⟩
theorem told_len {cs : List Str} {F : Nat → Prop} : (told cs F).length ≤ cs.length + 1 := by
  unfold told
  refine Nat.le_trans (List.length_filter_le _ _) ?_
  rw [rng_len]; omega
theorem filter_len {α : Type} (p : α → Bool) (xs : List α) : (xs.filter p).length ≤ xs.length := List.length_filter_le _ _
open Classical in
theorem closed_eq {cs : List Str} {ps : List Int} (hl : cs.length ≤ 500) : m_closed cs ps = some (told cs (Clo cs fun q => (q : Int) ∈ ps)) := by
  unfold m_closed
  rw [gd_true (rgOk_ok (by omega) (by omega) (by omega) (by omega))]
  refine Ok.eq (Ok.bde (loop_pick (fun i => @decide (Clo cs (fun q => (q : Int) ∈ ps) i.toNat) (Classical.propDecidable _)) fun pre x post e => ?_) (Ok.sm rfl))
  obtain ⟨e1, e2, e3, e4⟩ := rng_at e
  have hx : x.toNat = pre.length := by omega
  have hpl : pre.length ≤ 501 := by omega
  unfold m_closed_b1
  refine Ok.eq (Ok.bd (P := fun t => t = @decide (Clo cs (fun q => (q : Int) ∈ ps) x.toNat) (Classical.propDecidable _)) ?_ fun t ht => ?_)
  · by_cases hm : x ∈ ps
    · rw [ite_ya hm]
      refine Ok.sm ?_
      symm
      apply decide_eq_true
      cases hq : x.toNat with
      | zero =>
        show ((0 : Nat) : Int) ∈ ps
        have : x = ((0 : Nat) : Int) := by omega
        rw [← this]; exact hm
      | succ k =>
        refine .inl ?_
        show ((k + 1 : Nat) : Int) ∈ ps
        have : x = ((k + 1 : Nat) : Int) := by omega
        rw [← this]; exact hm
    · rw [ite_no hm]
      by_cases h0 : 0 < x
      · rw [ite_ya h0]
        obtain ⟨k, hk⟩ : ∃ k : Nat, x = ((k + 1 : Nat) : Int) := ⟨x.toNat - 1, by omega⟩
        have hk2 : x.toNat = k + 1 := by omega
        have hk1 : (x - 1).toNat = k := by omega
        have hlt : k < cs.length := by omega
        have hat : atI cs (x - 1) = some cs[k] := by
          rw [atI_nn (by omega) (by omega), hk1]; exact List.getElem?_eq_getElem hlt
        rw [hat]
        refine Ok.sm ?_
        show (decide (cs[k] = AN) && decide (x - 1 ∈ pre.filter _)) = _
        rw [← Bool.decide_and]
        have key : (cs[k] = AN ∧ x - 1 ∈ pre.filter fun i => @decide (Clo cs (fun q => (q : Int) ∈ ps) i.toNat) (Classical.propDecidable _)) ↔ Clo cs (fun q => (q : Int) ∈ ps) x.toNat := by
          rw [hk2]
          show _ ↔ (((k + 1 : Nat) : Int) ∈ ps ∨ (cs[k]? = some AN ∧ Clo cs _ k))
          rw [List.mem_filter, e2, rng_mem, decide_eq_true_eq, hk1, List.getElem?_eq_getElem hlt]
          constructor
          · rintro ⟨h1, _, h2⟩; exact .inr ⟨by rw [h1], h2⟩
          · rintro (h | ⟨h1, h2⟩)
            · exact absurd (by rw [hk]; exact h) hm
            · exact ⟨Option.some.inj h1, ⟨by omega, by omega⟩, h2⟩
        by_cases hz : Clo cs (fun q => (q : Int) ∈ ps) x.toNat
        · rw [decide_eq_true (key.mpr hz)]; exact (decide_eq_true hz).symm
        · rw [decide_eq_false fun z => hz (key.mp z)]; exact (decide_eq_false hz).symm
      · rw [ite_no h0]
        refine Ok.sm ?_
        symm
        apply decide_eq_false
        have : x.toNat = 0 := by omega
        rw [this]
        show ¬ ((0 : Nat) : Int) ∈ ps
        have : x = ((0 : Nat) : Int) := by omega
        rw [← this]; exact hm
  · rw [ht]
    refine Ok.ite (fun h => ?_) fun h => ?_
    · refine Ok.gd (fits_ok (Nat.lt_of_le_of_lt (filter_len _ _) (by omega))) (Ok.sm ?_)
      rw [if_pos h]
    · refine Ok.sm ?_
      rw [if_neg (by rw [h]; decide)]
theorem started_eq {cs : List Str} (hc : ∀ c ∈ cs, cell c) (hl : cs.length ≤ 500) : m_started cs = some (told cs (Sp cs [])) := by
  unfold m_started
  refine Ok.eq (Ok.bde (closed_eq hl) (Ok.sm ?_))
  refine told_congr fun p hp => ?_
  rw [← start_iff hc p hp]
  refine Clo_congr fun q _ => ?_
  rw [List.mem_singleton]; omega
theorem moved_eq {cs : List Str} (hc : ∀ c ∈ cs, cell c) (hl : cs.length ≤ 500) {w : List Nat} {x : Nat} : m_moved cs (told cs (Sp cs w)) ⟨#[x]⟩ = some (told cs (Sp cs (w ++ [x]))) := by
  unfold m_moved
  refine Ok.eq (Ok.bd (P := fun r : List Int => ∀ q : Nat, ((q : Int) ∈ r ↔ Fd cs (Sp cs w) x q)) ?_ fun r hr => Ok.bde (closed_eq hl) (Ok.sm ?_))
  · let G : Int → Nat → Prop := fun a q => (∃ c, cs[a.toNat]? = some c ∧ tk c ⟨#[x]⟩ = true ∧ q = if c = AN then a.toNat else a.toNat + 1) ∨ (q = a.toNat ∧ 0 < q ∧ ∃ c, cs[q - 1]? = some c ∧ (c = DG ∨ c = WD) ∧ tk c ⟨#[x]⟩ = true)
    refine (Ok.loop (fun pre (s : List Int) => s.length ≤ 2 * pre.length ∧ (∀ q : Nat, (q : Int) ∈ s ↔ ∃ a ∈ pre, G a q)) ⟨Nat.le_refl _, fun q => ?_⟩ fun pre a post s e ⟨hlen, hs⟩ => ?_).mono fun r ⟨_, hr⟩ q => ?_
    · constructor
      · intro h; cases h
      · rintro ⟨a, h, _⟩; cases h
    · have ha : a ∈ told cs (Sp cs w) := by rw [e]; simp
      obtain ⟨a0, a1, _⟩ := told_mem.mp ha
      have hpl : pre.length ≤ 501 := by
        have := congrArg List.length e
        have h2 := told_len (cs := cs) (F := Sp cs w)
        rw [List.length_append] at this
        omega
      unfold m_moved_b1
      -- the first: on
      refine Ok.bd (P := fun t : List Int => t.length ≤ s.length + 1 ∧ ∀ q : Nat, (q : Int) ∈ t ↔ (q : Int) ∈ s ∨ ∃ c, cs[a.toNat]? = some c ∧ tk c ⟨#[x]⟩ = true ∧ q = if c = AN then a.toNat else a.toNat + 1) ?_ fun t ⟨tl, ht⟩ => ?_
      · by_cases hlt : a < (cs.length : Int)
        · have hlt2 : a.toNat < cs.length := by omega
          have hat : atI cs a = some cs[a.toNat] := by rw [atI_nn a0 hlt]; exact List.getElem?_eq_getElem hlt2
          rw [ite_ya hlt, hat]
          show Ok (((((m_takes cs[a.toNat] ⟨#[x]⟩).bind fun t65 => some t65)).bind fun t55 => _)) _
          rw [takes_eq]
          show Ok (if tk cs[a.toNat] ⟨#[x]⟩ = true then _ else _) _
          refine Ok.ite (fun h => ?_) fun h => ?_
          · show Ok ((some cs[a.toNat]).bind _) _
            show Ok ((if decide (cs[a.toNat] = AN) = true then some a else some (a + 1)).bind _) _
            by_cases hA : cs[a.toNat] = AN
            · rw [ite_ya hA]
              refine Ok.gd (fits_ok (by omega)) (Ok.sm ⟨by simp, fun q => ?_⟩)
              show (q : Int) ∈ s ++ [a] ↔ _
              rw [List.mem_append, List.mem_singleton]
              refine or_congr Iff.rfl ⟨fun h2 => ⟨_, List.getElem?_eq_getElem hlt2, h, by rw [if_pos hA]; omega⟩, ?_⟩
              rintro ⟨c, h2, _, h3⟩
              rw [List.getElem?_eq_getElem hlt2] at h2
              cases h2
              rw [if_pos hA] at h3
              omega
            · rw [ite_no hA]
              refine Ok.gd (fits_ok (by omega)) (Ok.sm ⟨by simp, fun q => ?_⟩)
              show (q : Int) ∈ s ++ [a + 1] ↔ _
              rw [List.mem_append, List.mem_singleton]
              refine or_congr Iff.rfl ⟨fun h2 => ⟨_, List.getElem?_eq_getElem hlt2, h, by rw [if_neg hA]; omega⟩, ?_⟩
              rintro ⟨c, h2, _, h3⟩
              rw [List.getElem?_eq_getElem hlt2] at h2
              cases h2
              rw [if_neg hA] at h3
              omega
          · refine Ok.sm ⟨by omega, fun q => ⟨fun h2 => .inl h2, ?_⟩⟩
            rintro (h2 | ⟨c, h2, h3, _⟩)
            · exact h2
            · rw [List.getElem?_eq_getElem hlt2] at h2
              cases h2
              rw [h] at h3
              cases h3
        · rw [ite_no hlt]
          refine Ok.bde rfl (Ok.ite (fun h => absurd h (by decide)) fun _ => Ok.sm ⟨by omega, fun q => ⟨fun h2 => .inl h2, ?_⟩⟩)
          rintro (h2 | ⟨c, h2, h3, _⟩)
          · exact h2
          · rw [List.getElem?_eq_none (by omega)] at h2
            cases h2
      -- the second: it stays
      · have fin : ∀ z : List Int, (z.length ≤ t.length + 1 ∧ ∀ q : Nat, (q : Int) ∈ z ↔ (q : Int) ∈ t ∨ (q = a.toNat ∧ 0 < q ∧ ∃ c, cs[q - 1]? = some c ∧ (c = DG ∨ c = WD) ∧ tk c ⟨#[x]⟩ = true)) → z.length ≤ 2 * (pre ++ [a]).length ∧ ∀ q : Nat, (q : Int) ∈ z ↔ ∃ a' ∈ pre ++ [a], G a' q := by
          rintro z ⟨zl, hz⟩
          refine ⟨by simp; omega, fun q => ?_⟩
          rw [hz q, ht q, hs q]
          constructor
          · rintro ((⟨a', h1, h2⟩ | h) | h)
            · exact ⟨a', List.mem_append_left _ h1, h2⟩
            · exact ⟨a, by simp, .inl h⟩
            · exact ⟨a, by simp, .inr h⟩
          · rintro ⟨a', h1, h2⟩
            rcases List.mem_append.mp h1 with h1 | h1
            · exact .inl (.inl ⟨a', h1, h2⟩)
            · rw [List.mem_singleton] at h1
              subst h1
              rcases h2 with h2 | h2
              · exact .inl (.inr h2)
              · exact .inr h2
        refine Ok.mono ?_ fin
        by_cases h0 : 0 < a
        · have hlt2 : a.toNat - 1 < cs.length := by omega
          have hat : atI cs (a - 1) = some cs[a.toNat - 1] := by
            rw [atI_nn (by omega) (by omega), show (a - 1).toNat = a.toNat - 1 by omega]; exact List.getElem?_eq_getElem hlt2
          rw [ite_ya h0, hat]
          show Ok (((((if decide (cs[a.toNat - 1] ∈ [("<digits>" : Str), ("<word>" : Str)]) = true then _ else some false).bind _)).bind _)) _
          by_cases hm : cs[a.toNat - 1] ∈ [("<digits>" : Str), ("<word>" : Str)]
          · have hd : cs[a.toNat - 1] = DG ∨ cs[a.toNat - 1] = WD := by
              rcases List.mem_cons.mp hm with h | h
              · exact .inl h
              · exact .inr (List.mem_singleton.mp h)
            rw [ite_ya hm]
            show Ok (((((m_takes cs[a.toNat - 1] ⟨#[x]⟩).bind fun t201 => some t201).bind fun t191 => some t191)).bind fun t163 => if t163 = true then _ else _) _
            rw [takes_eq]
            show Ok (if tk cs[a.toNat - 1] ⟨#[x]⟩ = true then _ else _) _
            refine Ok.ite (fun h => ?_) fun h => ?_
            · refine Ok.gd (fits_ok (by omega)) (Ok.sm ⟨by simp, fun q => ?_⟩)
              rw [List.mem_append, List.mem_singleton]
              refine or_congr Iff.rfl ⟨fun h2 => ?_, fun h2 => by omega⟩
              have hq : q = a.toNat := by omega
              exact ⟨hq, by omega, _, by rw [hq]; exact List.getElem?_eq_getElem hlt2, hd, h⟩
            · refine Ok.sm ⟨by omega, fun q => ⟨fun h2 => .inl h2, ?_⟩⟩
              rintro (h2 | ⟨h2, _, c, h3, _, h4⟩)
              · exact h2
              · rw [h2, List.getElem?_eq_getElem hlt2] at h3
                cases h3
                rw [h] at h4
                cases h4
          · rw [ite_no hm]
            refine Ok.sm ⟨by omega, fun q => ⟨fun h2 => .inl h2, ?_⟩⟩
            rintro (h2 | ⟨h2, _, c, h3, h4, _⟩)
            · exact h2
            · rw [h2, List.getElem?_eq_getElem hlt2] at h3
              cases h3
              rcases h4 with h4 | h4
              · exact absurd (by rw [h4]; exact List.mem_cons_self) hm
              · exact absurd (by rw [h4]; exact List.mem_cons_of_mem _ List.mem_cons_self) hm
        · rw [ite_no h0]
          refine Ok.sm ⟨by omega, fun q => ⟨fun h2 => .inl h2, ?_⟩⟩
          rintro (h2 | ⟨h2, h3, _⟩)
          · exact h2
          · omega
    · rw [hr q]
      constructor
      · rintro ⟨a, h1, h2⟩
        obtain ⟨h3, h4, h5⟩ := told_mem.mp h1
        rcases h2 with ⟨c, h6, h7, h8⟩ | ⟨h6, h7⟩
        · exact .inl ⟨a.toNat, c, h5, h6, h7, h8⟩
        · exact .inr ⟨by rw [h6]; exact h5, h7⟩
      · rintro (⟨a, c, h1, h2, h3, h4⟩ | ⟨h1, h2, c, h3, h4⟩)
        · have hlt : a < cs.length := by
            apply Classical.byContradiction
            intro h5
            rw [List.getElem?_eq_none (by omega)] at h2
            cases h2
          exact ⟨(a : Int), told_mem.mpr ⟨by omega, by omega, by rw [Int.toNat_natCast]; exact h1⟩, .inl ⟨c, by rw [Int.toNat_natCast]; exact h2, h3, by rw [Int.toNat_natCast]; exact h4⟩⟩
        · have hlt : q - 1 < cs.length := by
            apply Classical.byContradiction
            intro h5
            rw [List.getElem?_eq_none (by omega)] at h3
            cases h3
          exact ⟨(q : Int), told_mem.mpr ⟨by omega, by omega, by rw [Int.toNat_natCast]; exact h1⟩, .inr ⟨by rw [Int.toNat_natCast], h2, c, h3, h4⟩⟩
  · refine told_congr fun p hp => ?_
    rw [← step_iff hc p hp]
    exact Clo_congr fun q _ => hr q

/-! ### cells -/
def cellsT (ps : List Str) : List Str := ps.flatMap fun p => if p ∈ ([DG, WD, AN] : List Str) then [p] else sgns p
theorem sgns_len (z : Str) : (sgns z).length = z.length := by rw [sgns_cl, List.length_map, ← cl_len]
theorem cellsT_snoc (ps : List Str) (p : Str) : cellsT (ps ++ [p]) = cellsT ps ++ if p ∈ ([DG, WD, AN] : List Str) then [p] else sgns p := by
  unfold cellsT; rw [List.flatMap_append]; simp
theorem cellsT_len {ps : List Str} (h : ∀ p ∈ ps, part p) : (cellsT ps).length ≤ 8 * ps.length := by
  induction ps with
  | nil => exact Nat.le_refl _
  | cons p ps ih =>
    have ih := ih fun q hq => h q (List.mem_cons_of_mem _ hq)
    show ((if p ∈ ([DG, WD, AN] : List Str) then [p] else sgns p) ++ cellsT ps).length ≤ _
    rw [List.length_append, List.length_cons]
    have : (if p ∈ ([DG, WD, AN] : List Str) then [p] else sgns p).length ≤ 8 := by
      split
      · simp
      · rw [sgns_len]; exact (part_len (h p List.mem_cons_self)).2
    omega
theorem cellsT_cell {ps : List Str} (h : ∀ p ∈ ps, part p) : ∀ c ∈ cellsT ps, cell c := by
  intro c hc
  obtain ⟨p, hp, h2⟩ := List.mem_flatMap.mp hc
  split at h2
  · rename_i hf
    rw [List.mem_singleton] at h2
    subst h2
    rcases List.mem_cons.mp hf with e | hf
    · exact .inr (.inl e)
    · rcases List.mem_cons.mp hf with e | hf
      · exact .inr (.inr (.inl e))
      · exact .inl (List.mem_singleton.mp hf)
  · rename_i hf
    rcases h p hp with e | e | e | ⟨g, _⟩
    · exact absurd (by rw [e]; simp) hf
    · exact absurd (by rw [e]; simp) hf
    · exact absurd (by rw [e]; simp) hf
    · rw [sgns_cl, List.mem_map] at h2
      obtain ⟨y, hy, rfl⟩ := h2
      exact .inr (.inr (.inr ⟨y, rfl, g y hy⟩))
theorem cell_ok {c : Str} (h : cell c) : okS c := by
  rcases h with e | e | e | ⟨x, rfl, hx⟩
  · exact part_ok (.inl e)
  · exact part_ok (.inr (.inl e))
  · exact part_ok (.inr (.inr (.inl e)))
  · exact gs_ok (gs_sg hx)
theorem cell_len {c : Str} (h : cell c) : c.length ≤ 8 := by
  rcases h with e | e | e | ⟨x, rfl, hx⟩
  · exact (part_len (.inl e)).2
  · exact (part_len (.inr (.inl e))).2
  · exact (part_len (.inr (.inr (.inl e)))).2
  · show 1 ≤ 8; omega
theorem cells_of_eq {ps : List Str} (h : ∀ p ∈ ps, part p) (hl : ps.length ≤ 50) : m_cells_of ps = some (cellsT ps) := by
  unfold m_cells_of
  refine Ok.eq (Ok.bd (Ok.loop (fun pre s => s = cellsT pre) rfl fun pre x post s e hs => ?_) fun s hs => Ok.sm hs)
  have hp : ∀ p ∈ pre, part p := fun p hp => h p (by rw [e]; exact List.mem_append_left _ hp)
  have hx : part x := h x (by rw [e]; simp)
  have l1 := cellsT_len hp
  have l2 := congrArg List.length e
  rw [List.length_append] at l2
  have l3 := part_len hx
  subst hs
  unfold m_cells_of_b1
  by_cases hf : x ∈ ([DG, WD, AN] : List Str)
  · rw [ite_ya hf]
    exact Ok.gd (fits_ok (by omega)) (Ok.sm (by rw [cellsT_snoc, if_pos hf]))
  · rw [ite_no hf]
    exact Ok.gd (fitsS_ok (by omega)) (Ok.gd (fits2_ok (by rw [sgns_len]; omega)) (Ok.sm (by rw [cellsT_snoc, if_neg hf])))

theorem cl_nil {z : Str} : z = "" ↔ cl z = [] := by
  constructor
  · rintro rfl; decide +kernel
  · intro h
    apply cl_inj
    rw [h]; decide +kernel

/-! ### lines -/
theorem inS_one (x : Str) (c : Nat) : inS ⟨#[c]⟩ x = decide (c ∈ cl x) := StrLaws.found_one x c
def isL (z : Str) : Bool := !decide (z = "") && (sgns z).all fun x => inS x SG
theorem line_loop : ∀ xs : List Str, loopC m_is_line_b1 xs () = some (if (xs.all fun x => inS x SG) = true then .nx () else .rt false)
  | [] => rfl
  | x :: xs => by
    show ((m_is_line_b1 x ()).bind _) = _
    unfold m_is_line_b1
    rw [List.all_cons]
    cases h : inS x SG with
    | false => rfl
    | true =>
      show loopC m_is_line_b1 xs () = _
      rw [line_loop xs]; rfl
theorem is_line_str (z : Str) : m_is_line (Th.d (PyData.str z)) = some (isL z) := by
  unfold m_is_line isL
  show ((if decide (z = "") = true then some false else ((loopC m_is_line_b1 (sgns z) ()).bind fun t23 => aft t23 fun s46 => some true))) = _
  rw [line_loop]
  by_cases h : z = ""
  · rw [if_pos (decide_eq_true h), decide_eq_true h]; rfl
  · rw [if_neg (by rw [decide_eq_false h]; decide), decide_eq_false h]
    cases (sgns z).all fun x => inS x SG <;> rfl
theorem isL_gs {z : Str} (g : gs z) (h : 1 ≤ z.length) : isL z = true := by
  have hn : ¬ z = "" := fun e => by
    have : z.length = 0 := by rw [e]; decide +kernel
    omega
  unfold isL
  rw [decide_eq_false hn]
  show ((sgns z).all fun x => inS x SG) = true
  rw [List.all_eq_true]
  intro x hx
  rw [sgns_cl, List.mem_map] at hx
  obtain ⟨c, hc, rfl⟩ := hx
  rw [inS_one]
  exact decide_eq_true (g c hc)

/-! ### forms that are allowed -/
def fr (t : Str) : Prop := t = AN ∨ t = DG ∨ t = WD
theorem fr_mem {t : Str} : t ∈ ([DG, WD, AN] : List Str) ↔ fr t := by
  unfold fr
  simp only [List.mem_cons, List.not_mem_nil, or_false]
  constructor
  · rintro (h | h | h)
    · exact .inr (.inl h)
    · exact .inr (.inr h)
    · exact .inl h
  · rintro (h | h | h)
    · exact .inr (.inr h)
    · exact .inl h
    · exact .inr (.inl h)
theorem fr_mem2 {t : Str} : t ∈ ([AN, DG, WD] : List Str) ↔ fr t := by
  unfold fr
  simp only [List.mem_cons, List.not_mem_nil, or_false]
/-- a part at its place -/
def okAt (ps : List Str) (k : Nat) (s : Str) : Prop := (s = AN ∧ AN ∉ ps.take k) ∨ s = DG ∨ s = WD ∨ (gs s ∧ 1 ≤ s.length ∧ s.length ≤ 4 ∧ ∀ t, 0 < k → ps[k - 1]? = some t → fr t)
def alw (ps : List Str) : Prop := ∀ k s, ps[k]? = some s → okAt ps k s
theorem alw_part {ps : List Str} (h : alw ps) : ∀ s ∈ ps, part s := by
  intro s hs
  obtain ⟨k, hk⟩ := List.getElem?_of_mem hs
  rcases h k s hk with ⟨e, _⟩ | e | e | ⟨g, l, l2, _⟩
  · exact .inl e
  · exact .inr (.inl e)
  · exact .inr (.inr (.inl e))
  · exact .inr (.inr (.inr ⟨g, l, l2⟩))
theorem okAt_app {ps : List Str} {k : Nat} {s z : Str} (h : k ≤ ps.length) (o : okAt ps k s) : okAt (ps ++ [z]) k s := by
  rcases o with ⟨e, n⟩ | e | e | ⟨g, l, l2, n⟩
  · exact .inl ⟨e, by rw [List.take_append_of_le_length h]; exact n⟩
  · exact .inr (.inl e)
  · exact .inr (.inr (.inl e))
  · refine .inr (.inr (.inr ⟨g, l, l2, fun t h0 ht => n t h0 ?_⟩))
    rw [List.getElem?_append_left (by omega)] at ht
    exact ht
theorem alw_snoc {ps : List Str} {z : Str} (h : alw ps) (o : okAt ps ps.length z) : alw (ps ++ [z]) := by
  intro k s hk
  by_cases hlt : k < ps.length
  · rw [List.getElem?_append_left hlt] at hk
    exact okAt_app (by omega) (h k s hk)
  · rw [List.getElem?_append_right (by omega)] at hk
    have hz : k - ps.length = 0 := by
      apply Classical.byContradiction
      intro hne
      rw [List.getElem?_eq_none (by simp; omega)] at hk
      cases hk
    rw [hz] at hk
    cases hk
    have : k = ps.length := by omega
    subst this
    exact okAt_app (Nat.le_refl _) o
theorem rich_alw {p : Int × Int} : Ok (m_law_rich p) fun r => alw r.1 ∧ 1 ≤ r.1.length ∧ r.1.length ≤ 4 := by
  unfold m_law_rich
  refine Ok.bd (take_ok (by decide) (by decide)) fun t1 h1 => Ok.gd (rgOk_ok (by omega) (by omega) (by omega) (by omega)) ?_
  refine Ok.bd (Ok.loop (fun pre s => alw s.2 ∧ s.2.length = pre.length) ⟨fun k s hk => by simp at hk, rfl⟩ fun pre x post s e ⟨g, l⟩ => ?_) fun s ⟨g, l⟩ => Ok.sm ⟨g, ?_, ?_⟩
  · have hp : pre.length < 100 := by
      have := congrArg List.length e
      rw [rng_len] at this
      simp at this
      omega
    have fin : ∀ z : Str, okAt s.2 s.2.length z → alw (s.2 ++ [z]) ∧ (s.2 ++ [z]).length = (pre ++ [x]).length := fun z hz => ⟨alw_snoc g hz, by simp [l]⟩
    have hf : fits s.2 = true := fits_ok (by omega)
    have gp := alw_part g
    unfold m_law_rich_b1
    refine Ok.bd (take_ok (by decide) (by decide)) fun t2 h2 => Ok.gd (shp_lS fun z hz => part_ok (gp z hz)) (Ok.gd (shp_lS fun z hz => absurd hz List.not_mem_nil) ?_)
    refine Ok.bd (P := fun b => b = false → ∀ t, 0 < s.2.length → s.2[s.2.length - 1]? = some t → fr t) (Ok.ite (fun hn => ?_) fun hn => Ok.sm fun _ t h0 => ?_) fun b hb => ?_
    · have hn : s.2 ≠ [] := by simpa using hn
      obtain ⟨q, z, hq⟩ : ∃ q z, s.2 = q ++ [z] := ⟨s.2.dropLast, s.2.getLast hn, (List.dropLast_concat_getLast hn).symm⟩
      refine Ok.bde (a := z) (by rw [hq]; exact atI_last) (Ok.sm fun hz t h0 ht => ?_)
      have e2 : s.2.length - 1 = q.length := by rw [hq]; simp
      rw [e2, hq, List.getElem?_append_right (Nat.le_refl _), Nat.sub_self] at ht
      cases ht
      have hm : z ∈ ([AN, DG, WD] : List Str) := by
        apply Classical.byContradiction
        intro hne
        rw [decide_eq_false hne] at hz
        cases hz
      exact fr_mem2.mp hm
    · have : s.2 = [] := by simpa using hn
      rw [this] at h0
      exact absurd h0 (by decide)
    · refine Ok.ite (fun hA => Ok.gd hf (Ok.sm (fin _ (.inl ⟨rfl, ?_⟩)))) fun _ => Ok.ite (fun _ => Ok.gd hf (Ok.sm (fin _ (.inr (.inl rfl))))) fun _ => Ok.ite (fun _ => Ok.gd hf (Ok.sm (fin _ (.inr (.inr (.inl rfl)))))) fun hW => ?_
      · have := (Bool.and_eq_true_iff.mp hA).2
        rw [List.take_of_length_le (Nat.le_refl _)]
        simpa using this
      · have hb0 : b = false := (Bool.or_eq_false_iff.mp hW).2
        exact Ok.bd text_ok fun t3 h3 => Ok.gd hf (Ok.sm (fin _ (.inr (.inr (.inr ⟨h3.1, h3.2.1, h3.2.2, hb hb0⟩)))))
  · show 1 ≤ s.2.length
    rw [l, rng_len]; omega
  · show s.2.length ≤ 4
    rw [l, rng_len]; omega
theorem allowed_eq {ps : List Str} (h : alw ps) (hl : ps.length ≤ 4) {k : Nat} (hk : k < ps.length) : m_is_allowed ps (k : Int) = some true := by
  have hs : ps[k]? = some ps[k] := List.getElem?_eq_getElem hk
  have hat : atI ps (k : Int) = some ps[k] := by rw [atI_nn (by omega) (by omega), Int.toNat_natCast]; exact hs
  have ho := h k _ hs
  unfold m_is_allowed
  refine Ok.eq (Ok.bde hat ?_)
  rw [if_neg (by rw [decide_eq_false (show ¬ (4 : Int) ≤ (k : Int) by omega)]; decide)]
  by_cases hA : ps[k] = AN
  · rw [ite_ya hA, cut_to _ (by omega), Int.toNat_natCast]
    refine Ok.sm ?_
    rcases ho with ⟨_, n⟩ | e | e | ⟨g, l, l2, _⟩
    · rw [decide_eq_false n]; rfl
    · rw [hA] at e; exact absurd e.symm AN_ne.1
    · rw [hA] at e; exact absurd e.symm AN_ne.2.1
    · rw [hA] at l2
      exact absurd l2 (by decide +kernel)
  · rw [ite_no hA]
    by_cases hF : ps[k] ∈ ([DG, WD, AN] : List Str)
    · rw [ite_ya hF]; exact Ok.sm rfl
    · rw [ite_no hF]
      rcases ho with ⟨e, _⟩ | e | e | ⟨g, l, l2, n⟩
      · exact absurd e hA
      · exact absurd (fr_mem.mpr (.inr (.inl e))) hF
      · exact absurd (fr_mem.mpr (.inr (.inr e))) hF
      · refine Ok.bd (P := fun t => t = false) ?_ fun t ht => ?_
        · by_cases h0 : (0 : Int) < (k : Int)
          · rw [ite_ya h0]
            have hlt : k - 1 < ps.length := by omega
            have ht : ps[k - 1]? = some ps[k - 1] := List.getElem?_eq_getElem hlt
            refine Ok.bde (a := ps[k - 1]) (by rw [atI_nn (by omega) (by omega), show ((k : Int) - 1).toNat = k - 1 by omega]; exact ht) (Ok.sm ?_)
            rw [decide_eq_true (fr_mem.mpr (n _ (by omega) ht))]; rfl
          · rw [ite_no h0]; exact Ok.sm rfl
        · rw [ht, if_neg (by decide)]
          refine Ok.bde (is_line_str _) ?_
          rw [isL_gs g l, if_pos rfl]
          exact Ok.bde (by rw [gd_true (fitsS_ok (by omega))]) (Ok.sm (decide_eq_true (show ((ps[k].length : Int)) ≤ 4 by omega)))
theorem init_eq {ps : List Str} (h : alw ps) (hl : ps.length ≤ 4) (h1 : 1 ≤ ps.length) : m_Form___init__ ps = some ps := by
  unfold m_Form___init__
  rw [ite_no (show ¬ (ps.length : Int) = 0 by omega), gd_true (rgOk_ok (by omega) (by omega) (by omega) (by omega))]
  refine Ok.eq (Ok.bd (Ok.loop (fun _ _ => True) trivial fun pre x post s e _ => ?_) fun _ _ => Ok.sm rfl)
  obtain ⟨e1, e2, e3, e4⟩ := rng_at e
  unfold m_Form___init___b1
  have hx : x = (x.toNat : Int) := by omega
  rw [hx]
  refine Ok.bde (allowed_eq h hl (by omega)) ?_
  rw [if_neg (by decide)]
  exact Ok.sm trivial
theorem law_form_eq {ps : List Str} (h : alw ps) (hl : ps.length ≤ 4) (h1 : 1 ≤ ps.length) : m_law_form ps = some ps := by
  unfold m_law_form
  have at_ : ∀ (k : Nat) (hk : k < ps.length), atI ps (k : Int) = some ps[k] := fun k hk => by rw [atI_nn (by omega) (by omega), Int.toNat_natCast]; exact List.getElem?_eq_getElem hk
  match ps, h, hl, h1, at_ with
  | [a], h, _, _, at_ => exact Ok.eq (by rw [ite_ya (show (([a] : List Str).length : Int) = 1 from rfl)]; exact Ok.bde (at_ 0 (by simp)) (Ok.bde (init_eq h (by simp) (by simp)) (Ok.sm rfl)))
  | [a, b], h, _, _, at_ => exact Ok.eq (by rw [ite_no (show ¬ (([a, b] : List Str).length : Int) = 1 from by simp), ite_ya (show (([a, b] : List Str).length : Int) = 2 from rfl)]; exact Ok.bde (at_ 0 (by simp)) (Ok.bde (at_ 1 (by simp)) (Ok.bde (init_eq h (by simp) (by simp)) (Ok.sm rfl))))
  | [a, b, c], h, _, _, at_ => exact Ok.eq (by rw [ite_no (show ¬ (([a, b, c] : List Str).length : Int) = 1 from by simp), ite_no (show ¬ (([a, b, c] : List Str).length : Int) = 2 from by simp), ite_ya (show (([a, b, c] : List Str).length : Int) = 3 from rfl)]; exact Ok.bde (at_ 0 (by simp)) (Ok.bde (at_ 1 (by simp)) (Ok.bde (at_ 2 (by simp)) (Ok.bde (init_eq h (by simp) (by simp)) (Ok.sm rfl)))))
  | [a, b, c, d], h, _, _, at_ => exact Ok.eq (by rw [ite_no (show ¬ (([a, b, c, d] : List Str).length : Int) = 1 from by simp), ite_no (show ¬ (([a, b, c, d] : List Str).length : Int) = 2 from by simp), ite_no (show ¬ (([a, b, c, d] : List Str).length : Int) = 3 from by simp)]; exact Ok.bde (at_ 0 (by simp)) (Ok.bde (at_ 1 (by simp)) (Ok.bde (at_ 2 (by simp)) (Ok.bde (at_ 3 (by simp)) (Ok.bde (init_eq h (by simp) (by simp)) (Ok.sm rfl))))))
  | _ :: _ :: _ :: _ :: _ :: _, _, hl, _, _ => exact absurd hl (by simp)

/-! ### cells and parts -/
theorem bs {α β : Type} (a : α) (f : α → Option β) : (some a).bind f = f a := rfl
theorem form_cells {ps : List Str} (h : alw ps ∧ 1 ≤ ps.length ∧ ps.length ≤ 4) : m_cells_of ps = some (cellsT ps) ∧ (∀ c ∈ cellsT ps, cell c) ∧ (cellsT ps).length ≤ 32 := by
  have hp := alw_part h.1
  have := cellsT_len hp
  exact ⟨cells_of_eq hp (by have := h.2.2; omega), cellsT_cell hp, by have := h.2.2; omega⟩
theorem Mt_app {cs ds : List Str} : ∀ {w : List Nat}, Mt (cs ++ ds) w ↔ ∃ u v, w = u ++ v ∧ Mt cs u ∧ Mt ds v := by
  induction cs with
  | nil =>
    intro w
    constructor
    · intro h; exact ⟨[], w, rfl, rfl, h⟩
    · rintro ⟨u, v, rfl, rfl, h⟩; exact h
  | cons c cs ih =>
    intro w
    constructor
    · rintro ⟨u, v, rfl, h1, h2⟩
      obtain ⟨u2, v2, rfl, h3, h4⟩ := ih.mp h2
      exact ⟨u ++ u2, v2, by simp, ⟨u, u2, rfl, h1, h3⟩, h4⟩
    · rintro ⟨u, v, rfl, ⟨u1, u2, rfl, h1, h2⟩, h3⟩
      exact ⟨u1, u2 ++ v, by simp, h1, ih.mpr ⟨u2, v, rfl, h2, h3⟩⟩
theorem Mt_signs : ∀ {l w : List Nat}, Mt (l.map fun c => (⟨#[c]⟩ : Str)) w ↔ w = l
  | [], w => Iff.rfl
  | c :: l, w => by
    constructor
    · rintro ⟨u, v, rfl, h1, h2⟩
      rw [Pc_fix sg_ne.1 sg_ne.2, cl_sg] at h1
      rw [h1, Mt_signs.mp h2]; rfl
    · rintro rfl
      exact ⟨[c], l, rfl, (Pc_fix sg_ne.1 sg_ne.2).mpr rfl, Mt_signs.mpr rfl⟩
/-- cells and parts take the same -/
theorem Mt_cells {ps : List Str} (h : ∀ p ∈ ps, part p) : ∀ {w : List Nat}, Mt (cellsT ps) w ↔ Mt ps w := by
  induction ps with
  | nil => intro w; exact Iff.rfl
  | cons p ps ih =>
    intro w
    have ih := @ih fun q hq => h q (List.mem_cons_of_mem _ hq)
    have e : cellsT (p :: ps) = (if p ∈ ([DG, WD, AN] : List Str) then [p] else sgns p) ++ cellsT ps := by unfold cellsT; rw [List.flatMap_cons]
    rw [e, Mt_app]
    have one : ∀ u, Mt (if p ∈ ([DG, WD, AN] : List Str) then [p] else sgns p) u ↔ Pc p u := by
      intro u
      by_cases hf : p ∈ ([DG, WD, AN] : List Str)
      · rw [if_pos hf]
        constructor
        · rintro ⟨a, b, rfl, h1, rfl⟩; rw [List.append_nil]; exact h1
        · intro h1; exact ⟨u, [], by simp, h1, rfl⟩
      · rw [if_neg hf, sgns_cl, Mt_signs]
        have hn : ¬ fr p := fun z => hf (fr_mem.mpr z)
        rw [Pc_fix (fun z => hn (.inl z)) fun z => hn (z.elim (fun z => .inr (.inl z)) fun z => .inr (.inr z))]
    constructor
    · rintro ⟨u, v, rfl, h1, h2⟩
      exact ⟨u, v, rfl, (one u).mp h1, ih.mp h2⟩
    · rintro ⟨u, v, rfl, h1, h2⟩
      exact ⟨u, v, rfl, (one u).mpr h1, ih.mpr h2⟩

/-! ### a line in a form -/
theorem shp_tS' {xs : List Str} (h : ∀ x ∈ xs, okS x) : shp (dT dS) xs = true := shp_tS h
open Classical in
theorem in_form {ps : List Str} (h : alw ps ∧ 1 ≤ ps.length ∧ ps.length ≤ 4) {z : Str} (g : gs z) (hz : z.length ≤ 100) : m_Form___contains__ ps z = m_law_fits ps z := by
  obtain ⟨e1, e2, e3⟩ := form_cells h
  have hp := alw_part h.1
  rw [fits_eq (by omega) fun c hc => Nat.le_trans (part_len (hp c hc)).2 (by decide)]
  unfold m_Form___contains__
  refine Ok.eq (Ok.bde (is_line_str z) ?_)
  by_cases hn : z = ""
  · have hl : isL z = false := by unfold isL; rw [decide_eq_true hn]; rfl
    rw [hl, if_pos (show (!false) = true from rfl)]
    exact Ok.sm (decide_eq_false fun h => h.1 hn).symm
  · have h1 : 1 ≤ z.length := by
      rw [cl_len]
      cases hc : cl z with
      | nil => exact absurd (cl_nil.mpr hc) hn
      | cons a r => simp
    rw [isL_gs g h1, if_neg (by decide)]
    unfold m_Form_forms
    refine Ok.bde rfl ?_
    have hloop : loopS (m_Form___contains___b1 (cellsT ps)) (sgns z) (told (cellsT ps) (Sp (cellsT ps) [])) = some (told (cellsT ps) (Sp (cellsT ps) (cl z))) := by
      refine Ok.eq ((Ok.loop (fun pre (s : List Int) => ∃ q : List Nat, pre = q.map (fun c => (⟨#[c]⟩ : Str)) ∧ s = told (cellsT ps) (Sp (cellsT ps) q)) ⟨[], rfl, rfl⟩ fun pre x post s e ⟨q, hq, hs⟩ => ?_).mono fun r ⟨q, hq, hr⟩ => ?_)
      · have hx : x ∈ sgns z := by rw [e]; simp
        rw [sgns_cl, List.mem_map] at hx
        obtain ⟨c, _, rfl⟩ := hx
        subst hs
        unfold m_Form___contains___b1
        exact Ok.bde (moved_eq e2 (by omega)) (Ok.sm ⟨q ++ [c], by rw [hq]; simp, rfl⟩)
      · have inj : ∀ {l m : List Nat}, l.map (fun c => (⟨#[c]⟩ : Str)) = m.map (fun c => (⟨#[c]⟩ : Str)) → l = m := by
          intro l
          induction l with
          | nil => intro m h; cases m with
            | nil => rfl
            | cons _ _ => cases h
          | cons a l ih => intro m h; cases m with
            | nil => cases h
            | cons b m =>
              rw [List.map_cons, List.map_cons] at h
              obtain ⟨h1, h2⟩ := List.cons.inj h
              cases h1
              rw [ih h2]
        rw [sgns_cl] at hq
        rw [hr, inj hq]
    have hb2 : loopS (m_Form___contains___b2 z) [ps] [] = some [decide (((cellsT ps).length : Int) ∈ told (cellsT ps) (Sp (cellsT ps) (cl z)))] := by
      show ((m_Form___contains___b2 z ps []).bind fun s => some s) = _
      unfold m_Form___contains___b2 m_Form_parts m_is_done
      rw [bs, e1, bs, started_eq e2 (by omega), bs, hloop, bs, bs]
      rfl
    rw [hb2]
    unfold m_Form_holds
    refine Ok.bde rfl (Ok.bde (Ok.eq (Ok.bde rfl (Ok.sm rfl))) (Ok.sm ?_))
    have key : (((cellsT ps).length : Int) ∈ told (cellsT ps) (Sp (cellsT ps) (cl z))) ↔ z ≠ "" ∧ Mt ps (cl z) := by
      rw [told_mem, Int.toNat_natCast, Sp_no (by rw [List.getElem?_eq_none (Nat.le_refl _)]; exact fun e => nomatch e)]
      unfold Rp
      rw [List.take_length, Mt_cells hp]
      exact ⟨fun h => ⟨hn, h.2.2⟩, fun h => ⟨by omega, by omega, h.2⟩⟩
    by_cases hm : z ≠ "" ∧ Mt ps (cl z)
    · rw [decide_eq_true (key.mpr hm)]; exact (decide_eq_true hm).symm
    · rw [decide_eq_false (fun h => hm (key.mp h))]; exact (decide_eq_false hm).symm
open Classical in
theorem math (ns : List Int) (h : ns.length ≤ 63) : m_law ns = some true := by
  unfold m_law
  have hm : 0 ≤ maxI 1 (minI 40 (ns.length : Int)) ∧ maxI 1 (minI 40 (ns.length : Int)) ≤ 40 := by
    unfold maxI minI
    split <;> split <;> omega
  have same : ∀ {α : Type} {a : α} [DecidableEq α], (!decide (a = a)) = false := fun {α a _} => by rw [decide_eq_true rfl]; rfl
  rw [gd_true (rgOk_ok (by omega) (by omega) (by omega) (by omega))]
  refine Ok.eq (Ok.bd (Ok.loopN (fun _ _ => True) trivial fun pre k post _ e _ => ?_) ?_)
  · have hk := (rng_at e).2.2
    unfold m_law_b2
    refine Ok.bd (pool_ok (by omega) (by omega)) fun p1 _ => Ok.bd rich_alw fun p2 hp => Ok.bde (law_form_eq hp.1 hp.2.2 hp.2.1) (Ok.bd (line_ok (alw_part hp.1) hp.2.2) fun p3 ⟨g3, l3⟩ => Ok.bd rich_alw fun p4 h4 => Ok.bd (line_ok (alw_part h4.1) h4.2.2) fun p5 ⟨g5, l5⟩ => Ok.bd (spoiled_ok g3 (by omega)) fun p6 ⟨g6, l6⟩ => Ok.bd (spoiled_ok g3 (by omega)) fun p7 ⟨g7, l7⟩ => Ok.bd (spoiled_ok g7 (by omega)) fun p8 ⟨g8, l8⟩ => ?_)
    refine Ok.bd (Ok.loopN (fun _ _ => True) trivial fun pre2 x post2 _ e2 _ => ?_) ?_
    · have hx : x ∈ [p3.1, p6.1, p8.1, p5.1, ("" : Str), p3.1] := by rw [e2]; simp
      have gl : gs x ∧ x.length ≤ 100 := by
        simp only [List.mem_cons, List.not_mem_nil, or_false] at hx
        rcases hx with rfl | rfl | rfl | rfl | rfl | rfl
        · exact ⟨g3, by omega⟩
        · exact ⟨g6, by omega⟩
        · exact ⟨g8, by omega⟩
        · exact ⟨g5, by omega⟩
        · exact ⟨gs_nil, by decide +kernel⟩
        · exact ⟨g3, by omega⟩
      unfold m_law_b1
      rw [in_form hp gl.1 gl.2, fits_eq (by omega) fun c hc => Nat.le_trans (part_len (alw_part hp.1 c hc)).2 (by decide)]
      refine Ok.bde rfl (Ok.bde rfl ?_)
      rw [if_neg (by rw [same]; decide)]
      exact Ok.sm ⟨_, rfl, trivial⟩
    · rintro _ ⟨s, rfl, _⟩
      simp only [aftC]
      unfold m_Form_parts
      have hps : ∀ x ∈ p2.1, okS x := fun x hx => part_ok (alw_part hp.1 x hx)
      refine Ok.bde rfl (Ok.gd (shp_tS hps) (Ok.gd (shp_tS hps) ?_))
      rw [if_neg (by rw [same]; decide)]
      exact Ok.sm ⟨_, rfl, trivial⟩
  · rintro _ ⟨s, rfl, _⟩
    exact Ok.sm rfl

def fn : List He.DefD := [⟨("_law_pool", none), "_law_pool", "_law_pool", defArgs s_law_pool, defBody s_law_pool, defScope s_law_pool, [], []⟩,
  ⟨("_law_take", none), "_law_take", "_law_take", defArgs s_law_take, defBody s_law_take, defScope s_law_take, [], []⟩,
  ⟨("_law_all_signs", none), "_law_all_signs", "_law_all_signs", defArgs s_law_all_signs, defBody s_law_all_signs, defScope s_law_all_signs, [], []⟩,
  ⟨("_law_text", none), "_law_text", "_law_text", defArgs s_law_text, defBody s_law_text, defScope s_law_text, [], []⟩,
  ⟨("_law_rich", none), "_law_rich", "_law_rich", defArgs s_law_rich, defBody s_law_rich, defScope s_law_rich, [], []⟩,
  ⟨("is_line", none), "is_line", "is_line", defArgs s_is_line, defBody s_is_line, defScope s_is_line, [], []⟩,
  ⟨("is_allowed", none), "is_allowed", "is_allowed", defArgs s_is_allowed, defBody s_is_allowed, defScope s_is_allowed, [], []⟩,
  ⟨("Form", some "__init__"), "__init__", "Form.__init__", defArgs s_Form___init__, defBody s_Form___init__, defScope s_Form___init__, [], []⟩,
  ⟨("_law_form", none), "_law_form", "_law_form", defArgs s_law_form, defBody s_law_form, defScope s_law_form, [], []⟩,
  ⟨("_law_line", none), "_law_line", "_law_line", defArgs s_law_line, defBody s_law_line, defScope s_law_line, [], []⟩,
  ⟨("_law_spoiled", none), "_law_spoiled", "_law_spoiled", defArgs s_law_spoiled, defBody s_law_spoiled, defScope s_law_spoiled, [], []⟩,
  ⟨("Form", some "forms"), "forms", "Form.forms", defArgs s_Form_forms, defBody s_Form_forms, defScope s_Form_forms, [], []⟩,
  ⟨("Form", some "holds"), "holds", "Form.holds", defArgs s_Form_holds, defBody s_Form_holds, defScope s_Form_holds, [], []⟩,
  ⟨("cells_of", none), "cells_of", "cells_of", defArgs s_cells_of, defBody s_cells_of, defScope s_cells_of, [], []⟩,
  ⟨("closed", none), "closed", "closed", defArgs s_closed, defBody s_closed, defScope s_closed, [], []⟩,
  ⟨("started", none), "started", "started", defArgs s_started, defBody s_started, defScope s_started, [], []⟩,
  ⟨("Form", some "parts"), "parts", "Form.parts", defArgs s_Form_parts, defBody s_Form_parts, defScope s_Form_parts, [], []⟩,
  ⟨("takes", none), "takes", "takes", defArgs s_takes, defBody s_takes, defScope s_takes, [], []⟩,
  ⟨("moved", none), "moved", "moved", defArgs s_moved, defBody s_moved, defScope s_moved, [], []⟩,
  ⟨("is_done", none), "is_done", "is_done", defArgs s_is_done, defBody s_is_done, defScope s_is_done, [], []⟩,
  ⟨("Form", some "__contains__"), "__contains__", "Pattern.__contains__", defArgs s_Form___contains__, defBody s_Form___contains__, defScope s_Form___contains__, [], []⟩,
  ⟨("_law_takes", none), "_law_takes", "_law_takes", defArgs s_law_takes, defBody s_law_takes, defScope s_law_takes, [], []⟩,
  ⟨("_law_ends", none), "_law_ends", "_law_ends", defArgs s_law_ends, defBody s_law_ends, defScope s_law_ends, [], []⟩,
  ⟨("_law_fits", none), "_law_fits", "_law_fits", defArgs s_law_fits, defBody s_law_fits, defScope s_law_fits, [], []⟩,
  ⟨("law", none), "law", "law", defArgs s_law, defBody s_law, defScope s_law, [], []⟩]
def fa : List He.Fa := [.glo "_law_pool", .glo "_law_take", .glo "_law_all_signs", .glo "_law_text", .glo "_law_rich", .glo "is_line", .glo "is_allowed", .glo "_law_form", .glo "_law_line", .glo "_law_spoiled", .glo "cells_of", .glo "closed", .glo "started", .glo "takes", .glo "moved", .glo "is_done", .glo "_law_takes", .glo "_law_ends", .glo "_law_fits", .glo "law", .glo "Form", .cls "Form", .noat "Form" "pieces", .mkr "Form", .meth "Form" "forms", .meth "Form" "holds", .meth "Form" "parts", .meth "Form" "__contains__", .free "int", .free "isinstance", .free "len", .free "list", .free "max", .free "min", .free "range", .free "str", .free "tuple", .str "ANY_CELL" "<any>", .str "DIGITS_CELL" "<digits>", .str "DIGIT_SIGNS" "0123456789", .glo "FREE_CELLS", .str "LETTER_SIGNS" "ABCDEFGHIJKLMNOPQRSTUVWXYZabcdefghijklmnopqrstuvwxyz", .int "MOST_PARTS" 4, .int "MOST_SIGNS" 4, .str "SIGNS" " #-.0123456789:>ABCDEFGHIJKLMNOPQRSTUVWXYZabcdefghijklmnopqrstuvwxyz", .str "WORD_CELL" "<word>"]
def tabs (K : PySem.W.Frag) : Bool := He.tupB K "FREE_CELLS" [.str "<digits>", .str "<word>", .str "<any>"] && true
theorem tx {K : PySem.W.Frag} {h : Heap} {mg : Str → Option Value} (X : K.In h) (G : h.Ns mainGlobals mg) (c : He.SaysD fa fn K) (t : tabs K = true) : Tx K mg := {
  F_law_pool := fd_of c 0
  g_law_pool := He.glo_ok X G (c.fact 0)
  F_law_take := fd_of c 1
  g_law_take := He.glo_ok X G (c.fact 1)
  F_law_all_signs := fd_of c 2
  g_law_all_signs := He.glo_ok X G (c.fact 2)
  F_law_text := fd_of c 3
  g_law_text := He.glo_ok X G (c.fact 3)
  F_law_rich := fd_of c 4
  g_law_rich := He.glo_ok X G (c.fact 4)
  F_is_line := fd_of c 5
  g_is_line := He.glo_ok X G (c.fact 5)
  F_is_allowed := fd_of c 6
  g_is_allowed := He.glo_ok X G (c.fact 6)
  F_Form___init__ := fd_of c 7
  F_law_form := fd_of c 8
  g_law_form := He.glo_ok X G (c.fact 7)
  F_law_line := fd_of c 9
  g_law_line := He.glo_ok X G (c.fact 8)
  F_law_spoiled := fd_of c 10
  g_law_spoiled := He.glo_ok X G (c.fact 9)
  F_Form_forms := fd_of c 11
  F_Form_holds := fd_of c 12
  F_cells_of := fd_of c 13
  g_cells_of := He.glo_ok X G (c.fact 10)
  F_closed := fd_of c 14
  g_closed := He.glo_ok X G (c.fact 11)
  F_started := fd_of c 15
  g_started := He.glo_ok X G (c.fact 12)
  F_Form_parts := fd_of c 16
  F_takes := fd_of c 17
  g_takes := He.glo_ok X G (c.fact 13)
  F_moved := fd_of c 18
  g_moved := He.glo_ok X G (c.fact 14)
  F_is_done := fd_of c 19
  g_is_done := He.glo_ok X G (c.fact 15)
  F_Form___contains__ := fd_of c 20
  F_law_takes := fd_of c 21
  g_law_takes := He.glo_ok X G (c.fact 16)
  F_law_ends := fd_of c 22
  g_law_ends := He.glo_ok X G (c.fact 17)
  F_law_fits := fd_of c 23
  g_law_fits := He.glo_ok X G (c.fact 18)
  F_law := fd_of c 24
  g_law := He.glo_ok X G (c.fact 19)
  c_Form := He.cls_ok (c.fact 21)
  gc_Form := He.glo_ok X G (c.fact 20)
  na_Form_pieces := He.noat_ok (c.fact 22)
  mk_Form := He.mkr_ok (c.fact 23)
  me_Form_forms := He.meth_ok (c.fact 24)
  me_Form_holds := He.meth_ok (c.fact 25)
  me_Form_parts := He.meth_ok (c.fact 26)
  me_Form___contains__ := He.meth_ok (c.fact 27)
  k_ANY_CELL := He.str_ok X G (c.fact 37)
  k_DIGITS_CELL := He.str_ok X G (c.fact 38)
  k_DIGIT_SIGNS := He.str_ok X G (c.fact 39)
  g_FREE_CELLS := He.glo_ok X G (c.fact 40)
  q_FREE_CELLS := fun F => ⟨_, _, rfl, He.tupB_ok (He.ba t).1 F, (.cons rfl (.cons rfl (.cons rfl .nil)))⟩
  k_LETTER_SIGNS := He.str_ok X G (c.fact 41)
  k_MOST_PARTS := He.int_ok X G (c.fact 42)
  k_MOST_SIGNS := He.int_ok X G (c.fact 43)
  k_SIGNS := He.str_ok X G (c.fact 44)
  k_WORD_CELL := He.str_ok X G (c.fact 45)
  n_int := He.free_ok X G (c.fact 28)
  n_isinstance := He.free_ok X G (c.fact 29)
  n_len := He.free_ok X G (c.fact 30)
  n_list := He.free_ok X G (c.fact 31)
  n_max := He.free_ok X G (c.fact 32)
  n_min := He.free_ok X G (c.fact 33)
  n_range := He.free_ok X G (c.fact 34)
  n_str := He.free_ok X G (c.fact 35)
  n_tuple := He.free_ok X G (c.fact 36)
}

theorem law_fn {P : Program} {w : World} {K : PySem.W.Frag} {h : Heap} {mg : Str → Option Value} {f : Addr} (X : K.In h) (G : h.Ns mainGlobals mg) (hfa : mg ("law" : Str) = some (.ref f)) (c : He.SaysD fa fn K) (t : tabs K = true) :
    ∃ (K' : PySem.W.Frag) (fd : FuncData) (sp : L2.Sp), K'.In h ∧ (∀ (s : Shared) (v : Value), BindsTo s fd ⟨[v], []⟩ [("_law_script", v)]) ∧ (∀ (H : Hp) (a : Addr) (ns : List Int), ns.length ≤ 63 → Only H → SqL K' H a (ns.map V.int) → sp [.ref a] H (fun v _ => v = .bl true) fun _ _ _ => False) ∧ ∀ base : Heap, K'.In base → base.Ns mainGlobals mg → FnOk P w K' mg base CX0 6 f fd ["_law_script"] sp := by
  have T : Tx K mg := tx X G c t
  have e := hfa.symm.trans T.g_law
  cases e
  have b := FunD.bindsA (ps := ["_law_script"]) T.F_law fun _ _ _ _ _ _ us hl => match us, hl with | [_], _ => rfl
  refine ⟨K, _, sp_law K, X, fun s v => b s [v] rfl, fun H a ns hl _ hS => ?_, fun base _ _ => ok_law T⟩
  exact ⟨H, .ref a, ns, true, rfl, Same.refl H, ⟨a, rfl, hS⟩, math ns hl, fun v F' H' _ hv => hv⟩
end Law
open PySem PySem.W PySem.Calls PyProof.Rows
theorem PySem.Challenge.cw_gluedlines_k04_lines_in_forms_holds : PySem.Challenge.rw_gluedlines_k04_lines_in_forms.Holds := by
  w_on; o_law; k_head; (case hw => w_witness2)
  k_fill
  refine L2.walk_ofE (l := PySem.Challenge.rw_gluedlines_k04_lines_in_forms) (n := 63) (k := 6) (x := "_law_script") (CX := L2.CX0) rfl (by decide) (by rfl) ⟨rfl, by decide, by decide⟩ ?F (fun _ _ _ _ z => z)
  intro w mg fa h Y G hmg
  refine Law.law_fn (PySem.W.kIn_of Y) G hmg ?c ?t
  case c => (unfold He.SaysD; kernel_rfl)
  case t => kernel_rfl
#print axioms PySem.Challenge.cw_gluedlines_k04_lines_in_forms_holds
