import PyProof.Rows.All
import Wide.All
import OpenK.AllK
import Wide.FinOn
import KE.KStateDown
import HandS.ForMost
import HandS.Exc
import HandS.WordsExc
import HandS.Defaults
import HandS.Conv
import HandS.Flow
import HandS.IsInst
import HandS.Codes
import HandS.Dict
import HandS.Head0
import HandS.Head1
import HandS.Head2
import HandS.HeadEnd
import HandS.HeadHook1
import HandS.HeadHook2
import PySem.Challenge.RW_gluedlines_k01_signs_and_lines
set_option Elab.async false
set_option linter.all false
set_option maxRecDepth 100000
set_option maxHeartbeats 4000000
namespace Gl
open PySem PySem.Spec PyProof.Rows L2

/-! ## partial results -/
def gd {α : Type} (b : Bool) (x : Option α) : Option α := match b with
  | true => x
  | false => none
theorem gd_some {α : Type} {b : Bool} {x : Option α} {r : α} (h : gd b x = some r) : b = true ∧ x = some r := by
  cases b with
  | true => exact ⟨rfl, h⟩
  | false => cases h
theorem gd_true {α : Type} {b : Bool} {x : Option α} (h : b = true) : gd b x = x := by rw [h]; rfl
theorem bd_some {α β : Type} {x : Option α} {k : α → Option β} {r : β} (h : x.bind k = some r) : ∃ a, x = some a ∧ k a = some r := by
  cases x with
  | none => cases h
  | some a => exact ⟨a, rfl, h⟩
/-- how a block ends: it goes on, it breaks off its loop, or it returns -/
inductive Ctl (S R : Type) where
  | nx (s : S) | bk (s : S) | rt (r : R)

/-! ## values that stand for Lean's -/
theorem pGet {α β : Type} {R : α → β → Prop} : ∀ {xs : List α} {ys : List β} {i : Nat} {y : β}, Paired R xs ys → ys[i]? = some y → ∃ x, xs[i]? = some x ∧ R x y
  | _, _, _, _, .nil, e => by simp at e
  | _, _, 0, _, .cons r _, e => by simp at e; subst e; exact ⟨_, rfl, r⟩
  | _, _, i + 1, y, .cons _ t, e => by
    obtain ⟨x, h1, h2⟩ := pGet (i := i) (y := y) t (by simpa using e)
    exact ⟨x, by simpa using h1, h2⟩
theorem pGetL {α β : Type} {R : α → β → Prop} : ∀ {xs : List α} {ys : List β} {i : Nat} {x : α}, Paired R xs ys → xs[i]? = some x → ∃ y, ys[i]? = some y ∧ R x y
  | _, _, _, _, .nil, e => by simp at e
  | _, _, 0, _, .cons r _, e => by simp at e; subst e; exact ⟨_, rfl, r⟩
  | _, _, i + 1, y, .cons _ t, e => by
    obtain ⟨x, h1, h2⟩ := pGetL (i := i) (x := y) t (by simpa using e)
    exact ⟨x, by simpa using h1, h2⟩
theorem pApp {α β : Type} {R : α → β → Prop} : ∀ {xs xs' : List α} {ys ys' : List β}, Paired R xs ys → Paired R xs' ys' → Paired R (xs ++ xs') (ys ++ ys')
  | _, _, _, _, .nil, s => s
  | _, _, _, _, .cons r t, s => .cons r (pApp t s)
theorem pDrop {α β : Type} {R : α → β → Prop} : ∀ {xs : List α} {ys : List β} (n : Nat), Paired R xs ys → Paired R (xs.drop n) (ys.drop n)
  | _, _, 0, r => r
  | _, _, _ + 1, .nil => .nil
  | _, _, n + 1, .cons _ t => pDrop n t
theorem pTake {α β : Type} {R : α → β → Prop} : ∀ {xs : List α} {ys : List β} (n : Nat), Paired R xs ys → Paired R (xs.take n) (ys.take n)
  | _, _, 0, _ => .nil
  | _, _, _ + 1, .nil => .nil
  | _, _, n + 1, .cons r t => .cons r (pTake n t)
theorem pSet {α β : Type} {R : α → β → Prop} {x : α} {y : β} (r : R x y) : ∀ {xs : List α} {ys : List β} (i : Nat), Paired R xs ys → Paired R (xs.set i x) (ys.set i y)
  | _, _, _, .nil => .nil
  | _, _, 0, .cons _ t => .cons r t
  | _, _, i + 1, .cons q t => .cons q (pSet r i t)
theorem pLen {α β : Type} {R : α → β → Prop} {xs : List α} {ys : List β} (h : Paired R xs ys) : xs.length = ys.length := h.length
theorem pMap {α β γ : Type} {R : α → β → Prop} {f : β → γ} {S : α → γ → Prop} (h : ∀ a b, R a b → S a (f b)) : ∀ {xs : List α} {ys : List β}, Paired R xs ys → Paired S xs (ys.map f)
  | _, _, .nil => .nil
  | _, _, .cons r t => .cons (h _ _ r) (pMap h t)

/-- how values stand for Lean's, in what stands for good -/
structure R (α : Type) where
  r : PySem.W.Frag → Hp → V → α → Prop
  mono : ∀ {K : PySem.W.Frag} {F F' : Hp} {v : V} {a : α}, Same F F' → r K F v a → r K F' v a
def qI : R Int := ⟨fun _ _ v i => v = .int i, fun _ h => h⟩
def qB : R Bool := ⟨fun _ _ v i => v = .bl i, fun _ h => h⟩
def qS : R Str := ⟨fun _ _ v i => v = .str i, fun _ h => h⟩
def qN : R Unit := ⟨fun _ _ v _ => v = .non, fun _ h => h⟩
def qO {α : Type} (A : R α) : R (Option α) := ⟨fun K F v i => match i with
  | none => v = .non
  | some a => A.r K F v a, fun {K F F' v a} e h => by
    cases a with
    | none => exact h
    | some a => exact A.mono e h⟩
/-- all of a row -/
abbrev Row {α : Type} (A : R α) (K : PySem.W.Frag) (F : Hp) (vs : List V) (xs : List α) : Prop := Paired (fun v x => A.r K F v x) vs xs
theorem Row.mono {α : Type} {A : R α} {K : PySem.W.Frag} {F F' : Hp} {vs : List V} {xs : List α} (e : Same F F') (h : Row A K F vs xs) : Row A K F' vs xs := Paired.mapP h fun _ _ r => A.mono e r
theorem same_t {K : PySem.W.Frag} {H H' : Hp} {a : Addr} {xs : List V} (e : Same H H') (h : SqT K H a xs) : SqT K H' a xs := by
  rcases h with (h | ⟨o, h⟩) | h
  · exact .inl (.inl (e _ _ h))
  · exact .inl (.inr ⟨o, e _ _ h⟩)
  · exact .inr h
/-- a list, a tuple, one of both -/
def qL {α : Type} (A : R α) : R (List α) := ⟨fun K F v xs => ∃ p vs, v = .ref p ∧ F p = some (.lst vs) ∧ Row A K F vs xs, fun e ⟨p, vs, h1, h2, h3⟩ => ⟨p, vs, h1, e _ _ h2, Row.mono e h3⟩⟩
def qT {α : Type} (A : R α) : R (List α) := ⟨fun K F v xs => ∃ p vs, v = .ref p ∧ SqT K F p vs ∧ Row A K F vs xs, fun e ⟨p, vs, h1, h2, h3⟩ => ⟨p, vs, h1, same_t e h2, Row.mono e h3⟩⟩
def qQ {α : Type} (A : R α) : R (List α) := ⟨fun K F v xs => (qL A).r K F v xs ∨ (qT A).r K F v xs, fun e h => h.elim (fun h => .inl ((qL A).mono e h)) fun h => .inr ((qT A).mono e h)⟩
/-- tuples of two, of three -/
def q2 {α β : Type} (A : R α) (B : R β) : R (α × β) := ⟨fun K F v x => ∃ p u w, v = .ref p ∧ SqT K F p [u, w] ∧ A.r K F u x.1 ∧ B.r K F w x.2, fun e ⟨p, u, w, h1, h2, h3, h4⟩ => ⟨p, u, w, h1, same_t e h2, A.mono e h3, B.mono e h4⟩⟩
def q3 {α β γ : Type} (A : R α) (B : R β) (C : R γ) : R (α × β × γ) := ⟨fun K F v x => ∃ p u w z, v = .ref p ∧ SqT K F p [u, w, z] ∧ A.r K F u x.1 ∧ B.r K F w x.2.1 ∧ C.r K F z x.2.2, fun e ⟨p, u, w, z, h1, h2, h3, h4, h5⟩ => ⟨p, u, w, z, h1, same_t e h2, A.mono e h3, B.mono e h4, C.mono e h5⟩⟩

/-! ## frozen and owned -/
/-- F: what stands for good within H; F0, H0: at the def's entry; P: what the def may change of it -/
structure Sx (P : Addr → Prop) (F0 H0 F H : Hp) : Prop where
  le : Same F0 F
  sub : Same F H
  new : ∀ a o, F a = some o → F0 a = none → H0 a = none
  same : ∀ a o, H0 a = some o → ¬ P a → H a = some o
  live : ∀ a, P a → H a ≠ none
/-- an object of the def's own: it may change it -/
structure Ow (P : Addr → Prop) (H0 F H : Hp) (p : Addr) (o : HO) : Prop where
  fr : F p = none
  at_ : H p = some o
  mine : H0 p = none ∨ P p
abbrev P0 : Addr → Prop := fun _ => False
section
variable {P P' : Addr → Prop} {F0 H0 F H F' H' : Hp} {p q : Addr} {o u : HO}
theorem Sx.refl (h : Same F H) (l : ∀ a, P a → H a ≠ none) : Sx P F H F H := ⟨Same.refl F, h, fun a o e n => absurd (n.symm.trans e) (fun z => nomatch z), fun _ _ e _ => e, l⟩
theorem Sx.refl0 (h : Same F H) : Sx P0 F H F H := Sx.refl h fun _ z => z.elim
theorem Sx.free (S : Sx P F0 H0 F H) (h : H q = none) : F q = none := S.sub.free h
theorem Sx.free0 (S : Sx P F0 H0 F H) (h : H q = none) : H0 q = none := by
  cases e : H0 q with
  | none => rfl
  | some o =>
    have np : ¬ P q := fun z => S.live q z h
    have := S.same q o e np
    rw [h] at this
    cases this
theorem Sx.leN (S : Sx P F0 H0 F H) (h : H q = none) : Same F (upd F q o) := fun a u e => by
  rw [upd_ne (ne_of_none e (S.free h))]
  exact e
/-- a new object that is not kept -/
theorem Sx.temp (S : Sx P F0 H0 F H) (h : H q = none) : Sx P F0 H0 F (upd H q o) := by
  refine ⟨S.le, fun a u e => ?_, S.new, fun a u e n => ?_, fun a z => ?_⟩
  · rw [upd_ne (ne_of_none (S.sub a u e) h)]; exact S.sub a u e
  · rw [upd_ne (ne_of_none (S.same a u e n) h)]; exact S.same a u e n
  · have l := S.live a z
    have ne : a ≠ q := fun e => l (by rw [e]; exact h)
    rw [upd_ne ne]; exact l
/-- a new object that stands for good -/
theorem Sx.alloc (S : Sx P F0 H0 F H) (h : H q = none) : Sx P F0 H0 (upd F q o) (upd H q o) := by
  refine ⟨S.le.trans (S.leN h), fun a u e => ?_, fun a u e n => ?_, (S.temp h).same, (S.temp h).live⟩
  · by_cases z : a = q
    · subst z; rw [upd_same] at e ⊢; exact e
    · rw [upd_ne z] at e ⊢; exact S.sub a u e
  · by_cases z : a = q
    · subst z; exact S.free0 h
    · rw [upd_ne z] at e; exact S.new a u e n
/-- an object of one's own is changed -/
theorem Sx.put (S : Sx P F0 H0 F H) (w : Ow P H0 F H p o) : Sx P F0 H0 F (upd H p u) := by
  refine ⟨S.le, fun a v e => ?_, S.new, fun a v e n => ?_, fun a z => ?_⟩
  · have ne : a ≠ p := fun z => by rw [z, w.fr] at e; cases e
    rw [upd_ne ne]; exact S.sub a v e
  · have ne : a ≠ p := fun z => by
      rcases w.mine with m | m
      · rw [z, m] at e; cases e
      · exact n (z ▸ m)
    rw [upd_ne ne]; exact S.same a v e n
  · by_cases e : a = p
    · subst e; rw [upd_same]; exact fun h => nomatch h
    · rw [upd_ne e]; exact S.live a z
/-- .. is let stand for good -/
theorem Sx.freeze (S : Sx P F0 H0 F H) (w : Ow P H0 F H p o) (h0 : H0 p = none) : Sx P F0 H0 (upd F p o) H := by
  refine ⟨S.le.trans fun a u e => ?_, fun a u e => ?_, fun a u e n => ?_, S.same, S.live⟩
  · rw [upd_ne (ne_of_none e w.fr)]; exact e
  · by_cases z : a = p
    · subst z; rw [upd_same] at e; cases e; exact w.at_
    · rw [upd_ne z] at e; exact S.sub a u e
  · by_cases z : a = p
    · subst z; exact h0
    · rw [upd_ne z] at e; exact S.new a u e n
theorem Ow.leF (w : Ow P H0 F H p o) : Same F (upd F p o) := fun a u e => by rw [upd_ne (ne_of_none e w.fr)]; exact e
/-- behind a call that may change P' -/
theorem Sx.call (S : Sx P F0 H0 F H) (c : Sx P' F H F' H') (h : ∀ a, P' a → P a ∨ H0 a = none) : Sx P F0 H0 F' H' := by
  refine ⟨S.le.trans c.le, c.sub, fun a u e n => ?_, fun a u e n => ?_, fun a z => ?_⟩
  · cases q : F a with
    | some o => exact S.new a o q n
    | none => exact S.free0 (c.new a u e q)
  · refine c.same a u (S.same a u e n) fun z => ?_
    rcases h a z with z | z
    · exact n z
    · rw [z] at e; cases e
  · by_cases y : P' a
    · exact c.live a y
    · have l := S.live a z
      cases e : H a with
      | none => exact absurd e l
      | some o =>
        rw [c.same a o e y]
        exact fun h => nomatch h
theorem Sx.call0 (S : Sx P F0 H0 F H) (c : Sx P0 F H F' H') : Sx P F0 H0 F' H' := S.call c fun _ z => z.elim
theorem Sx.call1 (S : Sx P F0 H0 F H) (c : Sx (fun a => a = p) F H F' H') (w : Ow P H0 F H p o) : Sx P F0 H0 F' H' := S.call c fun a z => by
  subst z
  exact w.mine.symm
theorem Ow.call (w : Ow P H0 F H p o) (c : Sx P' F H F' H') (n : ¬ P' p) : Ow P H0 F' H' p o := by
  refine ⟨?_, c.same p o w.at_ n, w.mine⟩
  cases q : F' p with
  | none => rfl
  | some u =>
    have z := c.new p u q w.fr
    rw [w.at_] at z
    cases z
theorem Ow.call0 (w : Ow P H0 F H p o) (c : Sx P0 F H F' H') : Ow P H0 F' H' p o := w.call c fun z => z
theorem Ow.ne (w : Ow P H0 F H p o) (h : H q = none) : p ≠ q := ne_of_none w.at_ h
theorem Ow.temp (w : Ow P H0 F H p o) (h : H q = none) : Ow P H0 F (upd H q u) p o := ⟨w.fr, by rw [upd_ne (w.ne h)]; exact w.at_, w.mine⟩
theorem Ow.alloc (w : Ow P H0 F H p o) (h : H q = none) : Ow P H0 (upd F q u) (upd H q u) p o := ⟨by rw [upd_ne (w.ne h)]; exact w.fr, by rw [upd_ne (w.ne h)]; exact w.at_, w.mine⟩
theorem Ow.put (w : Ow P H0 F H p o) : Ow P H0 F (upd H p u) p u := ⟨w.fr, upd_same, w.mine⟩
theorem Ow.putO {o' : HO} (w : Ow P H0 F H p o) (n : p ≠ q) : Ow P H0 F (upd H q o') p o := ⟨w.fr, by rw [upd_ne n]; exact w.at_, w.mine⟩
theorem Ow.freezeO {o' : HO} (w : Ow P H0 F H p o) (n : p ≠ q) : Ow P H0 (upd F q o') H p o := ⟨by rw [upd_ne n]; exact w.fr, w.at_, w.mine⟩
/-- a new object of one's own -/
theorem Sx.own (S : Sx P F0 H0 F H) (h : H q = none) : Ow P H0 F (upd H q o) q o := ⟨S.free h, upd_same, .inl (S.free0 h)⟩
/-- inside a callee's eyes: an own object handed in -/
theorem Ow.arg (w : Ow P H0 F H p o) : Ow (fun a => a = p) H F H p o := ⟨w.fr, w.at_, .inr rfl⟩
theorem Ow.back {o' : HO} (w : Ow P H0 F H p o) (z : Ow (fun a => a = p) H F' H' p o') : Ow P H0 F' H' p o' := ⟨z.fr, z.at_, w.mine⟩
end
end Gl

namespace Gl
open PySem PySem.Spec PyProof.Rows L2

/-! ## tests -/
theorem if_b {β : Type} {b : Bool} {A B : Prop} {m1 m2 : Option β} {r : β} (hm : (if b = true then m1 else m2) = some r) (h1 : b = true → m1 = some r → A) (h2 : b = false → m2 = some r → B) : if b = true then A else B := by
  cases b with
  | true => exact h1 rfl hm
  | false => exact h2 rfl hm
theorem if_j {b : Bool} {A B : Prop} (h1 : b = true → A) (h2 : b = false → B) : if b = true then A else B := by
  cases b with
  | true => exact h1 rfl
  | false => exact h2 rfl
/-- and, or: the right side is looked at alone, with whatever is wanted of it; what is known behind both is told once -/
theorem and_j {b : Bool} {u : (Bool → Hp → Prop) → Prop} {Q : Bool → Hp → Prop} {H : Hp} (J : Bool → Hp → Prop) (h1 : b = true → ∀ Q' : Bool → Hp → Prop, (∀ c H', J c H' → Q' c H') → u Q') (h2 : b = false → J false H) (k : ∀ c H', J c H' → Q c H') : if b = true then u Q else Q false H := by
  cases b with
  | true => exact h1 rfl Q k
  | false => exact k _ _ (h2 rfl)
theorem or_j {b : Bool} {u : (Bool → Hp → Prop) → Prop} {Q : Bool → Hp → Prop} {H : Hp} (J : Bool → Hp → Prop) (h1 : b = false → ∀ Q' : Bool → Hp → Prop, (∀ c H', J c H' → Q' c H') → u Q') (h2 : b = true → J true H) (k : ∀ c H', J c H' → Q c H') : if b = true then Q true H else u Q := by
  cases b with
  | true => exact k _ _ (h2 rfl)
  | false => exact h1 rfl Q k
theorem andV_j {b : Bool} {u : VK → Prop} {Q : VK} {H : Hp} (J : V → Hp → Prop) (h1 : b = true → ∀ Q' : VK, (∀ c H', J c H' → Q' c H') → u Q') (h2 : b = false → J (.bl false) H) (k : ∀ c H', J c H' → Q c H') : if b = true then u Q else Q (.bl false) H := by
  cases b with
  | true => exact h1 rfl Q k
  | false => exact k _ _ (h2 rfl)
theorem orV_j {b : Bool} {u : VK → Prop} {Q : VK} {H : Hp} (J : V → Hp → Prop) (h1 : b = false → ∀ Q' : VK, (∀ c H', J c H' → Q' c H') → u Q') (h2 : b = true → J (.bl true) H) (k : ∀ c H', J c H' → Q c H') : if b = true then Q (.bl true) H else u Q := by
  cases b with
  | true => exact k _ _ (h2 rfl)
  | false => exact h1 rfl Q k
/-- .. where the right side leaves the heap as it is -/
theorem and_p {b c : Bool} {u : (Bool → Hp → Prop) → Prop} {Q : Bool → Hp → Prop} {H : Hp} (hu : b = true → ∀ Q' : Bool → Hp → Prop, Q' c H → u Q') (k : Q (b && c) H) : if b = true then u Q else Q false H := by
  cases b with
  | true => exact hu rfl Q k
  | false => exact k
theorem or_p {b c : Bool} {u : (Bool → Hp → Prop) → Prop} {Q : Bool → Hp → Prop} {H : Hp} (hu : b = false → ∀ Q' : Bool → Hp → Prop, Q' c H → u Q') (k : Q (b || c) H) : if b = true then Q true H else u Q := by
  cases b with
  | true => exact k
  | false => exact hu rfl Q k
theorem andV_p {b c : Bool} {u : VK → Prop} {Q : VK} {H : Hp} (hu : b = true → ∀ Q' : VK, Q' (.bl c) H → u Q') (k : Q (.bl (b && c)) H) : if b = true then u Q else Q (.bl false) H := by
  cases b with
  | true => exact hu rfl Q k
  | false => exact k
theorem orV_p {b c : Bool} {u : VK → Prop} {Q : VK} {H : Hp} (hu : b = false → ∀ Q' : VK, Q' (.bl c) H → u Q') (k : Q (.bl (b || c)) H) : if b = true then Q (.bl true) H else u Q := by
  cases b with
  | true => exact k
  | false => exact hu rfl Q k

/-! ## operators on plain values -/
section
variable {X : Cx}
theorem op_eqI : OpR X (compareOp .Eq) (rI0 fun i j => .bl (decide (i = j))) := opB0 fun _ _ _ _ _ _ _ h => eq_int (by rw [Bool.beq_eq_decide_eq]; exact h)
theorem op_neI : OpR X (compareOp .NotEq) (rI0 fun i j => .bl (!decide (i = j))) := opB0 fun _ _ _ _ _ _ _ h => ne_int (by rw [bne, Bool.beq_eq_decide_eq]; exact h)
def rS0 (g : Str → Str → V) : R2 := fun x y H Q => ∃ i j, x = .str i ∧ y = .str j ∧ Q (g i j) H
theorem dec_strV {i j : Str} : decide (V.str i = V.str j) = decide (i = j) := by
  by_cases e : i = j
  · subst e; simp
  · rw [decide_eq_false e, decide_eq_false fun z => e (V.str.inj z)]
theorem dec_blV {i j : Bool} : decide (V.bl i = V.bl j) = decide (i = j) := by cases i <;> cases j <;> rfl
theorem op_eqS : OpR X (compareOp .Eq) (rS0 fun i j => .bl (decide (i = j))) := by
  intro pins s σ H x y v u Q I rx ry h
  obtain ⟨i, j, rfl, rfl, q⟩ := h
  exact op_eq pins s σ H _ _ v u Q I rx ry ⟨rfl, by rw [dec_strV]; exact q⟩
theorem op_neS : OpR X (compareOp .NotEq) (rS0 fun i j => .bl (!decide (i = j))) := by
  intro pins s σ H x y v u Q I rx ry h
  obtain ⟨i, j, rfl, rfl, q⟩ := h
  exact op_ne pins s σ H _ _ v u Q I rx ry ⟨rfl, by rw [dec_strV]; exact q⟩
def rB0 (g : Bool → Bool → V) : R2 := fun x y H Q => ∃ i j, x = .bl i ∧ y = .bl j ∧ Q (g i j) H
theorem op_eqB : OpR X (compareOp .Eq) (rB0 fun i j => .bl (decide (i = j))) := by
  intro pins s σ H x y v u Q I rx ry h
  obtain ⟨i, j, rfl, rfl, q⟩ := h
  exact op_eq pins s σ H _ _ v u Q I rx ry ⟨rfl, by rw [dec_blV]; exact q⟩
theorem op_neB : OpR X (compareOp .NotEq) (rB0 fun i j => .bl (!decide (i = j))) := by
  intro pins s σ H x y v u Q I rx ry h
  obtain ⟨i, j, rfl, rfl, q⟩ := h
  exact op_ne pins s σ H _ _ v u Q I rx ry ⟨rfl, by rw [dec_blV]; exact q⟩
end
/-- i stands in j -/
def inS (i j : Str) : Bool := !(Builtin.Str.occurrences j i 0 j.length 1).isEmpty
def mulOk (a b : Int) : Bool := (decide (-(2 ^ 64) < a) && decide (a < 2 ^ 64)) || (decide (-(2 ^ 64) < b) && decide (b < 2 ^ 64))
theorem mulOk_of {a b : Int} (h : mulOk a b = true) : CMul a b := by
  unfold mulOk at h
  simp only [Bool.or_eq_true, Bool.and_eq_true, decide_eq_true_eq] at h
  exact h
def divOk (b : Int) : Bool := decide (0 < b) && decide (b < 1073741824)
theorem divOk_of {a b : Int} (h : divOk b = true) : CDiv a b := by
  unfold divOk at h
  simp only [Bool.and_eq_true, decide_eq_true_eq] at h
  exact h
def modOk (b : Int) : Bool := decide (0 < b)
theorem modOk_of {b : Int} (h : modOk b = true) : 0 < b := of_decide_eq_true h
def powOk (a b : Int) : Bool := decide (0 ≤ b) && (decide (b ≤ 1000000) && decide (a.natAbs < 2 ^ 64))
theorem powOk_of {a b : Int} (h : powOk a b = true) : CPow a b := by
  unfold powOk at h
  simp only [Bool.and_eq_true, decide_eq_true_eq] at h
  exact h
def catOk (a b : Str) : Bool := decide (a.length + b.length ≤ sizeLine)
theorem catOk_of {a b : Str} (h : catOk a b = true) : a.length + b.length ≤ sizeLine := of_decide_eq_true h
def fits {α : Type} (a : List α) : Bool := decide (a.length < sizeLine)
def fitsS (a : Str) : Bool := decide (a.length ≤ sizeLine)
theorem fitsS_of {a : Str} (h : fitsS a = true) : a.length ≤ sizeLine := of_decide_eq_true h
def fits2 {α : Type} (a b : List α) : Bool := decide (a.length + b.length ≤ sizeLine)
def ixS (s : Str) (i : Int) : Option Str := gd (fitsS s) ((atI s.cps.toList i).bind fun c => some ⟨#[c]⟩)
theorem ixS_some {s z : Str} {i : Int} (h : ixS s i = some z) : ∃ c, s.length ≤ sizeLine ∧ atI s.cps.toList i = some c ∧ z = ⟨#[c]⟩ := by
  obtain ⟨h1, h2⟩ := gd_some h
  obtain ⟨c, h3, h4⟩ := bd_some h2
  exact ⟨c, fitsS_of h1, h3, (Option.some.inj h4).symm⟩
/-- xs[lo:hi] -/
def cut {α : Type} (xs : List α) (lo hi : Option Int) : List α := (xs.drop (HT.sIx xs.length 0 lo)).take (HT.sIx xs.length xs.length hi - HT.sIx xs.length 0 lo)
def rng (a b : Int) : List Int := (List.range (b - a).toNat).map fun i => a + (i : Nat)
def maxI (i j : Int) : Int := if j > i then j else i
def minI (i j : Int) : Int := if j < i then j else i
def b2I (b : Bool) : Int := if b then 1 else 0
/-- the sgns of a text, one by one -/
def sgns (z : Str) : List Str := z.cps.toList.map fun c => ⟨#[c]⟩

/-! ## what is seen of rows -/
section
variable {α : Type} {A : R α} {K : PySem.W.Frag} {F H F0 H0 : Hp} {P : Addr → Prop} {v : V} {xs ys : List α} {Q : VK} {i : Int} {a : α} {p : Addr} {vs : List V}
def SeenL (A : R α) (K : PySem.W.Frag) (F H : Hp) (v : V) (xs : List α) : Prop := ∃ p vs, v = .ref p ∧ H p = some (.lst vs) ∧ Row A K F vs xs
def SeenR (A : R α) (K : PySem.W.Frag) (F H : Hp) (v : V) (xs : List α) : Prop := ∃ p vs, v = .ref p ∧ SqL K H p vs ∧ Row A K F vs xs
def SeenT (A : R α) (K : PySem.W.Frag) (F H : Hp) (v : V) (xs : List α) : Prop := ∃ p vs, v = .ref p ∧ SqT K H p vs ∧ Row A K F vs xs
def SeenQ (A : R α) (K : PySem.W.Frag) (F H : Hp) (v : V) (xs : List α) : Prop := SeenR A K F H v xs ∨ SeenT A K F H v xs
theorem SeenL.r (h : SeenL A K F H v xs) : SeenR A K F H v xs := let ⟨p, vs, h1, h2, h3⟩ := h; ⟨p, vs, h1, SqL.of h2, h3⟩
theorem Sx.l (S : Sx P F0 H0 F H) (r : (qL A).r K F v xs) : SeenL A K F H v xs := let ⟨p, vs, h1, h2, h3⟩ := r; ⟨p, vs, h1, S.sub _ _ h2, h3⟩
theorem Sx.t (S : Sx P F0 H0 F H) (r : (qT A).r K F v xs) : SeenT A K F H v xs := let ⟨p, vs, h1, h2, h3⟩ := r; ⟨p, vs, h1, same_t S.sub h2, h3⟩
theorem Sx.q (S : Sx P F0 H0 F H) (r : (qQ A).r K F v xs) : SeenQ A K F H v xs := r.elim (fun r => .inl (S.l r).r) fun r => .inr (S.t r)
theorem Ow.l (w : Ow P H0 F H p (.lst vs)) (r : Row A K F vs xs) : SeenL A K F H (.ref p) xs := ⟨p, vs, rfl, w.at_, r⟩
theorem SeenL.q (h : SeenL A K F H v xs) : SeenQ A K F H v xs := .inl h.r
theorem SeenR.q (h : SeenR A K F H v xs) : SeenQ A K F H v xs := .inl h
theorem SeenT.q (h : SeenT A K F H v xs) : SeenQ A K F H v xs := .inr h
theorem SeenQ.seq (h : SeenQ A K F H v xs) : ∃ p vs, v = .ref p ∧ (SqL K H p vs ∨ SqT K H p vs) ∧ Row A K F vs xs := by
  rcases h with ⟨p, vs, rfl, h, r⟩ | ⟨p, vs, rfl, h, r⟩
  · exact ⟨p, vs, rfl, .inl h, r⟩
  · exact ⟨p, vs, rfl, .inr h, r⟩
/-- the script -/
def qC : R (List Int) := ⟨fun K F v xs => ∃ p, v = .ref p ∧ SqL K F p (xs.map V.int), fun e ⟨p, h1, h2⟩ => ⟨p, h1, Same.seq e h2⟩⟩
theorem row_ints {K : PySem.W.Frag} {F : Hp} : ∀ xs : List Int, Row qI K F (xs.map V.int) xs
  | [] => .nil
  | _ :: xs => .cons rfl (row_ints xs)
theorem Sx.c {xs : List Int} (S : Sx P F0 H0 F H) (r : qC.r K F v xs) : SeenR qI K F H v xs := let ⟨p, h1, h2⟩ := r; ⟨p, _, h1, Same.seq S.sub h2, row_ints xs⟩
theorem row_at (r : Row A K F vs xs) (h : atI xs i = some a) : ∃ u, atI vs i = some u ∧ A.r K F u a := by
  unfold atI at h ⊢
  rw [pLen r]
  obtain ⟨j, h1, h2⟩ := bd_some h
  obtain ⟨u, h3, h4⟩ := pGet r h2
  exact ⟨u, by rw [h1]; exact h3, h4⟩
theorem row_cut (r : Row A K F vs xs) (lo hi : Option Int) : Row A K F (cutV vs lo hi) (cut xs lo hi) := by
  unfold cutV cut
  rw [pLen r]
  exact pTake _ (pDrop _ r)
theorem rd_ixL (s : SeenR A K F H v xs) (h : atI xs i = some a) (k : ∀ u, A.r K F u a → Q u H) : rIxL K v (.int i) H Q := by
  obtain ⟨p, vs, rfl, h1, r⟩ := s
  obtain ⟨u, h2, h3⟩ := row_at r h
  exact ⟨p, vs, i, u, rfl, rfl, h1, h2, k u h3⟩
theorem rd_ixT (s : SeenT A K F H v xs) (h : atI xs i = some a) (k : ∀ u, A.r K F u a → Q u H) : rIxT K v (.int i) H Q := by
  obtain ⟨p, vs, rfl, h1, r⟩ := s
  obtain ⟨u, h2, h3⟩ := row_at r h
  exact ⟨p, vs, i, u, rfl, rfl, h1, h2, k u h3⟩
theorem rd_ixQ (s : SeenQ A K F H v xs) (h : atI xs i = some a) (k : ∀ u, A.r K F u a → Q u H) : rIx K v (.int i) H Q := by
  rcases s with s | s
  · exact .inl (rd_ixL s h k)
  · exact .inr (.inl (rd_ixT s h k))
theorem rd_len (s : SeenQ A K F H v xs) (k : Q (.int (xs.length : Int)) H) : ∃ p ys, [v] = [V.ref p] ∧ (SqL K H p ys ∨ SqT K H p ys) ∧ Q (.int (ys.length : Int)) H := by
  obtain ⟨p, vs, rfl, h1, r⟩ := s.seq
  exact ⟨p, vs, rfl, h1, by rw [pLen r]; exact k⟩
/-- what is wanted of a new object; of a new list, tuple with such items -/
def nK (Q : VK) (H : Hp) (o : HO) : Prop := ∀ p, H p = none → Q (.ref p) (upd H p o)
def nL (A : R α) (K : PySem.W.Frag) (F : Hp) (Q : VK) (H : Hp) (xs : List α) : Prop := ∀ p us, H p = none → Row A K F us xs → Q (.ref p) (upd H p (.lst us))
def nT (A : R α) (K : PySem.W.Frag) (F : Hp) (Q : VK) (H : Hp) (xs : List α) : Prop := ∀ p us, H p = none → Row A K F us xs → Q (.ref p) (upd H p (.tup us))
theorem rd_slL {lo hi : Option Int} (s : SeenR A K F H v xs) (k : nL A K F Q H (cut xs lo hi)) : rSlL K v lo hi H Q := by
  obtain ⟨p, vs, rfl, h1, r⟩ := s
  exact ⟨p, vs, rfl, h1, fun q hq => k q _ hq (row_cut r lo hi)⟩
theorem rd_list (s : SeenQ A K F H v xs) (k : nL A K F Q H xs) : ∃ p ys, [v] = [V.ref p] ∧ (SqL K H p ys ∨ SqT K H p ys) ∧ ∀ l, H l = none → Q (.ref l) (upd H l (.lst ys)) := by
  obtain ⟨p, vs, rfl, h1, r⟩ := s.seq
  exact ⟨p, vs, rfl, h1, fun q hq => k q _ hq r⟩
theorem rd_tuple (s : SeenR A K F H v xs) (k : nT A K F Q H xs) : kTup K v H Q := by
  obtain ⟨p, vs, rfl, h1, r⟩ := s
  exact .inl ⟨p, vs, rfl, h1, fun q hq => k q _ hq r⟩
theorem rd_cat (s : SeenL A K F H v xs) {w : V} (t : SeenL A K F H w ys) (h : fits2 xs ys = true) (k : nL A K F Q H (xs ++ ys)) : rCat v w H Q := by
  obtain ⟨p, vs, rfl, h1, r⟩ := s
  obtain ⟨q, us, rfl, h2, r2⟩ := t
  exact ⟨p, q, vs, us, rfl, rfl, h1, h2, by rw [pLen r, pLen r2]; exact of_decide_eq_true h, fun z hz => k z _ hz (pApp r r2)⟩
theorem rd_app (w : Ow P H0 F H p (.lst vs)) (r : Row A K F vs xs) {y : V} (h : fits xs = true) (k : Q .non (upd H p (.lst (vs ++ [y])))) : rAppend (.ref p) [y] H Q :=
  ⟨p, vs, y, rfl, rfl, w.at_, by rw [pLen r]; exact of_decide_eq_true h, k⟩
theorem rd_extend (w : Ow P H0 F H p (.lst vs)) (r : Row A K F vs xs) {b : V} {ys : List α} (s : SeenL A K F H b ys) (h : fits2 xs ys = true) (k : ∀ us, Row A K F us ys → Q .non (upd H p (.lst (vs ++ us)))) : rExtend (.ref p) [b] H Q := by
  obtain ⟨q, us, rfl, h2, r2⟩ := s
  exact ⟨p, q, vs, us, rfl, rfl, w.at_, h2, by rw [pLen r, pLen r2]; exact of_decide_eq_true h, k us r2⟩
theorem Ow.ty (w : Ow P H0 F H p (.lst vs)) : tyV K "list" (.ref p) H := .inl ⟨rfl, vs, SqL.of w.at_⟩
end
/-! ### in -/
theorem inV_str {K : PySem.W.Frag} {F : Hp} {a : Str} : ∀ {vs : List V} {xs : List Str}, Row qS K F vs xs → inV (.str a) vs = decide (a ∈ xs) ∧ vs.all flatV = true
  | _, _, .nil => ⟨rfl, rfl⟩
  | v :: vs, x :: xs, .cons r t => by
    obtain ⟨h1, h2⟩ := inV_str (a := a) t
    cases (show v = .str x from r)
    refine ⟨?_, ?_⟩
    · show (eqV (.str x) (.str a) || inV (.str a) vs) = _
      rw [h1]
      show ((x == a) || decide (a ∈ xs)) = decide (a ∈ x :: xs)
      by_cases e : a = x
      · subst e; simp
      · have e2 : (x == a) = false := beq_eq_false_iff_ne.mpr (Ne.symm e)
        rw [e2]; simp [e]
    · show (flatV (.str x) && vs.all flatV) = true
      rw [h2]; rfl
theorem inV_int {K : PySem.W.Frag} {F : Hp} {a : Int} : ∀ {vs : List V} {xs : List Int}, Row qI K F vs xs → inV (.int a) vs = decide (a ∈ xs) ∧ vs.all flatV = true
  | _, _, .nil => ⟨rfl, rfl⟩
  | v :: vs, x :: xs, .cons r t => by
    obtain ⟨h1, h2⟩ := inV_int (a := a) t
    cases (show v = .int x from r)
    refine ⟨?_, ?_⟩
    · show (eqV (.int x) (.int a) || inV (.int a) vs) = _
      rw [h1]
      show ((x == a) || decide (a ∈ xs)) = decide (a ∈ x :: xs)
      by_cases e : a = x
      · subst e; simp
      · have e2 : (x == a) = false := beq_eq_false_iff_ne.mpr (Ne.symm e)
        rw [e2]; simp [e]
    · show (flatV (.int x) && vs.all flatV) = true
      rw [h2]; rfl
section
variable {K : PySem.W.Frag} {F H : Hp} {v : V} {Q : VK}
theorem rd_inS {xs : List Str} {a : Str} (s : SeenQ qS K F H v xs) (k : Q (.bl (decide (a ∈ xs))) H) : rIn K false (.str a) v H Q := by
  obtain ⟨p, vs, rfl, h1, r⟩ := s.seq
  obtain ⟨e1, e2⟩ := inV_str (a := a) r
  exact ⟨p, vs, rfl, h1, rfl, e2, by show Q (.bl (inV (.str a) vs)) H; rw [e1]; exact k⟩
theorem rd_niS {xs : List Str} {a : Str} (s : SeenQ qS K F H v xs) (k : Q (.bl (!decide (a ∈ xs))) H) : rIn K true (.str a) v H Q := by
  obtain ⟨p, vs, rfl, h1, r⟩ := s.seq
  obtain ⟨e1, e2⟩ := inV_str (a := a) r
  exact ⟨p, vs, rfl, h1, rfl, e2, by show Q (.bl (!inV (.str a) vs)) H; rw [e1]; exact k⟩
theorem rd_inI {xs : List Int} {a : Int} (s : SeenQ qI K F H v xs) (k : Q (.bl (decide (a ∈ xs))) H) : rIn K false (.int a) v H Q := by
  obtain ⟨p, vs, rfl, h1, r⟩ := s.seq
  obtain ⟨e1, e2⟩ := inV_int (a := a) r
  exact ⟨p, vs, rfl, h1, rfl, e2, by show Q (.bl (inV (.int a) vs)) H; rw [e1]; exact k⟩
theorem rd_niI {xs : List Int} {a : Int} (s : SeenQ qI K F H v xs) (k : Q (.bl (!decide (a ∈ xs))) H) : rIn K true (.int a) v H Q := by
  obtain ⟨p, vs, rfl, h1, r⟩ := s.seq
  obtain ⟨e1, e2⟩ := inV_int (a := a) r
  exact ⟨p, vs, rfl, h1, rfl, e2, by show Q (.bl (!inV (.int a) vs)) H; rw [e1]; exact k⟩
end
/-! ### == of data -/
/-- what stands for Lean's in the library's data -/
structure Dat {α : Type} (A : R α) where
  d : α → PyData
  dp : ∀ {K : PySem.W.Frag} {F : Hp} {v : V} {a : α}, A.r K F v a → Dp K F v (d a)
  eq : ∀ a b : α, PyData.eqv (d a) (d b) = true ↔ a = b
mutual
theorem Dp.mono {K : PySem.W.Frag} {F F' : Hp} (e : Same F F') : ∀ {v : V} {d : PyData}, Dp K F v d → Dp K F' v d
  | _, _, .non => .non
  | _, _, .bl b => .bl b
  | _, _, .int i => .int i
  | _, _, .str x => .str x
  | _, _, .lst h a => .lst (Same.seq e h) (DpAll.mono e a)
  | _, _, .tup h a => .tup (same_t e h) (DpAll.mono e a)
theorem DpAll.mono {K : PySem.W.Frag} {F F' : Hp} (e : Same F F') : ∀ {vs : List V} {ds : List PyData}, DpAll K F vs ds → DpAll K F' vs ds
  | _, _, .nil => .nil
  | _, _, .cons h a => .cons (Dp.mono e h) (DpAll.mono e a)
end
def dI : Dat qI := ⟨.int, fun {K F v a} h => by cases (show v = .int a from h); exact .int a, fun a b => by simp [PyData.eqv]⟩
def dB : Dat qB := ⟨.bool, fun {K F v a} h => by cases (show v = .bl a from h); exact .bl a, fun a b => by simp [PyData.eqv]⟩
def dS : Dat qS := ⟨.str, fun {K F v a} h => by cases (show v = .str a from h); exact .str a, fun a b => by simp [PyData.eqv]⟩
theorem dpAll {α : Type} {A : R α} (D : Dat A) {K : PySem.W.Frag} {F : Hp} : ∀ {vs : List V} {xs : List α}, Row A K F vs xs → DpAll K F vs (xs.map D.d)
  | _, _, .nil => .nil
  | _, _, .cons r t => .cons (D.dp r) (dpAll D t)
theorem eqvAll_iff {α : Type} {A : R α} (D : Dat A) : ∀ xs ys : List α, PyData.eqvAll (xs.map D.d) (ys.map D.d) = true ↔ xs = ys
  | [], [] => by simp [PyData.eqvAll]
  | [], _ :: _ => by simp [PyData.eqvAll]
  | _ :: _, [] => by simp [PyData.eqvAll]
  | x :: xs, y :: ys => by
    show (PyData.eqv (D.d x) (D.d y) && PyData.eqvAll (xs.map D.d) (ys.map D.d)) = true ↔ _
    rw [Bool.and_eq_true, D.eq x y, eqvAll_iff D xs ys]
    simp
def dL {α : Type} {A : R α} (D : Dat A) : Dat (qL A) := ⟨fun xs => .list (xs.map D.d), fun {K F v a} h => by
    obtain ⟨p, vs, rfl, h2, h3⟩ := h
    exact .lst (SqL.of h2) (dpAll D h3), fun a b => eqvAll_iff D a b⟩
def dT {α : Type} {A : R α} (D : Dat A) : Dat (qT A) := ⟨fun xs => .tuple (xs.map D.d), fun {K F v a} h => by
    obtain ⟨p, vs, rfl, h2, h3⟩ := h
    exact .tup h2 (dpAll D h3), fun a b => eqvAll_iff D a b⟩
def d2 {α β : Type} {A : R α} {B : R β} (D : Dat A) (E : Dat B) : Dat (q2 A B) := ⟨fun x => .tuple [D.d x.1, E.d x.2], fun {K F v a} h => by
    obtain ⟨p, u, w, rfl, h2, h3, h4⟩ := h
    exact .tup h2 (.cons (D.dp h3) (.cons (E.dp h4) .nil)), fun a b => by
    show (PyData.eqv (D.d a.1) (D.d b.1) && (PyData.eqv (E.d a.2) (E.d b.2) && true)) = true ↔ _
    rw [Bool.and_eq_true, Bool.and_eq_true, D.eq, E.eq]
    obtain ⟨a1, a2⟩ := a
    obtain ⟨b1, b2⟩ := b
    simp⟩
def shp {α : Type} {A : R α} (D : Dat A) (a : α) : Bool := SeqAt.shaped (D.d a)
section
variable {α : Type} {A : R α} {K : PySem.W.Frag} {F H F0 H0 : Hp} {P : Addr → Prop} {v w : V} {a b : α} {Q : VK} [DecidableEq α]
theorem SeenR.dp {α : Type} {A : R α} {K : PySem.W.Frag} {F H : Hp} {v : V} {xs : List α} (S : Same F H) (D : Dat A) (h : SeenR A K F H v xs) : Dp K H v (.list (xs.map D.d)) := let ⟨p, vs, h1, h2, h3⟩ := h; by subst h1; exact .lst h2 (dpAll D (Row.mono S h3))
theorem eqv_dec (D : Dat A) (a b : α) : PyData.eqv (D.d a) (D.d b) = decide (a = b) := by
  by_cases e : a = b
  · rw [(D.eq a b).mpr e, decide_eq_true e]
  · rw [decide_eq_false e]
    cases h : PyData.eqv (D.d a) (D.d b) with
    | false => rfl
    | true => exact absurd ((D.eq a b).mp h) e
/-- what is seen of a datum -/
def SeenD (D : Dat A) (K : PySem.W.Frag) (H : Hp) (v : V) (a : α) : Prop := Dp K H v (D.d a)
theorem Sx.d (S : Sx P F0 H0 F H) (D : Dat A) (r : A.r K F v a) : SeenD D K H v a := Dp.mono S.sub (D.dp r)
theorem rd_eqD {D : Dat A} (s : SeenD D K H v a) (t : SeenD D K H w b) (h1 : shp D a = true) (h2 : shp D b = true) (k : Q (.bl (decide (a = b))) H) : rEqD K v w H Q :=
  ⟨_, _, s, t, h1, h2, by rw [eqv_dec]; exact k⟩
theorem rd_neD {D : Dat A} (s : SeenD D K H v a) (t : SeenD D K H w b) (h1 : shp D a = true) (h2 : shp D b = true) (k : Q (.bl (!decide (a = b))) H) : rNeD K v w H Q :=
  ⟨_, _, s, t, h1, h2, by rw [eqv_dec]; exact k⟩
end
section
variable {α : Type} {A : R α} {K : PySem.W.Frag} {F H F0 H0 : Hp} {P : Addr → Prop} {p : Addr} {vs : List V} {xs : List α}
theorem Sx.cd {v : V} {xs : List Int} (S : Sx P F0 H0 F H) (r : qC.r K F v xs) : SeenD (dL dI) K H v xs := SeenR.dp S.sub dI (S.c r)
theorem Ow.d (w : Ow P H0 F H p (.lst vs)) (S : Sx P F0 H0 F H) (D : Dat A) (r : Row A K F vs xs) : SeenD (dL D) K H (.ref p) xs := .lst (SqL.of w.at_) (dpAll D (Row.mono S.sub r))
end
end Gl

namespace Gl
open PySem PySem.Spec PyProof.Rows L2

/-! ## loops -/
def loopS {α S : Type} (f : α → S → Option S) : List α → S → Option S
  | [], s => some s
  | x :: xs, s => (f x s).bind fun s' => loopS f xs s'
def loopC {α S ρ : Type} (f : α → S → Option (Ctl S ρ)) : List α → S → Option (Ctl S ρ)
  | [], s => some (.nx s)
  | x :: xs, s => (f x s).bind fun c => match c with
    | .nx s' => loopC f xs s'
    | .bk s' => some (.nx s')
    | .rt r => some (.rt r)
/-- behind a loop that may return -/
def aft {S ρ : Type} (c : Ctl S ρ) (k : S → Option ρ) : Option ρ := match c with
  | .nx s => k s
  | .bk s => k s
  | .rt r => some r
/-- the same within a loop -/
def aftC {S S' ρ : Type} (c : Ctl S ρ) (k : S → Option (Ctl S' ρ)) : Option (Ctl S' ρ) := match c with
  | .nx s => k s
  | .bk s => k s
  | .rt r => some (.rt r)
def fuel : Nat := 1000000000
def whileS {S : Type} (c : S → Option (Bool × S)) (f : S → Option S) : Nat → S → Option S
  | 0, _ => none
  | n + 1, s => (c s).bind fun b => if b.1 = true then (f b.2).bind fun s' => whileS c f n s' else some b.2
def whileC {S ρ : Type} (c : S → Option (Bool × S)) (f : S → Option (Ctl S ρ)) : Nat → S → Option (Ctl S ρ)
  | 0, _ => none
  | n + 1, s => (c s).bind fun b => if b.1 = true then (f b.2).bind fun c' => match c' with
    | .nx s' => whileC c f n s'
    | .bk s' => some (.nx s')
    | .rt r => some (.rt r) else some (.nx b.2)

/-- what an iterator hands out, one behind another -/
structure Feeds (J : It) (n : Nat) (G : Hp → Prop) (it : Nat → V → Prop) : Prop where
  go : ∀ i H, i < n → G H → J.go i H
  stop : ∀ H, G H → J.stop n H
  yld : ∀ i H x H', i < n → G H → J.yld i H x H' → H' = H ∧ it i x
theorem feedsL {K : PySem.W.Frag} {a : Addr} {vs : List V} : Feeds (Itl K a) vs.length (fun H => SqL K H a vs) (fun i x => vs[i]? = some x) :=
  ⟨fun i H h q => ⟨vs, vs[i], q, by simp [h]⟩, fun H q => ⟨vs, q, Nat.le_refl _⟩, fun i H x H' h q y => ⟨y.1, y.2 vs q⟩⟩
theorem feedsT {K : PySem.W.Frag} {a : Addr} {vs : List V} : Feeds (Itt K a) vs.length (fun H => SqT K H a vs) (fun i x => vs[i]? = some x) :=
  ⟨fun i H h q => ⟨vs, vs[i], q, by simp [h]⟩, fun H q => ⟨vs, q, Nat.le_refl _⟩, fun i H x H' h q y => ⟨y.1, y.2 vs q⟩⟩
theorem feedsR {lo : Int} {n : Nat} : Feeds (Itr lo n) n (fun _ => True) (fun i x => x = .int (lo + (i : Nat))) :=
  ⟨fun i H h _ => h, fun H _ => Nat.le_refl _, fun i H x H' h _ y => y⟩
theorem feedsS {z : Str} : Feeds (Its z) z.cps.size (fun _ => True) (fun i x => ∃ c, z.cps[i]? = some c ∧ x = .str ⟨#[c]⟩) :=
  ⟨fun i H h _ => h, fun H _ => Nat.le_refl _, fun i H x H' h _ y => y⟩
/-- the items are typed -/
structure Typed {α : Type} (A : R α) (K : PySem.W.Frag) (F : Hp) (n : Nat) (it : Nat → V → Prop) (xs : List α) : Prop where
  len : xs.length = n
  at_ : ∀ i x, it i x → ∃ a, xs[i]? = some a ∧ A.r K F x a
theorem typedRow {α : Type} {A : R α} {K : PySem.W.Frag} {F : Hp} {vs : List V} {xs : List α} (r : Row A K F vs xs) : Typed A K F vs.length (fun i x => vs[i]? = some x) xs :=
  ⟨(pLen r).symm, fun i x h => pGetL r h⟩
theorem typedR {K : PySem.W.Frag} {F : Hp} {a b : Int} : Typed qI K F (b - a).toNat (fun i x => i < (b - a).toNat ∧ x = .int (a + (i : Nat))) (rng a b) :=
  ⟨by unfold rng; simp, fun i x h => ⟨a + (i : Nat), by unfold rng; simp [h.1], h.2⟩⟩
theorem feedsRg {a b : Int} : Feeds (Itr a (b - a).toNat) (b - a).toNat (fun _ => True) (fun i x => i < (b - a).toNat ∧ x = .int (a + (i : Nat))) :=
  ⟨fun i H h _ => h, fun H _ => Nat.le_refl _, fun i H x H' h _ y => ⟨y.1, h, y.2⟩⟩
theorem typedS {K : PySem.W.Frag} {F : Hp} {z : Str} : Typed qS K F z.cps.size (fun i x => ∃ c, z.cps[i]? = some c ∧ x = .str ⟨#[c]⟩) (sgns z) :=
  ⟨by unfold sgns; simp, fun i x h => by
    obtain ⟨c, h1, h2⟩ := h
    exact ⟨⟨#[c]⟩, by unfold sgns; simp [h1], h2⟩⟩

abbrev ForG (J : It) (g : TG) (tb : TS) (D : Ends) (σ : L2.St) (H : Hp) : Prop :=
  ∃ W : Nat → Nat → L2.St → Hp → Prop, (∃ m, W 0 m σ H) ∧ ∀ i m σ H, W i m σ H →
    (J.stop i H ∧ D.nx σ H) ∨ (J.go i H ∧ ∃ N : L2.St → Hp → Prop, (∀ σ' H', N σ' H' → ∃ m', m' < m ∧ W (i + 1) m' σ' H') ∧ ∀ x H', J.yld i H x H' → g x σ H' fun σ2 H2 => tb { D with nx := N, ct := N, bk := D.nx } σ2 H2)
section
variable {J : It} {n : Nat} {G : Hp → Prop} {it : Nat → V → Prop} {α S ρ : Type} {A : R α} {K : PySem.W.Frag} {F : Hp} {xs : List α} {g : TG} {tb : TS} {σ : L2.St} {H : Hp} {Nx Bx Cx : L2.St → Hp → Prop} {Rx : VK}
theorem loopS_at {f : α → S → Option S} {i : Nat} {a : α} {s s1 : S} (h : loopS f (xs.drop i) s = some s1) (ha : xs[i]? = some a) : ∃ s', f a s = some s' ∧ loopS f (xs.drop (i + 1)) s' = some s1 := by
  have hi : i < xs.length := (List.getElem?_eq_some_iff.mp ha).1
  have e : xs.drop i = a :: xs.drop (i + 1) := by
    rw [List.drop_eq_getElem_cons hi]
    rw [(List.getElem?_eq_some_iff.mp ha).2]
  rw [e] at h
  exact bd_some h
theorem loopC_at {f : α → S → Option (Ctl S ρ)} {i : Nat} {a : α} {s : S} {c1 : Ctl S ρ} (h : loopC f (xs.drop i) s = some c1) (ha : xs[i]? = some a) : ∃ c, f a s = some c ∧ (match c with
    | .nx s' => loopC f (xs.drop (i + 1)) s'
    | .bk s' => some (.nx s')
    | .rt r => some (.rt r)) = some c1 := by
  have hi : i < xs.length := (List.getElem?_eq_some_iff.mp ha).1
  have e : xs.drop i = a :: xs.drop (i + 1) := by
    rw [List.drop_eq_getElem_cons hi]
    rw [(List.getElem?_eq_some_iff.mp ha).2]
  rw [e] at h
  exact bd_some h
/-- a loop that goes to its end -/
theorem rd_forS (Fd : Feeds J n G it) (Ty : Typed A K F n it xs) {f : α → S → Option S} {s0 s1 : S} (hm : loopS f xs s0 = some s1) (Iv : S → L2.St → Hp → Prop) (hG : ∀ s σ H, Iv s σ H → G H) (h0 : Iv s0 σ H)
    (turn : ∀ (a : α) (x : V) (s s' : S) (σ : L2.St) (H : Hp), A.r K F x a → Iv s σ H → f a s = some s' → g x σ H fun σ2 H2 => tb ⟨Iv s', Rx, Nx, Iv s'⟩ σ2 H2)
    (done : ∀ σ H, Iv s1 σ H → Nx σ H) : ForG J g tb ⟨Nx, Rx, Bx, Cx⟩ σ H := by
  refine ⟨fun i m σ H => m = n - i ∧ i ≤ n ∧ ∃ s, Iv s σ H ∧ loopS f (xs.drop i) s = some s1, ⟨n, by simp, Nat.zero_le _, s0, h0, hm⟩, ?_⟩
  rintro i m σ H ⟨rfl, hi, s, iv, hl⟩
  by_cases hlt : i < n
  · obtain ⟨a, ha⟩ : ∃ a, xs[i]? = some a := ⟨xs[i]'(by rw [Ty.len]; exact hlt), by simp [Ty.len, hlt]⟩
    obtain ⟨s', e1, e2⟩ := loopS_at hl ha
    refine .inr ⟨Fd.go i H hlt (hG s σ H iv), Iv s', fun σ' H' p' => ⟨n - (i + 1), by omega, rfl, hlt, s', p', e2⟩, fun x H' y => ?_⟩
    obtain ⟨rfl, hx⟩ := Fd.yld i H x H' hlt (hG s σ H iv) y
    obtain ⟨a', ha', r⟩ := Ty.at_ i x hx
    rw [ha] at ha'
    cases ha'
    exact turn a x s s' σ H' r iv e1
  · have e : i = n := by omega
    subst e
    rw [← Ty.len, List.drop_length] at hl
    cases hl
    exact .inl ⟨Fd.stop H (hG _ σ H iv), done σ H iv⟩
/-- a loop that may break off or return -/
theorem rd_forC (Fd : Feeds J n G it) (Ty : Typed A K F n it xs) {f : α → S → Option (Ctl S ρ)} {s0 : S} {c1 : Ctl S ρ} (hm : loopC f xs s0 = some c1) (Iv : S → L2.St → Hp → Prop) (hG : ∀ s σ H, Iv s σ H → G H) (h0 : Iv s0 σ H)
    (turn : ∀ (a : α) (x : V) (s : S) (c : Ctl S ρ) (σ : L2.St) (H : Hp), A.r K F x a → Iv s σ H → f a s = some c → (∀ s' σ' H', c = .bk s' → Iv s' σ' H' → Nx σ' H') → (∀ r, c = .rt r → c1 = .rt r) →
      g x σ H fun σ2 H2 => tb ⟨fun σ' H' => ∃ s', c = .nx s' ∧ Iv s' σ' H', Rx, Nx, fun σ' H' => ∃ s', c = .nx s' ∧ Iv s' σ' H'⟩ σ2 H2)
    (done : ∀ s σ H, c1 = .nx s → Iv s σ H → Nx σ H) : ForG J g tb ⟨Nx, Rx, Bx, Cx⟩ σ H := by
  refine ⟨fun i m σ H => m = n - i ∧ i ≤ n ∧ ∃ s, Iv s σ H ∧ loopC f (xs.drop i) s = some c1, ⟨n, by simp, Nat.zero_le _, s0, h0, hm⟩, ?_⟩
  rintro i m σ H ⟨rfl, hi, s, iv, hl⟩
  by_cases hlt : i < n
  · obtain ⟨a, ha⟩ : ∃ a, xs[i]? = some a := ⟨xs[i]'(by rw [Ty.len]; exact hlt), by simp [Ty.len, hlt]⟩
    obtain ⟨c, e1, e2⟩ := loopC_at hl ha
    refine .inr ⟨Fd.go i H hlt (hG s σ H iv), fun σ' H' => ∃ s', c = .nx s' ∧ Iv s' σ' H', fun σ' H' p' => ?_, fun x H' y => ?_⟩
    · obtain ⟨s', rfl, p'⟩ := p'
      exact ⟨n - (i + 1), by omega, rfl, hlt, s', p', e2⟩
    · obtain ⟨rfl, hx⟩ := Fd.yld i H x H' hlt (hG s σ H iv) y
      obtain ⟨a', ha', r⟩ := Ty.at_ i x hx
      rw [ha] at ha'
      cases ha'
      refine turn a x s c σ H' r iv e1 (fun s' σ' H' e p => ?_) fun r e => ?_
      · subst e
        exact done s' σ' H' (Option.some.inj e2).symm p
      · subst e
        exact (Option.some.inj e2).symm
  · have e : i = n := by omega
    subst e
    rw [← Ty.len, List.drop_length] at hl
    exact .inl ⟨Fd.stop H (hG _ σ H iv), done s σ H (Option.some.inj hl).symm iv⟩
end
section
variable {S ρ : Type} {c : TT} {tb : TS} {σ : L2.St} {H : Hp} {Nx Bx Cx : L2.St → Hp → Prop} {Rx : VK}
/-- while: the test may change the state; f: a turn -/
theorem rd_whileS {cm : S → Option (Bool × S)} {f : S → Option S} {N : Nat} {s0 s1 : S} (hm : whileS cm f N s0 = some s1) (Iv : S → L2.St → Hp → Prop) (h0 : Iv s0 σ H)
    (turn : ∀ (s : S) (b : Bool × S) (σ : L2.St) (H : Hp) (T : L2.St → Hp → Prop) (E : L2.St → Hp → Prop), Iv s σ H → cm s = some b → (∀ σ' H', b.1 = true → Iv b.2 σ' H' → T σ' H') → (∀ σ' H', b.1 = false → Iv b.2 σ' H' → E σ' H') → c σ H fun b H1 => if b = true then T σ H1 else E σ H1)
    (body : ∀ (s s' : S) (σ : L2.St) (H : Hp), Iv s σ H → f s = some s' → tb ⟨Iv s', Rx, Nx, Iv s'⟩ σ H)
    (done : ∀ σ H, Iv s1 σ H → Nx σ H) : tWhile c tb ⟨Nx, Rx, Bx, Cx⟩ σ H := by
  refine ⟨fun m σ H => ∃ s, Iv s σ H ∧ whileS cm f m s = some s1, ⟨N, s0, h0, hm⟩, ?_⟩
  rintro m σ H ⟨s, iv, h⟩
  cases m with
  | zero => cases h
  | succ m =>
    obtain ⟨b, e1, e2⟩ := bd_some h
    refine turn s b σ H (fun σ H1 => ∃ N : L2.St → Hp → Prop, (∀ σ' H', N σ' H' → ∃ m', m' < m + 1 ∧ ∃ s, Iv s σ' H' ∧ whileS cm f m' s = some s1) ∧ tb ⟨N, Rx, Nx, N⟩ σ H1) (fun σ H1 => Nx σ H1) iv e1 (fun σ' H' hb iv' => ?_) fun σ' H' hb iv' => ?_
    · rw [hb] at e2
      obtain ⟨s', e3, e4⟩ := bd_some (show ((f b.2).bind fun s' => whileS cm f m s') = some s1 from e2)
      exact ⟨Iv s', fun σ2 H2 p => ⟨m, Nat.lt_succ_self _, s', p, e4⟩, body b.2 s' σ' H' iv' e3⟩
    · rw [hb] at e2
      cases (show some b.2 = some s1 from e2)
      exact done σ' H' iv'
theorem rd_whileC {cm : S → Option (Bool × S)} {f : S → Option (Ctl S ρ)} {N : Nat} {s0 : S} {c1 : Ctl S ρ} (hm : whileC cm f N s0 = some c1) (Iv : S → L2.St → Hp → Prop) (h0 : Iv s0 σ H)
    (turn : ∀ (s : S) (b : Bool × S) (σ : L2.St) (H : Hp) (T : L2.St → Hp → Prop) (E : L2.St → Hp → Prop), Iv s σ H → cm s = some b → (∀ σ' H', b.1 = true → Iv b.2 σ' H' → T σ' H') → (∀ σ' H', b.1 = false → Iv b.2 σ' H' → E σ' H') → c σ H fun b H1 => if b = true then T σ H1 else E σ H1)
    (body : ∀ (s : S) (c' : Ctl S ρ) (σ : L2.St) (H : Hp), Iv s σ H → f s = some c' → (∀ s' σ' H', c' = .bk s' → Iv s' σ' H' → Nx σ' H') → (∀ r, c' = .rt r → c1 = .rt r) →
      tb ⟨fun σ' H' => ∃ s', c' = .nx s' ∧ Iv s' σ' H', Rx, Nx, fun σ' H' => ∃ s', c' = .nx s' ∧ Iv s' σ' H'⟩ σ H)
    (done : ∀ s σ H, c1 = .nx s → Iv s σ H → Nx σ H) : tWhile c tb ⟨Nx, Rx, Bx, Cx⟩ σ H := by
  refine ⟨fun m σ H => ∃ s, Iv s σ H ∧ whileC cm f m s = some c1, ⟨N, s0, h0, hm⟩, ?_⟩
  rintro m σ H ⟨s, iv, h⟩
  cases m with
  | zero => cases h
  | succ m =>
    obtain ⟨b, e1, e2⟩ := bd_some h
    refine turn s b σ H (fun σ H1 => ∃ N : L2.St → Hp → Prop, (∀ σ' H', N σ' H' → ∃ m', m' < m + 1 ∧ ∃ s, Iv s σ' H' ∧ whileC cm f m' s = some c1) ∧ tb ⟨N, Rx, Nx, N⟩ σ H1) (fun σ H1 => Nx σ H1) iv e1 (fun σ' H' hb iv' => ?_) fun σ' H' hb iv' => ?_
    · rw [hb] at e2
      obtain ⟨c', e3, e4⟩ := bd_some (show ((f b.2).bind fun c' => match c' with
        | .nx s' => whileC cm f m s'
        | .bk s' => some (.nx s')
        | .rt r => some (.rt r)) = some c1 from e2)
      refine ⟨fun σ' H' => ∃ s', c' = .nx s' ∧ Iv s' σ' H', fun σ2 H2 p => ?_, body b.2 c' σ' H' iv' e3 (fun s' σ2 H2 e p => ?_) fun r e => ?_⟩
      · obtain ⟨s', rfl, p⟩ := p
        exact ⟨m, Nat.lt_succ_self _, s', p, e4⟩
      · subst e
        exact done s' σ2 H2 (Option.some.inj e4).symm p
      · subst e
        exact (Option.some.inj e4).symm
    · rw [hb] at e2
      exact done b.2 σ' H' (Option.some.inj (show some (.nx b.2) = some c1 from e2)).symm iv'
end

/-! ## comprehensions -/
def fitsE {α : Type} (a : List α) : Bool := decide (a.length ≤ sizeLine)
/-- f: an item's value, if it is kept, and the state behind it -/
def comp {α β S : Type} (f : α → S → Option (Option β × S)) : List α → S → Option (List β × S)
  | [], s => some ([], s)
  | x :: xs, s => (f x s).bind fun o => (comp f xs o.2).bind fun r => some (match o.1 with
    | some y => (y :: r.1, r.2)
    | none => r)
/-- what a comprehension's loop asks -/
abbrev LcG (J : It) (g : TG) (tt : TT) (te : TE) (vs : List Nat) (σ : L2.St) (D : Addr) (Q : VK) (H1 : Hp) : Prop :=
  ∃ W : Nat → Nat → Hp → Prop, (∃ m, W 0 m (upd H1 D (.lst []))) ∧ ∀ i m H, W i m H →
  (J.stop i H ∧ Q (.ref D) H) ∨ (J.go i H ∧ ∃ Nx : Hp → Prop, (∀ H', Nx H' → ∃ m', m' < m ∧ W (i + 1) m' H') ∧ ∀ x H', J.yld i H x H' → g x (wipe σ vs) H' fun σ2 H2 => wipe σ2 vs = wipe σ vs ∧ tt σ2 H2 fun b H3 =>
    if b = true then te σ2 H3 fun y H4 => ∃ acc, H4 D = some (.lst acc) ∧ acc.length < sizeLine ∧ Nx (upd H4 D (.lst (acc ++ [y]))) else Nx H3)
section
variable {J : It} {n : Nat} {G : Hp → Prop} {it : Nat → V → Prop} {α β S : Type} {A : R α} {B : R β} {K : PySem.W.Frag} {F1 H1 : Hp} {xs : List α} {g : TG} {tt : TT} {te : TE} {vs : List Nat} {σ : L2.St} {Q : VK}
theorem comp_at {f : α → S → Option (Option β × S)} {i : Nat} {a : α} {s : S} {r : List β × S} (h : comp f (xs.drop i) s = some r) (ha : xs[i]? = some a) : ∃ o r', f a s = some o ∧ comp f (xs.drop (i + 1)) o.2 = some r' ∧ r = (match o.1 with
    | some y => (y :: r'.1, r'.2)
    | none => r') := by
  have hi : i < xs.length := (List.getElem?_eq_some_iff.mp ha).1
  have e : xs.drop i = a :: xs.drop (i + 1) := by
    rw [List.drop_eq_getElem_cons hi]
    rw [(List.getElem?_eq_some_iff.mp ha).2]
  rw [e] at h
  obtain ⟨o, e1, h2⟩ := bd_some h
  obtain ⟨r', e2, h3⟩ := bd_some h2
  exact ⟨o, r', e1, e2, (Option.some.inj h3).symm⟩
/-- c: the step from the comprehension's start (F1, H1); Ex: what holds of the objects that it changes (Pc) -/
theorem rd_comp (Fd : Feeds J n G it) (Ty : Typed A K F1 n it xs) {f : α → S → Option (Option β × S)} {s0 : S} {r : List β × S} (hm : comp f xs s0 = some r) (hz : fitsE xs = true) {Pc : Addr → Prop} (hlv : ∀ a, Pc a → H1 a ≠ none) (hsub : Same F1 H1) (Ex : S → Hp → Hp → Prop)
    (hG : ∀ s F H, Sx Pc F1 H1 F H → Ex s F H → G H) (h0 : Ex s0 F1 H1) (hEx : ∀ s F H q o, Ex s F H → H1 q = none → H q = none → Ex s F (upd H q o)) (hEp : ∀ s F H q u o, Ex s F H → H1 q = none → H q = some u → Ex s F (upd H q o))
    (turn : ∀ (a : α) (x : V) (s : S) (o : Option β × S) (F H : Hp) (D : Addr) (acc : List V), A.r K F1 x a → Sx Pc F1 H1 F H → Ex s F H → Ow Pc H1 F H D (.lst acc) → H1 D = none → f a s = some o →
      ∀ (E : Hp → Prop) (N : V → Hp → Prop), (∀ y b F' H', o.1 = some b → Sx Pc F H F' H' → B.r K F' y b → Ex o.2 F' H' → N y H') → (∀ F' H', o.1 = none → Sx Pc F H F' H' → Ex o.2 F' H' → E H') →
      g x (wipe σ vs) H fun σ2 H2 => wipe σ2 vs = wipe σ vs ∧ tt σ2 H2 fun b H3 => if b = true then te σ2 H3 N else E H3)
    (done : ∀ D us F H, H1 D = none → Sx Pc F1 H1 F H → Ex r.2 F H → Ow Pc H1 F H D (.lst us) → Row B K F us r.1 → Q (.ref D) H) : ∀ D, H1 D = none → LcG J g tt te vs σ D Q H1 := by
  intro D hD
  refine ⟨fun i m H => m = n - i ∧ i ≤ n ∧ ∃ s F acc ys r', Sx Pc F1 H1 F H ∧ Ex s F H ∧ Ow Pc H1 F H D (.lst acc) ∧ Row B K F acc ys ∧ acc.length ≤ i ∧ comp f (xs.drop i) s = some r' ∧ r = (ys ++ r'.1, r'.2), ⟨n, by simp, Nat.zero_le _, s0, F1, [], [], r, ?_, ?_, ?_, .nil, Nat.le_refl _, hm, rfl⟩, ?_⟩
  · exact (Sx.refl hsub hlv).temp hD
  · exact hEx _ _ _ _ _ h0 hD hD
  · exact (Sx.refl hsub hlv).own hD
  rintro i m H ⟨rfl, hi, s, F, acc, ys, r', S, ex, w, row, hal, hl, hr⟩
  by_cases hlt : i < n
  · obtain ⟨a, ha⟩ : ∃ a, xs[i]? = some a := ⟨xs[i]'(by rw [Ty.len]; exact hlt), by simp [Ty.len, hlt]⟩
    obtain ⟨o, r2, e1, e2, e3⟩ := comp_at hl ha
    refine .inr ⟨Fd.go i H hlt (hG s F H S ex), fun H' => ∃ s F acc ys r', Sx Pc F1 H1 F H' ∧ Ex s F H' ∧ Ow Pc H1 F H' D (.lst acc) ∧ Row B K F acc ys ∧ acc.length ≤ i + 1 ∧ comp f (xs.drop (i + 1)) s = some r' ∧ r = (ys ++ r'.1, r'.2), fun H' p' => ⟨n - (i + 1), by omega, rfl, hlt, p'⟩, fun x H' y => ?_⟩
    obtain ⟨rfl, hx⟩ := Fd.yld i H x H' hlt (hG s F H S ex) y
    obtain ⟨a', ha', ra⟩ := Ty.at_ i x hx
    rw [ha] at ha'
    cases ha'
    have nD : ∀ F' H'', Sx Pc F H' F' H'' → Ow Pc H1 F' H'' D (.lst acc) := fun F' H'' c => w.call c fun z => hlv D z hD
    have hsz : acc.length < sizeLine := by
      have := of_decide_eq_true hz
      rw [Ty.len] at this
      omega
    refine turn a x s o F H' D acc ra S ex w hD e1 _ _ (fun y b F' H'' ho c rb ex' => ?_) fun F' H'' ho c ex' => ?_
    · have w' := nD F' H'' c
      have S' : Sx Pc F1 H1 F' H'' := S.call c fun a z => .inl z
      refine ⟨acc, w'.at_, hsz, o.2, F', acc ++ [y], ys ++ [b], r2, S'.put w', hEp _ _ _ _ _ _ ex' hD w'.at_, w'.put, (Row.mono c.le row).snoc rb, by simp; omega, e2, ?_⟩
      rw [hr, e3, ho]
      simp
    · have w' := nD F' H'' c
      have S' : Sx Pc F1 H1 F' H'' := S.call c fun a z => .inl z
      refine ⟨o.2, F', acc, ys, r2, S', ex', w', Row.mono c.le row, by omega, e2, ?_⟩
      rw [hr, e3, ho]
  · have e : i = n := by omega
    subst e
    rw [← Ty.len, List.drop_length] at hl
    cases hl
    refine .inl ⟨Fd.stop H (hG _ F H S ex), ?_⟩
    rw [hr] at done
    exact done D acc F H hD S ex w (by simpa using row)
end

/-! ## steps: what is new behind each is told by names -/
section
variable {P : Addr → Prop} {F0 H0 F H : Hp} {Q : VK} {α : Type} {A : R α} {K : PySem.W.Frag}
/-- a new object, of one's own -/
theorem al {o : HO} (S : Sx P F0 H0 F H) (k : ∀ p H', H p = none → Sx P0 F H F H' → Ow P H0 F H' p o → Q (.ref p) H') : nK Q H o :=
  fun p hp => k p _ hp ((Sx.refl0 S.sub).temp hp) (S.own hp)
/-- a new object that stands for good -/
theorem alF {o : HO} (S : Sx P F0 H0 F H) (k : ∀ p F' H', Sx P0 F H F' H' → F' p = some o → Q (.ref p) H') : nK Q H o :=
  fun p hp => k p _ _ ((Sx.refl0 S.sub).alloc hp) upd_same
theorem alT {vs : List V} {xs : List α} (S : Sx P F0 H0 F H) (r : Row A K F vs xs) (k : ∀ v F' H', Sx P0 F H F' H' → (qT A).r K F' v xs → Q v H') : nK Q H (.tup vs) :=
  alF S fun p F' H' c h => k _ F' H' c ⟨p, vs, rfl, .inl (.inl h), Row.mono c.le r⟩
theorem alL {vs : List V} {xs : List α} (S : Sx P F0 H0 F H) (r : Row A K F vs xs) (k : ∀ v F' H', Sx P0 F H F' H' → (qL A).r K F' v xs → Q v H') : nK Q H (.lst vs) :=
  alF S fun p F' H' c h => k _ F' H' c ⟨p, vs, rfl, h, Row.mono c.le r⟩
/-- the same where the row is handed on -/
theorem alL' {xs : List α} (S : Sx P F0 H0 F H) (k : ∀ v F' H', Sx P0 F H F' H' → (qL A).r K F' v xs → Q v H') : nL A K F Q H xs :=
  fun p us hp r => alL S r k p hp
theorem alT' {xs : List α} (S : Sx P F0 H0 F H) (k : ∀ v F' H', Sx P0 F H F' H' → (qT A).r K F' v xs → Q v H') : nT A K F Q H xs :=
  fun p us hp r => alT S r k p hp
theorem alO' {xs : List α} (S : Sx P F0 H0 F H) (k : ∀ p us H', H p = none → Sx P0 F H F H' → Ow P H0 F H' p (.lst us) → Row A K F us xs → Q (.ref p) H') : nL A K F Q H xs :=
  fun p us hp r => k p us _ hp ((Sx.refl0 S.sub).temp hp) (S.own hp) r
variable {p : Addr} {vs : List V} {xs : List α}
theorem Ow.arg' {o : HO} (w : Ow P H0 F H p o) : Ow (fun a => a = p) H F H p o := w.arg
theorem ap (S : Sx P F0 H0 F H) (w : Ow P H0 F H p (.lst vs)) (r : Row A K F vs xs) {y : V} (h : fits xs = true) (k : ∀ H', Sx (fun a => a = p) F H F H' → Ow P H0 F H' p (.lst (vs ++ [y])) → Q .non H') : rAppend (.ref p) [y] H Q :=
  rd_app w r h (k _ ((Sx.refl S.sub fun a z => by rw [z, w.at_]; exact fun h => nomatch h).put w.arg) w.put)
theorem ex' (S : Sx P F0 H0 F H) (w : Ow P H0 F H p (.lst vs)) (r : Row A K F vs xs) {b : V} {ys : List α} (s : SeenL A K F H b ys) (h : fits2 xs ys = true) (k : ∀ us H', Sx (fun a => a = p) F H F H' → Ow P H0 F H' p (.lst (vs ++ us)) → Row A K F (vs ++ us) (xs ++ ys) → Q .non H') : rExtend (.ref p) [b] H Q :=
  rd_extend w r s h fun us r2 => k us _ ((Sx.refl S.sub fun a z => by rw [z, w.at_]; exact fun h => nomatch h).put w.arg) w.put (pApp r r2)
/-- an own list is let stand for good -/
theorem fz (S : Sx P F0 H0 F H) (w : Ow P H0 F H p (.lst vs)) (h0 : H0 p = none) (r : Row A K F vs xs) : ∃ F', Sx P F0 H0 F' H ∧ Same F F' ∧ (qL A).r K F' (.ref p) xs ∧ F' p ≠ none ∧ ∀ q, q ≠ p → F' q = F q :=
  ⟨upd F p (.lst vs), S.freeze w h0, w.leF, ⟨p, vs, rfl, upd_same, Row.mono w.leF r⟩, by (rw [upd_same]; exact (fun h => nomatch h)), fun q hq => upd_ne hq⟩
theorem Ow.fzO {F' : Hp} {o : HO} {q : Addr} (w : Ow P H0 F H q o) (n : q ≠ p) (e : ∀ q, q ≠ p → F' q = F q) : Ow P H0 F' H q o := ⟨by rw [e q n]; exact w.fr, w.at_, w.mine⟩
end
end Gl

namespace Gl
open PySem PySem.Spec PyProof.Rows L2

/-! ## defs by names -/
def fdDefault : FuncData := PySem.W.fnOf "" "" { posonlyargs := [], args := [], vararg := none, kwonlyargs := [], kw_defaults := [], kwarg := none, defaults := [] } [] { kind := .function, names := [], isGenerator := false, isCoroutine := false } .none .none .none .none none .none .none
def fdOf (K : PySem.W.Frag) (p : Str × Option Str) : FuncData := match K.lookup (He.fAd K p) with
  | some ⟨_, _, .func fd, _⟩ => fd
  | _ => fdDefault
abbrev FnD' (K : PySem.W.Frag) (p : Str × Option Str) (x q : Str) (st : Stmt) : Prop := FunD K x q (defArgs st) (defBody st) (defScope st) [] [] (He.fAd K p) (fdOf K p)
theorem fdOf_eq {K : PySem.W.Frag} {p : Str × Option Str} {x q : Str} {ps : Arguments} {body : List Stmt} {sc : Scope} {dvs : List V} {kws : List (Str × V)} {fd : FuncData} (F : FunD K x q ps body sc dvs kws (He.fAd K p) fd) : fd = fdOf K p := by
  obtain ⟨oc, od, dV, kV, doc, pm, an, cdv, ct, osl, e, lk, _⟩ := F.ex
  unfold fdOf
  rw [lk]
theorem fd_of {fa : List He.Fa} {fn : List He.DefD} {K : PySem.W.Frag} (c : He.SaysD fa fn K) (i : Nat) {d : He.DefD} (h : fn[i]? = some d := by rfl) : FunD K d.name d.qual d.params d.body d.scope (d.dvs K) (d.kws K) (He.fAd K d.at_) (fdOf K d.at_) := by
  obtain ⟨fd, F⟩ := c.def_ i h
  have e := fdOf_eq F
  subst e
  exact F
/-! ## a list of two ints that is drawn from -/
section
variable {P : Addr → Prop} {F0 H0 F H : Hp} {Q : VK} {K : PySem.W.Frag} {p : Addr} {a b c : V}
theorem pool0 (w : Ow P H0 F H p (.lst [a, b])) (k : Q a H) : rIxL K (.ref p) (.int 0) H Q := ⟨p, [a, b], 0, a, rfl, rfl, SqL.of w.at_, rfl, k⟩
theorem pool1 (w : Ow P H0 F H p (.lst [a, b])) (k : Q b H) : rIxL K (.ref p) (.int 1) H Q := ⟨p, [a, b], 1, b, rfl, rfl, SqL.of w.at_, rfl, k⟩
theorem putS (S : Sx P F0 H0 F H) {o u : HO} (w : Ow P H0 F H p o) : Sx (fun a => a = p) F H F (upd H p u) := (Sx.refl S.sub fun a z => by rw [z, w.at_]; exact fun h => nomatch h).put w.arg
theorem pset0 {R : Hp → Prop} (S : Sx P F0 H0 F H) (w : Ow P H0 F H p (.lst [a, b])) (k : ∀ H', Sx (fun a => a = p) F H F H' → Ow P H0 F H' p (.lst [c, b]) → R H') : rSetL (.ref p) (.int 0) c H R := ⟨p, [a, b], 0, 0, rfl, rfl, w.at_, rfl, k _ (putS S w) w.put⟩
theorem pset1 {R : Hp → Prop} (S : Sx P F0 H0 F H) (w : Ow P H0 F H p (.lst [a, b])) (k : ∀ H', Sx (fun a => a = p) F H F H' → Ow P H0 F H' p (.lst [a, c]) → R H') : rSetL (.ref p) (.int 1) c H R := ⟨p, [a, b], 1, 1, rfl, rfl, w.at_, rfl, k _ (putS S w) w.put⟩
end
end Gl

namespace Gl
open PySem PySem.Spec PyProof.Rows L2

/-! ## readings, construct by construct -/
section
variable {σ : L2.St} {H : Hp} {Q : VK} {v : V} {i j : Int} {ta tb tc te : TE} {t u : TT} {r : R2} {D : Ends} {tr : TA} {K : PySem.W.Frag} {b : Bool}
theorem rd_v {i : Nat} (h : σ[i]? = some (some v)) (k : Q v H) : tVar i σ H Q := ⟨v, h, k⟩
theorem rd_c (k : Q v H) : tC v σ H Q := k
theorem rd_op (k : ta σ H fun x H1 => tb σ H1 fun y H2 => r x y H2 Q) : tOp r ta tb σ H Q := k
theorem rd_un {r : V → Hp → VK → Prop} (k : ta σ H fun x H1 => r x H1 Q) : tUn r ta σ H Q := k
theorem rd_I0 {g : Int → Int → V} (k : Q (g i j) H) : rI0 g (.int i) (.int j) H Q := ⟨i, j, rfl, rfl, k⟩
theorem rd_I {C : Int → Int → Prop} {g : Int → Int → V} (c : C i j) (k : Q (g i j) H) : rI C g (.int i) (.int j) H Q := ⟨i, j, rfl, rfl, c, k⟩
theorem rd_U {g : Int → V} (k : Q (g i) H) : rU g (.int i) H Q := ⟨i, rfl, k⟩
theorem rd_S0 {g : Str → Str → V} {x y : Str} (k : Q (g x y) H) : rS0 g (.str x) (.str y) H Q := ⟨x, y, rfl, rfl, k⟩
theorem rd_B0 {g : Bool → Bool → V} {x y : Bool} (k : Q (g x y) H) : rB0 g (.bl x) (.bl y) H Q := ⟨x, y, rfl, rfl, k⟩
def rCatS : R2 := fun x y H Q => ∃ i j, x = .str i ∧ y = .str j ∧ i.length + j.length ≤ sizeLine ∧ Q (.str (i ++ j)) H
theorem op_catS {X : Cx} : OpR X (binaryOp .Add) rCatS := op_add_str
theorem rd_catS {x y : Str} (h : catOk x y = true) (k : Q (.str (x ++ y)) H) : rCatS (.str x) (.str y) H Q := ⟨x, y, rfl, rfl, catOk_of h, k⟩
def rInS : R2 := fun x y H Q => ∃ i j, x = .str i ∧ y = .str j ∧ Q (.bl (inS i j)) H
def rNiS : R2 := fun x y H Q => ∃ i j, x = .str i ∧ y = .str j ∧ Q (.bl (!inS i j)) H
theorem op_inS {X : Cx} : OpR X (compareOp .In) rInS := op_in_str
theorem op_niS {X : Cx} : OpR X (compareOp .NotIn) rNiS := op_notin_str
theorem rd_inSS {x y : Str} (k : Q (.bl (inS x y)) H) : rInS (.str x) (.str y) H Q := ⟨x, y, rfl, rfl, k⟩
theorem rd_niSS {x y : Str} (k : Q (.bl (!inS x y)) H) : rNiS (.str x) (.str y) H Q := ⟨x, y, rfl, rfl, k⟩
theorem rd_ixS {x z : Str} (h : ixS x i = some z) (k : Q (.str z) H) : rIxS (.str x) (.int i) H Q := by
  obtain ⟨c, h1, h2, rfl⟩ := ixS_some h
  exact ⟨x, i, c, rfl, rfl, h1, h2, k⟩
theorem rd_slS {z : Str} {lo hi : Option Int} (h : fitsS z = true) (k : Q (.str (cutS z lo hi)) H) : rSlS (.str z) lo hi H Q := ⟨z, rfl, fitsS_of h, k⟩
/-! tests -/
variable {QB : Bool → Hp → Prop}
/-- what is wanted of a truth -/
def bK (QB : Bool → Hp → Prop) : VK := fun x H => ∃ k, x = .bl k ∧ QB k H
theorem rd_test (k : te σ H (bK QB)) : tTest te σ H QB := k
theorem rd_tB (k : te σ H (bK QB)) : tB te σ H QB := k
theorem rd_b (k : QB b H) : bK QB (.bl b) H := ⟨b, rfl, k⟩
theorem rd_and (k : t σ H fun c H1 => if c = true then u σ H1 QB else QB false H1) : tAnd t u σ H QB := k
theorem rd_or (k : t σ H fun c H1 => if c = true then QB true H1 else u σ H1 QB) : tOr t u σ H QB := k
theorem rd_not (k : t σ H fun c H1 => QB (!c) H1) : tNot t σ H QB := k
theorem rd_andV (k : ta σ H (bK fun c H1 => if c = true then tb σ H1 Q else Q (.bl false) H1)) : tAndV ta tb σ H Q := k
theorem rd_orV (k : ta σ H (bK fun c H1 => if c = true then Q (.bl true) H1 else tb σ H1 Q)) : tOrV ta tb σ H Q := k
theorem rd_notV (k : ta σ H (bK fun c H1 => Q (.bl (!c)) H1)) : tNotV ta σ H Q := k
theorem rd_ifE (k : t σ H fun c H1 => if c = true then ta σ H1 Q else tb σ H1 Q) : tIf t ta tb σ H Q := k
theorem rd_yes (k : QB true H) : tYes σ H QB := k
/-! arguments, calls -/
variable {QA : List V → Hp → Prop}
theorem rd_nil (k : QA [] H) : tNil σ H QA := k
theorem rd_cons (k : te σ H fun x H1 => tr σ H1 fun xs H2 => QA (x :: xs) H2) : tCons te tr σ H QA := k
theorem rd_call {sp : Sp} {dvs : List V} {E : XK} (k : tr σ H fun vs H1 => sp (vs ++ dvs) H1 Q E) : tCall sp dvs E tr σ H Q := k
theorem rd_cb {r : List V → Hp → VK → Prop} (k : tr σ H fun xs H1 => r xs H1 Q) : tCB r tr σ H Q := k
def lK (Q : VK) : List V → Hp → Prop := fun xs H1 => xs.length ≤ sizeLine ∧ ∀ p, H1 p = none → Q (.ref p) (upd H1 p (.lst xs))
def uK (Q : VK) : List V → Hp → Prop := fun xs H1 => xs.length ≤ sizeLine ∧ ∀ p, H1 p = none → Q (.ref p) (upd H1 p (.tup xs))
theorem rd_lst (k : tr σ H (lK Q)) : tLst tr σ H Q := k
theorem rd_lK {xs : List V} (h : Nat.ble xs.length 1000 = true) (k : nK Q H (.lst xs)) : lK Q xs H := ⟨Nat.le_trans (Nat.le_of_ble_eq_true h) (by decide), k⟩
theorem rd_uK {xs : List V} (h : Nat.ble xs.length 1000 = true) (k : nK Q H (.tup xs)) : uK Q xs H := ⟨Nat.le_trans (Nat.le_of_ble_eq_true h) (by decide), k⟩
theorem rd_tup (k : tr σ H (uK Q)) : tTup tr σ H Q := k
theorem rd_bm {T : String} {r : V → List V → Hp → VK → Prop} (k : te σ H fun x H1 => tyV K T x H1 ∧ tr σ H1 fun xs H2 => r x xs H2 Q) : tBM K T r te tr σ H Q := k
theorem rd_bm0 {T : String} {r : V → List V → Hp → VK → Prop} (k : te σ H fun x H1 => tyV K T x H1 ∧ r x [] H1 Q) : tBM0 K T r te σ H Q := k
theorem rd_ty {A B : Prop} (h : A) (k : B) : A ∧ B := ⟨h, k⟩
theorem rd_thn {k' : V → Hp → VK → Prop} (k : te σ H fun x H1 => k' x H1 Q) : tThen te k' σ H Q := k
/-! slices -/
variable {QO : Option Int → Hp → Prop}
theorem rd_sl {r : V → Option Int → Option Int → Hp → VK → Prop} {tl th : TO} (k : te σ H fun x H1 => tl σ H1 fun l H2 => th σ H2 fun u H3 => r x l u H3 Q) : tSl r te tl th σ H Q := k
theorem rd_np (k : QO none H) : tNoPart σ H QO := k
def iK (QO : Option Int → Hp → Prop) : VK := fun x H => ∃ i, x = .int i ∧ QO (some i) H
theorem rd_pt (k : te σ H (iK QO)) : tPart te σ H QO := k
theorem rd_i (k : QO (some i) H) : iK QO (.int i) H := ⟨i, rfl, k⟩
/-! built-ins -/
def rInt1 : List V → Hp → VK → Prop := fun xs H Q => (∃ i, xs = [.int i] ∧ Q (.int i) H) ∨ ∃ k, xs = [.bl k] ∧ Q (.int (if k then 1 else 0)) H
theorem cr_int {X : Cx} : CallR X (.type "int") rInt1 := call_int1
theorem rd_intI (k : Q (.int i) H) : rInt1 [.int i] H Q := .inl ⟨i, rfl, k⟩
theorem rd_intB (k : Q (.int (b2I b)) H) : rInt1 [.bl b] H Q := .inr ⟨b, rfl, k⟩
def rMax2 : List V → Hp → VK → Prop := fun xs H Q => ∃ i j, xs = [.int i, .int j] ∧ Q (.int (if j > i then j else i)) H
theorem cr_max2 {X : Cx} (hc : X.calm = true) : CallR X (.builtin "max") rMax2 := call_max2 hc
theorem rd_max2 (k : Q (.int (maxI i j)) H) : rMax2 [.int i, .int j] H Q := ⟨i, j, rfl, k⟩
def rMin2 : List V → Hp → VK → Prop := fun xs H Q => ∃ i j, xs = [.int i, .int j] ∧ Q (.int (if j < i then j else i)) H
theorem cr_min2 {X : Cx} (hc : X.calm = true) : CallR X (.builtin "min") rMin2 := call_min2 hc
theorem rd_min2 (k : Q (.int (minI i j)) H) : rMin2 [.int i, .int j] H Q := ⟨i, j, rfl, k⟩
def rLenS : List V → Hp → VK → Prop := fun xs H Q => ∃ z, xs = [.str z] ∧ z.length ≤ sizeLine ∧ Q (.int z.length) H
theorem cr_lenS {X : Cx} : CallR X (.builtin "len") rLenS := call_len_str
theorem rd_lenS {z : Str} (h : fitsS z = true) (k : Q (.int (z.length : Int)) H) : rLenS [.str z] H Q := ⟨z, rfl, fitsS_of h, k⟩
def rLenQ (K : PySem.W.Frag) : List V → Hp → VK → Prop := fun xs H Q => ∃ p ys, xs = [.ref p] ∧ (SqL K H p ys ∨ SqT K H p ys) ∧ Q (.int ys.length) H
theorem cr_lenQ {X : Cx} : CallR X (.builtin "len") (rLenQ X.K) := call_len_seq
theorem rd_lenQ {α : Type} {A : R α} {F : Hp} {xs : List α} (s : SeenQ A K F H v xs) (k : Q (.int (xs.length : Int)) H) : rLenQ K [v] H Q := rd_len s k
def rListQ (K : PySem.W.Frag) : List V → Hp → VK → Prop := fun xs H Q => ∃ p ys, xs = [.ref p] ∧ (SqL K H p ys ∨ SqT K H p ys) ∧ ∀ l, H l = none → Q (.ref l) (upd H l (.lst ys))
theorem cr_listQ {X : Cx} : CallR X (.type "list") (rListQ X.K) := call_list_of
theorem rd_listQ {α : Type} {A : R α} {F : Hp} {xs : List α} (s : SeenQ A K F H v xs) (k : nL A K F Q H xs) : rListQ K [v] H Q := rd_list s k
/-! targets, statements -/
variable {QS : L2.St → Hp → Prop} {g : TG} {ts us : TS} {N B C : L2.St → Hp → Prop} {R : VK}
theorem rd_gn {i : Nat} (k : QS (σ.set i (some v)) H) : gName i v σ H QS := k
theorem rd_gsub {st : TSet} (k : ta σ H fun o H1 => tb σ H1 fun i H2 => st o i v H2 fun H3 => QS σ H3) : gSub ta tb st v σ H QS := k
theorem rd_seq (k : ts ⟨us ⟨N, R, B, C⟩, R, B, C⟩ σ H) : tSeq ts us ⟨N, R, B, C⟩ σ H := k
theorem rd_asg (k : te σ H fun x H1 => g x σ H1 N) : tAsg te g ⟨N, R, B, C⟩ σ H := k
theorem rd_ifS (k : t σ H fun b H1 => if b = true then ts D σ H1 else us D σ H1) : tIfS t ts us D σ H := k
theorem rd_ret (k : te σ H R) : tRet te ⟨N, R, B, C⟩ σ H := k
theorem rd_drop (k : te σ H fun _ H1 => N σ H1) : tDrop te ⟨N, R, B, C⟩ σ H := k
theorem rd_next (k : N σ H) : tNext ⟨N, R, B, C⟩ σ H := k
theorem rd_cut (Mid : L2.St → Hp → Prop) (h : ts ⟨Mid, R, B, C⟩ σ H) (k : ∀ σ' H', Mid σ' H' → us ⟨N, R, B, C⟩ σ' H') : C8.tCut ts us ⟨N, R, B, C⟩ σ H := ⟨Mid, h, k⟩
theorem rd_aug {i : Nat} {ti : TIp} {x : V} (h : σ[i]? = some (some x)) (k : te σ H fun y H1 => ti x y H1 fun z H2 => N (σ.set i (some z)) H2) : tAug i te ti ⟨N, R, B, C⟩ σ H := ⟨x, h, k⟩
theorem rd_ipI {f : Int → Int → Int} (k : Q (.int (f i j)) H) : ipI f (.int i) (.int j) H Q := ⟨i, j, rfl, rfl, k⟩
theorem rd_for {wi : TI} (k : wi σ H fun J H1 => ForG J g ts D σ H1) : tFor wi g ts D σ H := k
theorem rd_lc {wi : TI} {vs : List Nat} (k : wi σ H fun J H1 => ∀ D, H1 D = none → LcG J g t te vs σ D Q H1) : tLc wi g t te vs σ H Q := k
variable {RI : It → Hp → Prop}
/-- what is wanted of a walked list, tuple, text, range -/
def wL (K : PySem.W.Frag) (RI : It → Hp → Prop) : VK := fun x H1 => ∃ a, x = .ref a ∧ (∃ xs, SqL K H1 a xs) ∧ RI (Itl K a) H1
def wT (K : PySem.W.Frag) (RI : It → Hp → Prop) : VK := fun x H1 => ∃ a, x = .ref a ∧ (∃ xs, SqT K H1 a xs) ∧ RI (Itt K a) H1
def wS (RI : It → Hp → Prop) : VK := fun v H1 => ∃ x, v = .str x ∧ RI (Its x) H1
def wR1 (RI : It → Hp → Prop) : List V → Hp → Prop := fun vs H1 => ∃ j : Int, vs = [.int j] ∧ -(2 ^ 62) ≤ j ∧ j < 2 ^ 62 ∧ RI (Itr 0 j.toNat) H1
def wR2 (RI : It → Hp → Prop) : List V → Hp → Prop := fun vs H1 => ∃ i j : Int, vs = [.int i, .int j] ∧ (-(2 ^ 62) ≤ i ∧ i < 2 ^ 62 ∧ -(2 ^ 62) ≤ j ∧ j < 2 ^ 62) ∧ RI (Itr i (j - i).toNat) H1
theorem rd_iL (k : te σ H (wL K RI)) : iList K te σ H RI := k
theorem rd_iT (k : te σ H (wT K RI)) : iTup K te σ H RI := k
/-- over a list or a tuple -/
def iSeq (K : PySem.W.Frag) (te : TE) : TI := fun σ H R => iList K te σ H R ∨ iTup K te σ H R
theorem pi_seq {X : Cx} {tg l : Expr} (hl : PE X l te) : PI X tg l (iSeq X.K te) := ⟨fun pins s σ H R I h => h.elim (fun h => (pi_list hl).run pins s σ H R I h) fun h => (pi_tup hl).run pins s σ H R I h⟩
theorem rd_iS (k : te σ H (wS RI)) : iStr te σ H RI := k
theorem rd_iR1 (k : tr σ H (wR1 RI)) : iRng1 tr σ H RI := k
theorem rd_iR2 (k : tr σ H (wR2 RI)) : iRng2 tr σ H RI := k
theorem rd_wS {z : Str} (k : RI (Its z) H) : wS RI (.str z) H := ⟨z, rfl, k⟩
def rgOk (a b : Int) : Bool := (decide (-(2 ^ 62) ≤ a) && decide (a < 2 ^ 62)) && (decide (-(2 ^ 62) ≤ b) && decide (b < 2 ^ 62))
theorem rd_r1 {n : Int} (h : rgOk 0 n = true) (k : RI (Itr 0 (n - 0).toNat) H) : wR1 RI [.int n] H := by
  unfold rgOk at h
  simp only [Bool.and_eq_true, decide_eq_true_eq] at h
  exact ⟨n, rfl, h.2.1, h.2.2, by rw [Int.sub_zero] at k; exact k⟩
theorem rd_r2 {a b : Int} (h : rgOk a b = true) (k : RI (Itr a (b - a).toNat) H) : wR2 RI [.int a, .int b] H := by
  unfold rgOk at h
  simp only [Bool.and_eq_true, decide_eq_true_eq] at h
  exact ⟨a, b, rfl, ⟨h.1.1, h.1.2, h.2.1, h.2.2⟩, k⟩
end
end Gl

namespace Gl
open PySem PySem.Spec PyProof.Rows L2

theorem if_t {α : Type} {b : Bool} {x y r : α} (h : (if b = true then x else y) = r) (hb : b = true) : x = r := by
  rw [hb] at h; exact h
theorem if_f {α : Type} {b : Bool} {x y r : α} (h : (if b = true then x else y) = r) (hb : b = false) : y = r := by
  rw [hb] at h; exact h
theorem if_tt {A B : Prop} (h : A) : if true = true then A else B := h
theorem aft_nx {S ρ : Type} {s : S} {k : S → Option ρ} {r : Option ρ} (h : aft (.nx s) k = r) : k s = r := h
theorem aft_rt {S ρ : Type} {v : ρ} {k : S → Option ρ} {r : Option ρ} (h : aft (.rt v) k = r) : some v = r := h
theorem aftC_nx {S S' ρ : Type} {s : S} {k : S → Option (Ctl S' ρ)} {r : Option (Ctl S' ρ)} (h : aftC (.nx s) k = r) : k s = r := h
theorem aftC_rt {S S' ρ : Type} {v : ρ} {k : S → Option (Ctl S' ρ)} {r : Option (Ctl S' ρ)} (h : aftC (.rt v) k = r) : some (.rt v) = r := h
/-- behind a loop that may break off but does not return -/
def aftN {S ρ : Type} (c : Ctl S Unit) (k : S → Option ρ) : Option ρ := match c with
  | .nx s => k s
  | .bk s => k s
  | .rt _ => none
theorem aftN_nx {S ρ : Type} {s : S} {k : S → Option ρ} {r : Option ρ} (h : aftN (.nx s) k = r) : k s = r := h

/-! ## text times int, list(text) -/
section
variable {X : Cx}
def repS (x : Str) (n : Int) : Str := Txt.mul x n
def repOk (x : Str) (n : Int) : Bool := (decide (-(2 ^ 62) ≤ n) && decide (n < 2 ^ 62)) && decide (x.length * n.toNat ≤ 100000) && decide (x.length ≤ 100000)
theorem repOk_of {x : Str} {n : Int} (h : repOk x n = true) : MulOk x n := by
  unfold repOk at h
  simp only [Bool.and_eq_true, decide_eq_true_eq] at h
  obtain ⟨⟨⟨h1, h2⟩, h3⟩, h4⟩ := h
  refine ⟨?_, fun a _ => ?_, fun a _ => ?_⟩
  · have e1 : decide (n < -(2 ^ 63 : Int)) = false := decide_eq_false (by omega)
    have e2 : decide (n ≥ (2 ^ 63 : Int)) = false := decide_eq_false (by omega)
    rw [e1, e2]; rfl
  · have hn : 0 < n := by omega
    intro c
    have e3 : (x.length : Int) * n ≤ 100000 := by
      have e4 : ((x.length * n.toNat : Nat) : Int) ≤ ((100000 : Nat) : Int) := Int.ofNat_le.mpr h3
      have e5 : (n.toNat : Int) = n := Int.toNat_of_nonneg (by omega)
      rw [Int.natCast_mul, e5] at e4
      have e7 : ((100000 : Nat) : Int) = 100000 := rfl
      rw [e7] at e4
      exact e4
    have e6 : (x.length : Int) ≤ (2 ^ 63 - 1) / n := by
      rw [Int.le_ediv_iff_mul_le hn]
      omega
    omega
  · have e1 : sizeLine = 16777216 := sizeLine_eq
    unfold Builtin.Str.tooLong
    exact decide_eq_false (by omega)
def rRepS : R2 := fun x y H Q => ∃ z n, x = .str z ∧ y = .int n ∧ repOk z n = true ∧ Q (.str (repS z n)) H
theorem op_repS : OpR X (binaryOp .Mult) rRepS := by
  intro pins s σ H x y v u Q I rx ry h
  obtain ⟨z, n, rfl, rfl, ok, q⟩ := h
  obtain ⟨t, rfl⟩ := rx
  obtain ⟨t', rfl⟩ := ry
  exact SB.mul (repOk_of ok) fun t2 k => ⟨.str _, H, I.tok _, ⟨_, rfl⟩, q⟩
theorem rd_repS {H : Hp} {Q : VK} {z : Str} {n : Int} (h : repOk z n = true) (k : Q (.str (repS z n)) H) : rRepS (.str z) (.int n) H Q := ⟨z, n, rfl, rfl, h, k⟩
def rListS : List V → Hp → VK → Prop := fun xs H Q => ∃ z : Str, xs = [.str z] ∧ z.cps.size ≤ sizeLine ∧ ∀ l, H l = none → Q (.ref l) (upd H l (.lst ((sgns z).map V.str)))
theorem vals_signs {z : Str} {acc : Array Value} (h : ItemsOf (SignAt z) acc z.cps.size) : Vals ((sgns z).map V.str) acc.toList := by
  have hs : acc.toList.length = z.cps.size := by rw [Array.length_toList]; exact h.1
  have key : ∀ (l : List Value) (cs : List Nat), l.length = cs.length → (∀ (j : Nat) (u : Value), l[j]? = some u → ∃ (c : Nat) (t : Tok), cs[j]? = some c ∧ u = Value.str ⟨#[c]⟩ t) → Vals ((cs.map fun c => (⟨#[c]⟩ : Str)).map V.str) l := by
    intro l
    induction l with
    | nil => intro cs hl _; cases cs with
      | nil => exact .nil
      | cons c r => cases hl
    | cons u l ih =>
      intro cs hl hj
      cases cs with
      | nil => cases hl
      | cons c r =>
        obtain ⟨c', t, e1, e2⟩ := hj 0 u rfl
        cases e1
        exact .cons ⟨t, e2⟩ (ih r (Nat.succ.inj hl) fun j w e => hj (j + 1) w e)
  refine key acc.toList z.cps.toList (by rw [hs]; rfl) fun j u e => ?_
  have e' : acc[j]? = some u := by rw [← Array.getElem?_toList]; exact e
  obtain ⟨c, t, e1, e2⟩ := h.2 j u e'
  exact ⟨c, t, by rw [Array.getElem?_toList]; exact e1, e2⟩
theorem cr_listS (hc : X.calm = true) : CallR X (.type "list") rListS := by
  intro pins s σ H xs us Q I r h
  obtain ⟨z, rfl, hz, q⟩ := h
  obtain ⟨u, rfl, t, rfl⟩ := vals1 r
  refine PySem.call_list_str (I.ok.hd hc) z t (fun h' tk acc' c' hk hS hacc => ?_) hz
  have hsz : ((sgns z).map V.str).length ≤ sizeLine := by unfold sgns; simpa using hz
  have I1 := I.laid (a := s.heap.objs.size) (o := .lst ((sgns z).map V.str)) (t' := tk) (h' := h') hk (Nat.le_refl _) (show ObjOk X.prog X.w _ _ _ (.lst _) from ⟨hsz, acc'.toList, c', vals_signs hacc, by simpa using hS⟩)
  exact ⟨.ref s.heap.objs.size, _, I1, rfl, q _ (I.hok.fresh (Nat.le_refl _))⟩
theorem row_strs {K : PySem.W.Frag} {F : Hp} : ∀ xs : List Str, Row qS K F (xs.map V.str) xs
  | [] => .nil
  | _ :: xs => .cons rfl (row_strs xs)
theorem rd_listS {K : PySem.W.Frag} {F H : Hp} {Q : VK} {z : Str} (h : fitsS z = true) (k : nL qS K F Q H (sgns z)) : rListS [.str z] H Q :=
  ⟨z, rfl, fitsS_of h, fun l hl => k l _ hl (row_strs _)⟩
end
/-! ## walked rows -/
section
variable {K : PySem.W.Frag} {P : Addr → Prop} {F0 H0 F H : Hp} {v : V} {α : Type} {A : R α} {xs : List α} {RI : It → Hp → Prop} {σ : L2.St} {te : TE}
theorem rd_wLF (S : Sx P F0 H0 F H) (r : (qL A).r K F v xs) (k : ∀ p vs, SqL K F p vs → Row A K F vs xs → RI (Itl K p) H) : wL K RI v H := by
  obtain ⟨p, vs, rfl, h1, h2⟩ := r
  exact ⟨p, rfl, ⟨vs, Same.seq S.sub (SqL.of h1)⟩, k p vs (SqL.of h1) h2⟩
theorem rd_wLC {xs : List Int} (S : Sx P F0 H0 F H) (r : qC.r K F v xs) (k : ∀ p vs, SqL K F p vs → Row qI K F vs xs → RI (Itl K p) H) : wL K RI v H := by
  obtain ⟨p, rfl, h1⟩ := r
  exact ⟨p, rfl, ⟨_, Same.seq S.sub h1⟩, k p _ h1 (row_ints xs)⟩
theorem rd_wTF (S : Sx P F0 H0 F H) (r : (qT A).r K F v xs) (k : ∀ p vs, SqT K F p vs → Row A K F vs xs → RI (Itt K p) H) : wT K RI v H := by
  obtain ⟨p, vs, rfl, h1, h2⟩ := r
  exact ⟨p, rfl, ⟨vs, same_t S.sub h1⟩, k p vs h1 h2⟩
/-- over a list or a tuple: whichever it is -/
theorem rd_wSeq (S : Sx P F0 H0 F H) (r : (qQ A).r K F v xs) (hv : ∀ Q : VK, Q v H → te σ H Q)
    (k : ∀ (J : It) (n : Nat) (G : Hp → Prop) (it : Nat → V → Prop), Feeds J n G it → Typed A K F n it xs → (∀ F' H', Same F F' → Same F' H' → G H') → RI J H) : iSeq K te σ H RI := by
  rcases r with ⟨p, vs, rfl, h1, h2⟩ | ⟨p, vs, rfl, h1, h2⟩
  · refine .inl (hv _ ⟨p, rfl, ⟨vs, Same.seq S.sub (SqL.of h1)⟩, k _ _ _ _ feedsL (typedRow h2) fun F' H' e1 e2 => Same.seq e2 (Same.seq e1 (SqL.of h1))⟩)
  · refine .inr (hv _ ⟨p, rfl, ⟨vs, same_t S.sub h1⟩, k _ _ _ _ feedsT (typedRow h2) fun F' H' e1 e2 => same_t e2 (same_t e1 h1)⟩)
end
/-! ## targets of two names; a block's slots -/
section
variable {K : PySem.W.Frag} {σ : L2.St} {H : Hp} {p : Addr} {u w : V} {QS : L2.St → Hp → Prop} {t g : TG} {ts : TGs} {n : Nat} {vs : List V}
theorem rd_gt2 (h : SqT K H p [u, w]) (k : ts [u, w] σ H QS) : gTup K 2 ts (.ref p) σ H QS := ⟨p, _, rfl, h, rfl, k⟩
theorem rd_gt3 {z : V} (h : SqT K H p [u, w, z]) (k : ts [u, w, z] σ H QS) : gTup K 3 ts (.ref p) σ H QS := ⟨p, _, rfl, h, rfl, k⟩
theorem rd_gc {v : V} (k : g v σ H fun σ' H' => ts vs σ' H' QS) : gCons g ts (v :: vs) σ H QS := ⟨v, vs, rfl, k⟩
theorem rd_gl (k : QS σ H) : gNil [] σ H QS := ⟨rfl, k⟩
theorem rd_wp {A B : Prop} (h : A) (k : B) : A ∧ B := ⟨h, k⟩
theorem rd_cont {N B C : L2.St → Hp → Prop} {R : VK} (k : C σ H) : tCont ⟨N, R, B, C⟩ σ H := k
theorem rd_brk {N B C : L2.St → Hp → Prop} {R : VK} (k : B σ H) : tBreak ⟨N, R, B, C⟩ σ H := k
end
/-! ## isinstance of a value whose kind is known -/
section
variable {K : PySem.W.Frag} {P : Addr → Prop} {F0 H0 F H : Hp} {v : V} {α β : Type} {A : R α} {B : R β} {xs : List α} {Q : VK}
theorem tx_int {i : Int} : TyX K H (.int i) (.type "int") := .base (.int i)
theorem tx_bl {i : Bool} : TyX K H (.bl i) (.type "bool") := .base (.bl i)
theorem tx_str {i : Str} : TyX K H (.str i) (.type "str") := .base (.str i)
theorem tx_non : TyX K H .non (.type "NoneType") := .base .non
theorem tx_list (s : SeenR A K F H v xs) : TyX K H v (.type "list") := by
  obtain ⟨p, vs, rfl, (h | ⟨o, h⟩) | ⟨o, its, n, h1, h2, _⟩, _⟩ := s
  · exact .base (.lst h)
  · exact .base (.frz h)
  · exact .kList h1 h2
theorem tx_sqt {p : Addr} {vs : List V} (h : SqT K H p vs) : TyX K H (.ref p) (.type "tuple") := by
  rcases h with (h | ⟨o, h⟩) | ⟨o, its, n, h1, h2, _⟩
  · exact .base (.tup h)
  · exact .fTuple h
  · exact .kTuple h1 h2
theorem tx_tup (s : SeenT A K F H v xs) : TyX K H v (.type "tuple") := by
  obtain ⟨p, vs, rfl, h, _⟩ := s
  exact tx_sqt h
theorem tx_pair {x : α × β} (S : Sx P F0 H0 F H) (r : (q2 A B).r K F v x) : TyX K H v (.type "tuple") := by
  obtain ⟨p, u, w, rfl, h, _⟩ := r
  exact tx_sqt (same_t S.sub h)
theorem rd_isi {t : Value} {n : String} {b : Bool} (s : TyX K H v t) (h : PySem.W.kitOne [] t (.type n) = some b) (k : Q (.bl b) H) (hk : PySem.W.kitOne K t (.type n) = PySem.W.kitOne [] t (.type n) := by rfl) : rIsi K [v, .ty n] H Q :=
  ⟨v, .ty n, t, .type n, b, rfl, .ty n, s, hk.trans h, k⟩
end
/-! ## list(range(..)) -/
section
variable {σ : L2.St} {H : Hp} {Q : VK} {ta tb : TE} {tr : L2.St → Hp → (Int → Int → Hp → Prop) → Prop} {K : PySem.W.Frag} {F : Hp} {QI : Int → Int → Hp → Prop}
def rgFit (a b : Int) : Bool := (decide (-(2 ^ 62) ≤ a) && decide (a < 2 ^ 62)) && (decide (-(2 ^ 62) ≤ b) && (decide (b < 2 ^ 62) && decide ((b - a).toNat ≤ 100000)))
def gK (Q : VK) : Int → Int → Hp → Prop := fun a b H1 => RgOk a b ∧ ∀ q, H1 q = none → Q (.ref q) (upd H1 q (.lst (rgV a b)))
theorem rd_lrg (k : tr σ H (gK Q)) : tLstRg tr σ H Q := k
def g1K (Q : Int → Int → Hp → Prop) : VK := fun x H1 => ∃ n, x = .int n ∧ Q 0 n H1
theorem rd_g1 (k : ta σ H (g1K QI)) : tRg1 ta σ H QI := k
theorem rd_g1i {n : Int} (k : QI 0 n H) : g1K QI (.int n) H := ⟨n, rfl, k⟩
def g2K (Q : Int → Int → Hp → Prop) : V → V → Hp → Prop := fun x y H2 => ∃ i j, x = .int i ∧ y = .int j ∧ Q i j H2
theorem rd_g2 (k : ta σ H fun x H1 => tb σ H1 fun y H2 => g2K QI x y H2) : tRg2 ta tb σ H QI := k
theorem rd_g2i {i j : Int} (k : QI i j H) : g2K QI (.int i) (.int j) H := ⟨i, j, rfl, rfl, k⟩
theorem row_rg {a b : Int} : Row qI K F (rgV a b) (rng a b) := by
  unfold rgV rng
  have : ∀ l : List Nat, Row qI K F (l.map fun i : Nat => V.int (a + (i : Nat))) (l.map fun i : Nat => a + (i : Nat)) := fun l => by
    induction l with
    | nil => exact .nil
    | cons x l ih => exact .cons rfl ih
  exact this _
theorem rd_lrgE {a b : Int} (h : rgFit a b = true) (k : nL qI K F Q H (rng a b)) : gK Q a b H := by
  unfold rgFit at h
  simp only [Bool.and_eq_true, decide_eq_true_eq] at h
  obtain ⟨⟨h1, h2⟩, h3, h4, h5⟩ := h
  exact ⟨⟨h1, h2, h3, h4, by omega⟩, fun q hq => k q _ hq row_rg⟩
end
/-! ## a def's promise, its end -/
theorem live1 {P : Addr → Prop} {H0 F H : Hp} {p : Addr} {o : HO} (w : Ow P H0 F H p o) : ∀ a, a = p → H a ≠ none := fun a z => by rw [z, w.at_]; exact fun h => nomatch h
end Gl
namespace Gl
open PySem PySem.Spec PyProof.Rows L2
theorem ifE_j {b : Bool} {u1 u2 : VK → Prop} {Q : VK} (J : V → Hp → Prop) (h1 : b = true → ∀ Q' : VK, (∀ c H', J c H' → Q' c H') → u1 Q') (h2 : b = false → ∀ Q' : VK, (∀ c H', J c H' → Q' c H') → u2 Q') (k : ∀ c H', J c H' → Q c H') : if b = true then u1 Q else u2 Q := by
  cases b with
  | true => exact h1 rfl Q k
  | false => exact h2 rfl Q k
end Gl
namespace Gl
open PySem PySem.Spec PyProof.Rows L2
/-! ## what is never reached -/
theorem if_ff {A B : Prop} (h : B) : if false = true then A else B := h
section
variable {X : Cx}
theorem ps_dead {st : Stmt} : PS X st (fun _ _ _ => False) := ⟨fun _ _ _ _ _ _ h => h.elim⟩
theorem pss_dead {ss : List Stmt} : PSs X ss (fun _ _ _ => False) := ⟨fun _ _ _ _ _ _ h => h.elim⟩
theorem pe_dead {e : Expr} : PE X e (fun _ _ _ => False) := ⟨fun _ _ _ _ _ _ h => h.elim⟩
theorem pt_dead {e : Expr} : PT X e (fun _ _ _ => False) := ⟨fun _ _ _ _ _ _ h => h.elim⟩
theorem pw_dead {e : Expr} : PW X e (fun _ _ _ => False) := ⟨fun _ _ _ _ _ _ _ h => h.elim⟩
end
end Gl

namespace Gl
open PySem PySem.Spec PyProof.Rows L2

/-! ## a thing of any plain kind -/
inductive Th where
  | d (x : PyData) | dct
def qTh : R Th := ⟨fun K F v a => match a with
  | .d x => Dp K F v x
  | .dct => ∃ p, v = .ref p ∧ F p = some (.dK []), fun {K F F' v a} e h => by
    cases a with
    | d x => exact Dp.mono e h
    | dct =>
      obtain ⟨p, h1, h2⟩ := h
      exact ⟨p, h1, e _ _ h2⟩⟩
def thK : Th → String
  | .d .none => "NoneType"
  | .d (.bool _) => "bool"
  | .d (.int _) => "int"
  | .d (.str _) => "str"
  | .d (.list _) => "list"
  | .d (.tuple _) => "tuple"
  | .d (.dict _) => "dict"
  | .dct => "dict"
def isK (k n : String) : Bool := k == n || (k == "bool" && n == "int")
def thIs (n : String) (a : Th) : Bool := isK (thK a) n
def thS : Th → Option Str
  | .d (.str s) => some s
  | _ => none
def thI : Th → Option Int
  | .d (.int s) => some s
  | _ => none
section
variable {K : PySem.W.Frag} {P : Addr → Prop} {F0 H0 F H : Hp} {v : V} {a : Th} {Q : VK}
theorem thS_fact {s : Str} (r : qTh.r K F v a) (h : thS a = some s) : v = .str s := by
  cases a with
  | dct => cases h
  | d x =>
    cases x with
    | str z =>
      cases (show some z = some s from h)
      cases (show Dp K F v (.str _) from r)
      rfl
    | _ => cases h
theorem thI_fact {s : Int} (r : qTh.r K F v a) (h : thI a = some s) : v = .int s := by
  cases a with
  | dct => cases h
  | d x =>
    cases x with
    | int z =>
      cases (show some z = some s from h)
      cases (show Dp K F v (.int _) from r)
      rfl
    | _ => cases h
theorem tx_sql {p : Addr} {vs : List V} (h : SqL K H p vs) : TyX K H (.ref p) (.type "list") := by
  rcases h with (h | ⟨o, h⟩) | ⟨o, its, n, h1, h2, _⟩
  · exact .base (.lst h)
  · exact .base (.frz h)
  · exact .kList h1 h2
theorem tx_th (S : Sx P F0 H0 F H) (r : qTh.r K F v a) : TyX K H v (.type (thK a)) := by
  cases a with
  | dct =>
    obtain ⟨p, rfl, h⟩ := r
    exact .base (.dK (S.sub _ _ h))
  | d x =>
    cases x with
    | none => cases (show Dp K F v .none from r); exact tx_non
    | bool b => cases (show Dp K F v (.bool b) from r); exact tx_bl
    | int b => cases (show Dp K F v (.int b) from r); exact tx_int
    | str b => cases (show Dp K F v (.str b) from r); exact tx_str
    | list b =>
      cases (show Dp K F v (.list b) from r) with
      | lst h _ => exact tx_sql (Same.seq S.sub h)
    | tuple b =>
      cases (show Dp K F v (.tuple b) from r) with
      | tup h _ => exact tx_sqt (same_t S.sub h)
    | dict b => cases (show Dp K F v (.dict b) from r)
theorem rd_isiTh {n : String} (s : TyX K H v (.type (thK a))) (h : (["NoneType", "bool", "int", "str", "list", "tuple", "dict"].all fun k => decide (PySem.W.kitOne [] (.type k) (.type n) = some (isK k n))) = true) (k : Q (.bl (thIs n a)) H) (hk : ∀ t, PySem.W.kitOne K (.type t) (.type n) = PySem.W.kitOne [] (.type t) (.type n) := by intro t; rfl) : rIsi K [v, .ty n] H Q := by
  refine ⟨v, .ty n, _, .type n, thIs n a, rfl, .ty n, s, (hk _).trans ?_, k⟩
  have hm : thK a ∈ ["NoneType", "bool", "int", "str", "list", "tuple", "dict"] := by
    cases a with
    | dct => decide
    | d x => cases x <;> simp [thK]
  exact of_decide_eq_true (List.all_eq_true.mp h _ hm)
theorem rd_dnew {σ : L2.St} (k : nK Q H (.dK [])) : tDNewK σ H Q := k
theorem rd_dict (S : Sx P F0 H0 F H) (k : ∀ v F' H', Sx P0 F H F' H' → qTh.r K F' v .dct → Q v H') : nK Q H (.dK []) :=
  alF S fun p F' H' c h => k _ F' H' c ⟨p, rfl, h⟩
end
/-! ### is, of truths -/
section
variable {X : Cx}
theorem op_isB : OpR X (compareOp .Is) (rB0 fun i j => .bl (decide (i = j))) := by
  intro pins s σ H x y v u Q I rx ry h
  obtain ⟨i, j, rfl, rfl, q⟩ := h
  cases rx; cases ry
  refine wpAny_is_plain (by cases i <;> cases j <;> rfl) ?_
  refine fin_bl I q ?_
  cases i <;> cases j <;> rfl
theorem op_isnotB : OpR X (compareOp .IsNot) (rB0 fun i j => .bl (!decide (i = j))) := by
  intro pins s σ H x y v u Q I rx ry h
  obtain ⟨i, j, rfl, rfl, q⟩ := h
  cases rx; cases ry
  show wpAny _ _ ((isSame _ _) >>= fun z => pure (Value.bool (!z))) _ _ s
  refine wpAny_bind (wpAny_isSame_plain (by cases i <;> cases j <;> rfl) (wpAny_pure (fin_bl I q ?_)))
  cases i <;> cases j <;> rfl
end
end Gl

namespace Gl
open PySem PySem.Spec PyProof.Rows L2

/-! ## plain mathematics: results that are there -/
def Ok {α : Type} (x : Option α) (Q : α → Prop) : Prop := ∃ a, x = some a ∧ Q a
section
variable {α β S ρ : Type} {x y : Option α} {P Q : α → Prop} {f : α → Option β} {R : β → Prop} {a : α} {b : Bool}
theorem Ok.sm (h : Q a) : Ok (some a) Q := ⟨a, rfl, h⟩
theorem Ok.bd (h : Ok x P) (k : ∀ a, P a → Ok (f a) R) : Ok (x.bind f) R := by
  obtain ⟨a, rfl, p⟩ := h
  exact k a p
theorem Ok.bde (h : x = some a) (k : Ok (f a) R) : Ok (x.bind f) R := by
  rw [h]; exact k
theorem Ok.gd (h : b = true) (k : Ok x Q) : Ok (gd b x) Q := by rw [gd_true h]; exact k
theorem Ok.ite (h1 : b = true → Ok x Q) (h2 : b = false → Ok y Q) : Ok (if b = true then x else y) Q := by
  cases b with
  | true => exact h1 rfl
  | false => exact h2 rfl
theorem Ok.mono (h : Ok x P) (k : ∀ a, P a → Q a) : Ok x Q := let ⟨a, e, p⟩ := h; ⟨a, e, k a p⟩
theorem Ok.eq {a : α} (h : Ok x fun r => r = a) : x = some a := let ⟨b, e, p⟩ := h; p ▸ e
theorem Ok.of (h : x = some a) (k : Q a) : Ok x Q := ⟨a, h, k⟩
/-- a loop: what holds ahead of each item -/
theorem Ok.loop {f : α → S → Option S} {xs : List α} {s0 : S} (I : List α → S → Prop) (h0 : I [] s0) (hs : ∀ pre x post s, xs = pre ++ x :: post → I pre s → Ok (f x s) (I (pre ++ [x]))) : Ok (loopS f xs s0) (I xs) := by
  have key : ∀ (post pre : List α) (s : S), xs = pre ++ post → I pre s → Ok (loopS f post s) (I xs) := by
    intro post
    induction post with
    | nil => intro pre s e h; rw [List.append_nil] at e; subst e; exact ⟨s, rfl, h⟩
    | cons x post ih =>
      intro pre s e h
      obtain ⟨s', e1, h1⟩ := hs pre x post s e h
      obtain ⟨r, e2, h2⟩ := ih (pre ++ [x]) s' (by rw [e]; simp) h1
      exact ⟨r, by show (f x s).bind _ = _; rw [e1]; exact e2, h2⟩
  exact key xs [] s0 rfl h0
/-- a loop that never leaves -/
theorem Ok.loopN {f : α → S → Option (Ctl S ρ)} {xs : List α} {s0 : S} (I : List α → S → Prop) (h0 : I [] s0) (hs : ∀ pre x post s, xs = pre ++ x :: post → I pre s → Ok (f x s) fun c => ∃ s', c = .nx s' ∧ I (pre ++ [x]) s') : Ok (loopC f xs s0) fun c => ∃ s', c = .nx s' ∧ I xs s' := by
  have key : ∀ (post pre : List α) (s : S), xs = pre ++ post → I pre s → Ok (loopC f post s) fun c => ∃ s', c = .nx s' ∧ I xs s' := by
    intro post
    induction post with
    | nil => intro pre s e h; rw [List.append_nil] at e; subst e; exact ⟨_, rfl, s, rfl, h⟩
    | cons x post ih =>
      intro pre s e h
      obtain ⟨_, e1, s', rfl, h1⟩ := hs pre x post s e h
      obtain ⟨r, e2, h2⟩ := ih (pre ++ [x]) s' (by rw [e]; simp) h1
      exact ⟨r, by show (f x s).bind _ = _; rw [e1]; exact e2, h2⟩
  exact key xs [] s0 rfl h0
/-- a loop that may return: it holds ahead of each item unless it has returned -/
theorem Ok.loopR {f : α → S → Option (Ctl S ρ)} {xs : List α} {s0 : S} (I : List α → S → Prop) (T : ρ → Prop) (h0 : I [] s0) (hs : ∀ pre x post s, xs = pre ++ x :: post → I pre s → Ok (f x s) fun c => (∃ s', c = .nx s' ∧ I (pre ++ [x]) s') ∨ ∃ r, c = .rt r ∧ T r) : Ok (loopC f xs s0) fun c => (∃ s', c = .nx s' ∧ I xs s') ∨ ∃ r, c = .rt r ∧ T r := by
  have key : ∀ (post pre : List α) (s : S), xs = pre ++ post → I pre s → Ok (loopC f post s) fun c => (∃ s', c = .nx s' ∧ I xs s') ∨ ∃ r, c = .rt r ∧ T r := by
    intro post
    induction post with
    | nil => intro pre s e h; rw [List.append_nil] at e; subst e; exact ⟨_, rfl, .inl ⟨s, rfl, h⟩⟩
    | cons x post ih =>
      intro pre s e h
      obtain ⟨_, e1, ⟨s', rfl, h1⟩ | ⟨r, rfl, h1⟩⟩ := hs pre x post s e h
      · obtain ⟨r, e2, h2⟩ := ih (pre ++ [x]) s' (by rw [e]; simp) h1
        exact ⟨r, by show (f x s).bind _ = _; rw [e1]; exact e2, h2⟩
      · exact ⟨.rt r, by show (f x s).bind _ = _; rw [e1]; rfl, .inr ⟨r, rfl, h1⟩⟩
  exact key xs [] s0 rfl h0
/-- a comprehension without a state -/
theorem comp_pure {f : α → Unit → Option (Option β × Unit)} {g : α → Option β} : ∀ {xs : List α}, (∀ x ∈ xs, f x () = some (g x, ())) → comp f xs () = some (xs.filterMap g, ())
  | [], _ => rfl
  | x :: xs, h => by
    show (f x ()).bind _ = _
    rw [h x List.mem_cons_self]
    show ((comp f xs ()).bind fun r => some (match g x with
      | some y => (y :: r.1, r.2)
      | none => r)) = _
    rw [comp_pure fun y hy => h y (List.mem_cons_of_mem _ hy), List.filterMap_cons]
    cases g x <;> rfl
end
theorem filterMap_some {α : Type} : ∀ xs : List α, xs.filterMap (fun x => some x) = xs
  | [] => rfl
  | x :: xs => by rw [List.filterMap_cons, filterMap_some xs]
theorem filterMap_ite {α : Type} {p : α → Bool} : ∀ xs : List α, xs.filterMap (fun x => if p x = true then some x else none) = xs.filter p
  | [] => rfl
  | x :: xs => by
    rw [List.filterMap_cons, List.filter_cons, filterMap_ite xs]
    cases p x <;> rfl
/-! ### texts as rows of numbers -/
def cl (s : Str) : List Nat := s.cps.toList
theorem cl_inj {a b : Str} (h : cl a = cl b) : a = b := by
  obtain ⟨a⟩ := a; obtain ⟨b⟩ := b
  exact congrArg Str.mk (Array.toList_inj.mp h)
theorem cl_len (s : Str) : s.length = (cl s).length := (Array.length_toList).symm
theorem cl_app (a b : Str) : cl (a ++ b) = cl a ++ cl b := Array.toList_append
theorem cl_sg (c : Nat) : cl ⟨#[c]⟩ = [c] := rfl
theorem sgns_cl (s : Str) : sgns s = (cl s).map fun c => ⟨#[c]⟩ := rfl
theorem cl_cut (z : Str) (lo hi : Option Int) : cl (cutS z lo hi) = cut (cl z) lo hi := by
  unfold cl cutS cut
  rw [List.toList_toArray]
  show _ = List.take (HT.sIx z.cps.toList.length z.cps.toList.length hi - HT.sIx z.cps.toList.length 0 lo) (List.drop (HT.sIx z.cps.toList.length 0 lo) z.cps.toList)
  rw [Array.length_toList]
  rfl
theorem sIx_nn {n d : Nat} {k : Int} (h : 0 ≤ k) : HT.sIx n d (some k) = min k.toNat n := by
  obtain ⟨m, rfl⟩ := Int.eq_ofNat_of_zero_le h
  rw [HT.sIx_nat]; rfl
theorem cut_to {α : Type} (xs : List α) {k : Int} (h : 0 ≤ k) : cut xs none (some k) = xs.take k.toNat := by
  unfold cut
  rw [HT.sIx_none, sIx_nn h, List.drop_zero, Nat.sub_zero]
  rcases Nat.le_total k.toNat xs.length with e | e
  · rw [Nat.min_eq_left e]
  · rw [Nat.min_eq_right e, List.take_of_length_le (Nat.le_refl _), List.take_of_length_le e]
theorem cut_from {α : Type} (xs : List α) {k : Int} (h : 0 ≤ k) : cut xs (some k) none = xs.drop k.toNat := by
  unfold cut
  rw [HT.sIx_none, sIx_nn h]
  rcases Nat.le_total k.toNat xs.length with e | e
  · rw [Nat.min_eq_left e, List.take_of_length_le]; rw [List.length_drop]; omega
  · rw [Nat.min_eq_right e, Nat.sub_self, List.take_zero, List.drop_of_length_le e]
theorem cut_mid {α : Type} (xs : List α) {a b : Int} (h : 0 ≤ a) (h2 : a ≤ b) : cut xs (some a) (some b) = (xs.drop a.toNat).take (b.toNat - a.toNat) := by
  unfold cut
  rw [sIx_nn h, sIx_nn (by omega)]
  rcases Nat.le_total a.toNat xs.length with e | e
  · rw [Nat.min_eq_left e]
    rcases Nat.le_total b.toNat xs.length with e2 | e2
    · rw [Nat.min_eq_left e2]
    · rw [Nat.min_eq_right e2, List.take_of_length_le (by rw [List.length_drop]; omega), List.take_of_length_le (by rw [List.length_drop]; omega)]
  · rw [Nat.min_eq_right e, List.drop_of_length_le e, List.drop_of_length_le (Nat.le_refl _)]; simp
theorem atI_nn {α : Type} {xs : List α} {i : Int} (h : 0 ≤ i) (h2 : i < xs.length) : atI xs i = xs[i.toNat]? := by
  unfold atI ixN
  rw [if_pos h, if_pos h2]; rfl
theorem atI_last {α : Type} {xs : List α} {a : α} : atI (xs ++ [a]) (-1) = some a := by
  unfold atI ixN
  rw [if_neg (by decide), if_pos (by simp; omega)]
  show (xs ++ [a])[((-1 : Int) + ((xs ++ [a]).length : Nat)).toNat]? = _
  have e : ((-1 : Int) + ((xs ++ [a]).length : Nat)).toNat = xs.length := by simp; omega
  rw [e]; simp
theorem ixS_ok {s : Str} {i : Int} (h : 0 ≤ i) (h2 : i < s.length) (h3 : s.length ≤ sizeLine) : Ok (ixS s i) fun z => ∃ c, (cl s)[i.toNat]? = some c ∧ z = ⟨#[c]⟩ := by
  unfold ixS
  refine Ok.gd (by unfold fitsS; exact decide_eq_true h3) ?_
  rw [atI_nn h (by rw [Array.length_toList]; exact h2)]
  have hl : i.toNat < (cl s).length := by rw [← cl_len]; omega
  refine Ok.bde (a := (cl s)[i.toNat]) (by show (cl s)[i.toNat]? = _; simp [hl]) ?_
  exact Ok.sm ⟨_, by simp [hl], rfl⟩
theorem sizeLine_big : (1000000 : Nat) ≤ sizeLine := by rw [sizeLine_eq]; decide
theorem fitsS_ok {s : Str} (h : s.length ≤ 1000000) : fitsS s = true := decide_eq_true (Nat.le_trans h sizeLine_big)
theorem fits_ok {α : Type} {s : List α} (h : s.length < 1000000) : fits s = true := decide_eq_true (Nat.lt_of_lt_of_le h sizeLine_big)
theorem fitsE_ok {α : Type} {s : List α} (h : s.length ≤ 1000000) : fitsE s = true := decide_eq_true (Nat.le_trans h sizeLine_big)
theorem fits2_ok {α : Type} {s t : List α} (h : s.length + t.length ≤ 1000000) : fits2 s t = true := decide_eq_true (Nat.le_trans h sizeLine_big)
theorem catOk_ok {s t : Str} (h : s.length + t.length ≤ 1000000) : catOk s t = true := decide_eq_true (Nat.le_trans h sizeLine_big)
theorem rgOk_ok {a b : Int} (h : -1000000 ≤ a) (h2 : a ≤ 1000000) (h3 : -1000000 ≤ b) (h4 : b ≤ 1000000) : rgOk a b = true := by
  unfold rgOk
  rw [decide_eq_true (show -(2 ^ 62) ≤ a by omega), decide_eq_true (show a < 2 ^ 62 by omega), decide_eq_true (show -(2 ^ 62) ≤ b by omega), decide_eq_true (show b < 2 ^ 62 by omega)]; rfl
theorem rgFit_ok {a b : Int} (h : -1000 ≤ a) (h2 : a ≤ 1000) (h3 : -1000 ≤ b) (h4 : b ≤ 1000) : rgFit a b = true := by
  unfold rgFit
  rw [decide_eq_true (show -(2 ^ 62) ≤ a by omega), decide_eq_true (show a < 2 ^ 62 by omega), decide_eq_true (show -(2 ^ 62) ≤ b by omega), decide_eq_true (show b < 2 ^ 62 by omega), decide_eq_true (show (b - a).toNat ≤ 100000 by omega)]; rfl
theorem mulOk_l {a b : Int} (h : -(2 ^ 64) < a) (h2 : a < 2 ^ 64) : mulOk a b = true := by
  unfold mulOk; rw [decide_eq_true h, decide_eq_true h2]; rfl
theorem mulOk_r {a b : Int} (h : -(2 ^ 64) < b) (h2 : b < 2 ^ 64) : mulOk a b = true := by
  unfold mulOk; rw [decide_eq_true h, decide_eq_true h2]; simp
theorem modOk_ok {a : Int} (h : 0 < a) : modOk a = true := decide_eq_true h
theorem divOk_ok {a : Int} (h : 0 < a) (h2 : a < 1073741824) : divOk a = true := by
  unfold divOk; rw [decide_eq_true h, decide_eq_true h2]; rfl
theorem repS_cl {x : Str} {n : Int} (h : 0 ≤ n) : cl (repS x n) = (List.replicate n.toNat (cl x)).flatten := by
  have fold : ∀ (k : Nat) (acc : Array Nat), ((List.replicate k x.cps).foldl (· ++ ·) acc).toList = acc.toList ++ (List.replicate k x.cps.toList).flatten := by
    intro k
    induction k with
    | zero => intro acc; simp
    | succ k ih => intro acc; rw [List.replicate_succ, List.foldl_cons, ih, List.replicate_succ, List.flatten_cons, Array.toList_append, List.append_assoc]
  unfold repS Txt.mul
  by_cases h1 : n < 1
  · rw [if_pos h1]
    have e : n.toNat = 0 := by omega
    rw [e]; rfl
  · rw [if_neg h1]
    by_cases h2 : (n == 1 || x.length == 0) = true
    · rw [if_pos h2]
      rcases Bool.or_eq_true_iff.mp h2 with h3 | h3
      · have e : n = 1 := by simpa using h3
        subst e
        show cl x = _
        simp
      · have e : x.length = 0 := by simpa using h3
        rw [cl_len] at e
        have e2 : cl x = [] := List.eq_nil_of_length_eq_zero e
        rw [e2]
        symm
        rw [List.flatten_eq_nil_iff]
        intro l hl
        exact (List.mem_replicate.mp hl).2
    · rw [if_neg h2]
      show ((List.replicate n.toNat x.cps).foldl (· ++ ·) #[]).toList = _
      rw [fold]
      simp [cl]
theorem repOk_ok {x : Str} {n : Int} (h : 0 ≤ n) (h2 : n ≤ 100) (h3 : x.length ≤ 100) : repOk x n = true := by
  unfold repOk
  have e : x.length * n.toNat ≤ 100000 := Nat.le_trans (Nat.mul_le_mul h3 (show n.toNat ≤ 100 by omega)) (by decide)
  rw [decide_eq_true (show -(2 ^ 62) ≤ n by omega), decide_eq_true (show n < 2 ^ 62 by omega), decide_eq_true e, decide_eq_true (show x.length ≤ 100000 by omega)]; rfl
theorem rng_mem {a b i : Int} : i ∈ rng a b ↔ a ≤ i ∧ i < b := by
  unfold rng
  rw [List.mem_map]
  constructor
  · rintro ⟨j, hj, rfl⟩
    rw [List.mem_range] at hj
    omega
  · intro ⟨h1, h2⟩
    exact ⟨(i - a).toNat, by rw [List.mem_range]; omega, by omega⟩
theorem rng_len (a b : Int) : (rng a b).length = (b - a).toNat := by unfold rng; simp
theorem rng_at {a b : Int} {pre post : List Int} {x : Int} (h : rng a b = pre ++ x :: post) : x = a + pre.length ∧ pre = rng a x ∧ a ≤ x ∧ x < b := by
  have hx : x ∈ rng a b := by rw [h]; simp
  rw [rng_mem] at hx
  have hg : (rng a b)[pre.length]? = some x := by rw [h]; simp
  have hl : pre.length < (b - a).toNat := by
    have := congrArg List.length h
    rw [rng_len] at this
    simp at this
    omega
  have hx2 : x = a + pre.length := by
    unfold rng at hg
    rw [List.getElem?_map, List.getElem?_range hl] at hg
    exact (Option.some.inj hg).symm
  refine ⟨hx2, ?_, hx⟩
  have e : pre = (rng a b).take pre.length := by rw [h]; simp
  rw [e]
  unfold rng
  rw [← List.map_take, List.take_range]
  congr 2
  rw [hx2]; omega
theorem rng_snoc {a b : Int} (h : a ≤ b) : rng a (b + 1) = rng a b ++ [b] := by
  unfold rng
  have e : (b + 1 - a).toNat = (b - a).toNat + 1 := by omega
  rw [e, List.range_succ, List.map_append]
  congr 1
  show [a + ((b - a).toNat : Int)] = [b]
  congr 1
  omega
/-! ### == of data: the sides are small -/
def okS (s : Str) : Prop := PyData.strOk s = true
theorem canAll {α : Type} {A : R α} (D : Dat A) : ∀ {xs : List α}, (∀ x ∈ xs, (D.d x).canLay0 = true) → PyData.canLayAll0 (xs.map D.d) = true
  | [], _ => rfl
  | x :: xs, h => by
    show ((D.d x).canLay0 && PyData.canLayAll0 (xs.map D.d)) = true
    rw [h x List.mem_cons_self, canAll D fun y hy => h y (List.mem_cons_of_mem _ hy)]; rfl
theorem depAll {α : Type} {A : R α} (D : Dat A) {n : Nat} : ∀ {xs : List α}, (∀ x ∈ xs, (D.d x).depth ≤ n) → PyData.depthAll (xs.map D.d) ≤ n
  | [], _ => Nat.zero_le _
  | x :: xs, h => by
    show max (D.d x).depth (PyData.depthAll (xs.map D.d)) ≤ n
    exact Nat.max_le.mpr ⟨h x List.mem_cons_self, depAll D fun y hy => h y (List.mem_cons_of_mem _ hy)⟩
theorem shp_of {α : Type} {A : R α} {D : Dat A} {a : α} (h : (D.d a).canLay0 = true) (h2 : (D.d a).depth ≤ 64) : shp D a = true := by
  show ((D.d a).canLay0 && decide ((D.d a).depth ≤ 64)) = true
  rw [h, decide_eq_true h2]; rfl
theorem shp_lS {xs : List Str} (h : ∀ x ∈ xs, okS x) : shp (dL dS) xs = true := shp_of (canAll dS h) (Nat.succ_le_of_lt (Nat.lt_of_le_of_lt (depAll dS (n := 0) fun _ _ => Nat.le_refl _) (by decide)))
theorem shp_tS {xs : List Str} (h : ∀ x ∈ xs, okS x) : shp (dT dS) xs = true := shp_of (canAll dS h) (Nat.succ_le_of_lt (Nat.lt_of_le_of_lt (depAll dS (n := 0) fun _ _ => Nat.le_refl _) (by decide)))
theorem shp_lI (xs : List Int) : shp (dL dI) xs = true := shp_of (canAll dI fun _ _ => rfl) (Nat.succ_le_of_lt (Nat.lt_of_le_of_lt (depAll dI (n := 0) fun _ _ => Nat.le_refl _) (by decide)))
theorem shp_tI (xs : List Int) : shp (dT dI) xs = true := shp_of (canAll dI fun _ _ => rfl) (Nat.succ_le_of_lt (Nat.lt_of_le_of_lt (depAll dI (n := 0) fun _ _ => Nat.le_refl _) (by decide)))
/-- a loop that picks out of a row: what has been picked so far is known -/
theorem loop_pick {α : Type} {f : α → List α → Option (List α)} {xs : List α} (p : α → Bool) (hs : ∀ pre x post, xs = pre ++ x :: post → f x (pre.filter p) = some (if p x = true then pre.filter p ++ [x] else pre.filter p)) : loopS f xs [] = some (xs.filter p) := by
  refine Ok.eq (Ok.loop (fun pre s => s = pre.filter p) rfl fun pre x post s e h => ?_)
  subst h
  refine ⟨_, hs pre x post e, ?_⟩
  rw [List.filter_append, List.filter_cons]
  cases p x <;> simp
end Gl

namespace Law
open PySem PySem.Spec PyProof.Rows L2 Gl
def m_is_line_b1  (x28 : Str) (s30 : Unit) : Option (Ctl Unit Bool) :=
  (if (!inS x28 (" #-.0123456789:>ABCDEFGHIJKLMNOPQRSTUVWXYZabcdefghijklmnopqrstuvwxyz" : Str)) = true then (some (.rt false)) else (some (.nx ())))
def m_is_line (a_thing : Th) : Option Bool :=
  ((if (!(thIs "str" a_thing)) = true then some (true) else ((thS a_thing).bind fun t10 => some ((decide (t10 = ("" : Str)))))).bind fun t4 => if t4 = true then (some false) else ((thS a_thing).bind fun t20 => (loopC m_is_line_b1 (sgns t20) ()).bind fun t23 => aft t23 fun s46 => some true))
def m_law_pool (a__law_script : (List Int)) (a__law_k : Int) : Option (Int × Int) :=
  (((gd (shp (dL dI) a__law_script) <| gd (shp (dL dI) ([] : List Int)) <| if (!decide (a__law_script = ([] : List Int))) = true then (gd (modOk ((a__law_script).length : Int)) <| (atI a__law_script (a__law_k % ((a__law_script).length : Int))).bind fun t14 => some (t14)) else (some (0)))).bind fun (t1 : Int) => gd (modOk 2147483629) <| gd (mulOk 104729 a__law_k) <| gd (mulOk (((t1 % 2147483629) + (104729 * a__law_k)) + 11) 48271) <| gd (modOk 2147483647) <| gd (powOk 10 18) <| gd (mulOk t1 (b2I (decide ((10 ^ (18 : Int).toNat) ≤ t1)))) <| some ((t1 * (b2I (decide ((10 ^ (18 : Int).toNat) ≤ t1)))), (((((t1 % 2147483629) + (104729 * a__law_k)) + 11) * 48271) % 2147483647)))
def m_law_take (a__law_pool_here : (Int × Int)) (a__law_many : Int) : Option (Int × (Int × Int)) :=
  (if decide (0 < (a__law_pool_here).1) = true then (gd (modOk a__law_many) <| gd (divOk a__law_many) <| some (((a__law_pool_here).1 % a__law_many), (((a__law_pool_here).1 / a__law_many), (a__law_pool_here).2))) else (gd (mulOk (a__law_pool_here).2 48271) <| gd (modOk 2147483647) <| gd (mulOk (((a__law_pool_here).1, ((((a__law_pool_here).2 * 48271) + 11) % 2147483647))).2 (((a__law_pool_here).1, ((((a__law_pool_here).2 * 48271) + 11) % 2147483647))).2) <| gd (modOk 2147483629) <| gd (divOk 64) <| gd (modOk a__law_many) <| some ((((((((a__law_pool_here).1, ((((a__law_pool_here).2 * 48271) + 11) % 2147483647))).2 * (((a__law_pool_here).1, ((((a__law_pool_here).2 * 48271) + 11) % 2147483647))).2) % 2147483629) / 64) % a__law_many), ((a__law_pool_here).1, ((((a__law_pool_here).2 * 48271) + 11) % 2147483647)))))
def m_law_all_signs  : Option Str :=
  (some (" #-.0123456789:>ABCDEFGHIJKLMNOPQRSTUVWXYZabcdefghijklmnopqrstuvwxyz" : Str))
def m_law_any  : Option Str :=
  (gd (catOk (" !\"#$&'()*+,-./0123456789:;<=>?@ABCDEFGHIJKLMNOPQRSTUVWXYZ[\\]^_`" : Str) ("abcdefghijklmnopqrstuvwxyz{|}~\n\t" : Str)) <| some ((" !\"#$&'()*+,-./0123456789:;<=>?@ABCDEFGHIJKLMNOPQRSTUVWXYZ[\\]^_`" : Str) ++ ("abcdefghijklmnopqrstuvwxyz{|}~\n\t" : Str)))
def m_law_drawn_b1 (t1 : (Int × (Int × Int))) (x28 : Int) (s30 : ((Int × Int) × Str)) : Option ((Int × Int) × Str) :=
  ((if (decide (t1.1 = 0)) = true then some (true, s30.1) else ((if (decide (t1.1 = 1)) = true then ((m_law_take (s30.1) (5)).bind fun t102 => some ((decide (t102.1 = 0)), t102.2)) else some (false, s30.1)).bind fun t95 => some (t95.1, t95.2))).bind fun t78 => if t78.1 = true then ((m_law_any).bind fun t131 => (m_law_take (t78.2) (96)).bind fun t139 => (ixS t131 t139.1).bind fun t149 => gd (catOk s30.2 t149) <| some (t139.2, (s30.2 ++ t149))) else ((m_law_all_signs).bind fun t152 => (m_law_take (t78.2) (68)).bind fun t160 => (ixS t152 t160.1).bind fun t170 => gd (catOk s30.2 t170) <| some (t160.2, (s30.2 ++ t170))))
def m_law_drawn (a__law_pool_here : (Int × Int)) : Option (Str × (Int × Int)) :=
  ((m_law_take (a__law_pool_here) (4)).bind fun t1 => (m_law_take (t1.2) (7)).bind fun t11 => gd (rgOk 0 t11.1) <| (loopS (m_law_drawn_b1 t1) (rng 0 t11.1) (t11.2, ("" : Str))).bind fun t22 => some (t22.2, t22.1))
def m_law_b1  (x63 : Th) (s65 : Unit) : Option (Ctl Unit Bool) :=
  ((m_is_line x63).bind fun t80 => if (!decide (t80 = false)) = true then (some (.rt false)) else (some (.nx ())))
def m_law_b2  (x152 : Str) (s154 : Unit) : Option (Option Str × Unit) :=
  ((m_law_all_signs).bind fun t171 => if (!inS x152 t171) = true then (some (some x152, ())) else some (none, ()))
def m_law_b3  (x211 : Str) (s213 : Unit) : Option (Option Str × Unit) :=
  ((m_law_all_signs).bind fun t230 => if (!inS x211 t230) = true then (some (some x211, ())) else some (none, ()))
def m_law_b4  (x217 : Str) (s219 : Unit) : Option (Option Str × Unit) :=
  ((m_law_all_signs).bind fun t236 => if (!inS x217 t236) = true then (some (some x217, ())) else some (none, ()))
def m_law_b5 (a__law_script : (List Int)) (x109 : Int) (s111 : Unit) : Option (Ctl Unit Bool) :=
  ((m_law_pool (a__law_script) (x109)).bind fun t126 => (m_law_drawn (t126)).bind fun t137 => (if (!decide (t137.1 = ("" : Str))) = true then (gd (fitsE (sgns t137.1)) <| (comp m_law_b4 (sgns t137.1) ()).bind fun t213 => gd (shp (dL dS) t213.1) <| gd (shp (dL dS) ([] : List Str)) <| some ((decide (t213.1 = ([] : List Str))))) else some (false)).bind fun t206 => (m_is_line (Th.d (PyData.str (t137.1)))).bind fun t277 => (m_is_line (Th.d (PyData.str (t137.1)))).bind fun t285 => (if (!decide (t285 = t206)) = true then some (true) else ((m_is_line (Th.d ((dL dS).d [t137.1]))).bind fun t319 => some (t319))).bind fun t307 => if t307 = true then (some (.rt false)) else (some (.nx ())))
def m_law_b6  (x361 : Str) (s363 : Unit) : Option (Ctl Unit Bool) :=
  ((m_is_line (Th.d (PyData.str (x361)))).bind fun t378 => (m_law_all_signs).bind fun t386 => if (!decide (t378 = (inS x361 t386))) = true then (some (.rt false)) else (some (.nx ())))
def m_law (a__law_script : (List Int)) : Option Bool :=
  ((m_law_all_signs).bind fun t1 => (if (!decide ((" #-.0123456789:>ABCDEFGHIJKLMNOPQRSTUVWXYZabcdefghijklmnopqrstuvwxyz" : Str) = t1)) = true then some (true) else (gd (fitsS (" #-.0123456789:>ABCDEFGHIJKLMNOPQRSTUVWXYZabcdefghijklmnopqrstuvwxyz" : Str)) <| some ((!decide ((((" #-.0123456789:>ABCDEFGHIJKLMNOPQRSTUVWXYZabcdefghijklmnopqrstuvwxyz" : Str)).length : Int) = 68))))).bind fun t10 => if t10 = true then (some false) else ((loopC m_law_b1 [(Th.d (PyData.none)), (Th.d (PyData.int (0))), (Th.d (PyData.int (7))), (Th.d (PyData.bool (true))), (Th.d (PyData.bool (false))), (Th.d ((dL dI).d ([] : List Int))), (Th.d ((dL dS).d [("a" : Str)])), (Th.d ((dT dS).d [("a" : Str)])), Th.dct, (Th.d (PyData.str (("" : Str))))] ()).bind fun t58 => aft t58 fun s93 => gd (rgOk 0 (maxI 1 (minI 63 ((a__law_script).length : Int)))) <| (loopC (m_law_b5 a__law_script) (rng 0 (maxI 1 (minI 63 ((a__law_script).length : Int)))) ()).bind fun t104 => aft t104 fun s338 => (m_law_any).bind fun t348 => (loopC m_law_b6 (sgns t348) ()).bind fun t356 => aft t356 fun s399 => some true))
def top (i : Nat) : Stmt := PySem.Challenge.pw_gluedlines_k01_signs_and_lines.main.body.getD i (.Pass ⟨0, 0, 0, 0⟩)
abbrev s_is_line : Stmt := top 2
abbrev s_law_pool : Stmt := top 4
abbrev s_law_take : Stmt := top 5
abbrev s_law_all_signs : Stmt := top 6
abbrev s_law_any : Stmt := top 7
abbrev s_law_drawn : Stmt := top 8
abbrev s_law : Stmt := top 9
structure Tx (K : PySem.W.Frag) (mg : Str → Option Value) : Prop where
  F_is_line : FnD' K ("is_line", none) "is_line" "is_line" s_is_line
  g_is_line : mg "is_line" = some (.ref (He.ga K "is_line"))
  F__law_pool : FnD' K ("_law_pool", none) "_law_pool" "_law_pool" s_law_pool
  g__law_pool : mg "_law_pool" = some (.ref (He.ga K "_law_pool"))
  F__law_take : FnD' K ("_law_take", none) "_law_take" "_law_take" s_law_take
  g__law_take : mg "_law_take" = some (.ref (He.ga K "_law_take"))
  F__law_all_signs : FnD' K ("_law_all_signs", none) "_law_all_signs" "_law_all_signs" s_law_all_signs
  g__law_all_signs : mg "_law_all_signs" = some (.ref (He.ga K "_law_all_signs"))
  F__law_any : FnD' K ("_law_any", none) "_law_any" "_law_any" s_law_any
  g__law_any : mg "_law_any" = some (.ref (He.ga K "_law_any"))
  F__law_drawn : FnD' K ("_law_drawn", none) "_law_drawn" "_law_drawn" s_law_drawn
  g__law_drawn : mg "_law_drawn" = some (.ref (He.ga K "_law_drawn"))
  F_law : FnD' K ("law", none) "law" "law" s_law
  g_law : mg "law" = some (.ref (He.ga K "law"))
  k_SIGNS : ∃ t, mg "SIGNS" = some (.str " #-.0123456789:>ABCDEFGHIJKLMNOPQRSTUVWXYZabcdefghijklmnopqrstuvwxyz" t)
  n_bool : mg "bool" = none
  n_int : mg "int" = none
  n_isinstance : mg "isinstance" = none
  n_len : mg "len" = none
  n_max : mg "max" = none
  n_min : mg "min" = none
  n_range : mg "range" = none
  n_str : mg "str" = none
section
variable {P : Program} {w : World} {K : PySem.W.Frag} {mg : Str → Option Value} {base : Heap}
def sp_is_line (K : PySem.W.Frag) : Sp := fun vs H Q _ => ∃ (F : Hp) (v_thing : V) (a_thing : Th) (r : Bool), vs = [v_thing] ∧ Same F H ∧ qTh.r K F v_thing a_thing ∧ m_is_line a_thing = some r ∧ ∀ v F' H', Sx P0 F H F' H' → qB.r K F' v r → Q v H'
theorem sc_is_line : FnScope ["thing", "sign"] ["thing"] (defScope s_is_line) := ⟨rfl, rfl, rfl, by decide +kernel, rfl, by decide +kernel, by decide +kernel⟩
theorem bn_is_line (T : Tx K mg) : Binds K (fdOf K ("is_line", none)) ["thing"] [] := FunD.bindsN T.F_is_line fun _ _ _ _ _ _ us hl => match us, hl with | [_], _ => rfl
theorem ok_is_line (T : Tx K mg) : FnOk P w K mg base CX0 1 (He.ga K "is_line") (fdOf K ("is_line", none)) ["thing"] (sp_is_line K) := by
  refine FunD.ok T.F_is_line sc_is_line (fun vs H0 Q E h => ?_) (fun cdv A outer s H0 vs Q E hr h => ?_)
  · obtain ⟨_, _, _, _, rfl, _⟩ := h
    rfl
  · obtain ⟨F0, v_thing, a_thing, r, rfl, hE, f_thing, hm, hQ⟩ := h
    refine ⟨_, PSs.nox ((pss_cons (ps_if (PW.pt (pw_or (pt_not (pt_val (pe_callB (r := rIsi K) call_isi (by rfl) T.n_isinstance (by decide +kernel) (pa_cons (pv 0) (pa_cons (pe_bltn (v := V.ty "str") (by rfl) T.n_str (by decide +kernel) rfl) pa_nil))))) (pw_or1 (pt_cmpR op_eqS (pv 0) pe_str (nomark _))))) (pss_one (ps_ret pe_bl)) pss_nil) (pss_cons (ps_for PassesOwn.never rfl (pi_str (pv 0)) (pg_name (i := 1) sc_is_line.nd rfl (by first | exact Or.inl rfl | exact Or.inr rfl)) (pss_one (ps_if (pt_cmpR op_niS (pv 1) (pe_glob (v := V.str " #-.0123456789:>ABCDEFGHIJKLMNOPQRSTUVWXYZabcdefghijklmnopqrstuvwxyz") (by rfl) (T.k_SIGNS.choose_spec) ⟨_, rfl⟩) rfl) (pss_one (ps_ret pe_bl)) pss_nil))) (pss_one (ps_ret pe_bl))))), ?_⟩
    have S : Sx P0 F0 H0 F0 H0 := Sx.refl0 hE
    unfold m_is_line at hm
    obtain ⟨t4, e5, hm⟩ := bd_some hm
    refine rd_seq ?_
    refine rd_ifS ?_
    refine rd_or ?_
    refine rd_not ?_
    refine rd_tB ?_
    refine rd_cb ?_
    refine rd_cons ?_
    refine rd_v rfl ?_
    refine rd_cons ?_
    refine rd_c ?_
    refine rd_nil ?_
    refine rd_isiTh (n := "str") (tx_th S f_thing) (by decide +kernel) ?_
    refine rd_b ?_
    refine or_j (fun c H' => c = t4 ∧ ∃ F', Sx P0 F0 H0 F' H') ?_ ?_ ?_
    · intro b6 Q7 q8
      have e5 := if_f e5 b6
      have S9 := Sx.refl0 S.sub
      obtain ⟨t10, e11, e5⟩ := bd_some e5
      have e12 := thS_fact f_thing e11
      cases e12
      cases e5
      refine rd_test ?_
      refine rd_op ?_
      refine rd_v rfl ?_
      refine rd_c ?_
      refine rd_S0 ?_
      refine rd_b ?_
      exact q8 _ _ ⟨rfl, F0, S9⟩
    · intro b6
      have e5 := if_t e5 b6
      cases e5
      have S13 := Sx.refl0 S.sub
      exact ⟨rfl, F0, S13⟩
    rintro b17 H15 ⟨rfl, F14, c16⟩
    have S18 := S.call0 c16
    have f_thing := qTh.mono c16.le f_thing
    refine if_b hm (fun b19 hm => ?_) (fun b19 hm => ?_)
    · skip
      cases hm
      refine rd_ret ?_
      refine rd_c ?_
      exact hQ _ _ _ S18 rfl
    · skip
      obtain ⟨t20, e21, hm⟩ := bd_some hm
      have e22 := thS_fact f_thing e21
      cases e22
      refine rd_next ?_
      refine rd_seq ?_
      refine rd_for ?_
      refine rd_iS ?_
      refine rd_v rfl ?_
      refine rd_wS ?_
      obtain ⟨t23, e24, hm⟩ := bd_some hm
      refine rd_forC feedsS (typedS (K := K) (F := F14)) e24 (fun (s25 : Unit) σ H => ∃ (F : Hp) (o1 : Option V), σ = [some (V.str (t20)), o1] ∧ Sx P0 F14 H15 F H) ?_ ?_ ?_ ?_
      · intro _ _ _ _; trivial
      · skip
        have S27 := Sx.refl0 S18.sub
        exact ⟨F14, _, rfl, S27⟩
      · skip
        rintro x28 v29 s30 c34 σ31 H32 f33 ⟨F35, o37, rfl, S36⟩ hm40 hbk38 hrt39
        unfold m_is_line_b1 at hm40
        cases (show v29 = (V.str (x28)) from f33)
        refine rd_gn ?_
        refine rd_ifS ?_
        refine rd_test ?_
        refine rd_op ?_
        refine rd_v rfl ?_
        refine rd_c ?_
        refine rd_niSS ?_
        refine rd_b ?_
        refine if_b hm40 (fun b41 hm40 => ?_) (fun b41 hm40 => ?_)
        · skip
          cases hm40
          have e42 := hrt39 _ rfl
          subst e42
          have hm := aft_rt hm
          have S43 := S18.call0 S36
          cases hm
          refine rd_ret ?_
          refine rd_c ?_
          exact hQ _ _ _ S43 rfl
        · skip
          cases hm40
          refine rd_next ?_
          exact ⟨_, rfl, ⟨F35, _, rfl, S36⟩⟩
      · skip
        rintro s46 σ44 H45 e47 ⟨F48, o50, rfl, S49⟩
        subst e47
        have hm := aft_nx hm
        have S51 := S18.call0 S49
        cases hm
        refine rd_ret ?_
        refine rd_c ?_
        exact hQ _ _ _ S51 rfl
def sp_law_pool (K : PySem.W.Frag) : Sp := fun vs H Q _ => ∃ (F : Hp) (v__law_script : V) (a__law_script : List Int) (a__law_k : Int) (r : (Int × Int)), vs = [v__law_script, (V.int (a__law_k))] ∧ Same F H ∧ qC.r K F v__law_script a__law_script ∧ m_law_pool a__law_script a__law_k = some r ∧ ∀ p F' H', H p = none → Sx P0 F H F' H' → Ow (fun a => a = p) H F' H' p (.lst [.int r.1, .int r.2]) → Q (.ref p) H'
theorem sc_law_pool : FnScope ["_law_script", "_law_k", "_law_cell", "_law_seed"] ["_law_script", "_law_k"] (defScope s_law_pool) := ⟨rfl, rfl, rfl, by decide +kernel, rfl, by decide +kernel, by decide +kernel⟩
theorem bn_law_pool (T : Tx K mg) : Binds K (fdOf K ("_law_pool", none)) ["_law_script", "_law_k"] [] := FunD.bindsN T.F__law_pool fun _ _ _ _ _ _ us hl => match us, hl with | [_, _], _ => rfl
theorem ok_law_pool (T : Tx K mg) : FnOk P w K mg base CX0 1 (He.ga K "_law_pool") (fdOf K ("_law_pool", none)) ["_law_script", "_law_k"] (sp_law_pool K) := by
  refine FunD.ok T.F__law_pool sc_law_pool (fun vs H0 Q E h => ?_) (fun cdv A outer s H0 vs Q E hr h => ?_)
  · obtain ⟨_, _, _, _, _, rfl, _⟩ := h
    rfl
  · obtain ⟨F0, v__law_script, a__law_script, a__law_k, r, rfl, hE, f__law_script, hm, hQ⟩ := h
    refine ⟨_, PSs.nox ((pss_cons (ps_set (i := 2) sc_law_pool.nd rfl (by first | exact Or.inl rfl | exact Or.inr rfl) pe_int) (C8.pss_cut (ps_if (pt_cmpR (r := rNeD K) (op_neD hr.units) (pv 0) (pe_lst pa_nil) (nomark _)) (pss_one (ps_set (i := 2) sc_law_pool.nd rfl (by first | exact Or.inl rfl | exact Or.inr rfl) (pe_ix (r := rIxL K) ix_list (pv 0) (pe_op op_mod (pe_callTy cr_int (by rfl) T.n_int (by decide +kernel) (pa_cons (pv 1) pa_nil)) (pe_callB (r := rLenQ K) cr_lenQ (by rfl) T.n_len (by decide +kernel) (pa_cons (pv 0) pa_nil))) (fun _ _ => rfl)))) pss_nil) (pss_cons (ps_set (i := 3) sc_law_pool.nd rfl (by first | exact Or.inl rfl | exact Or.inr rfl) (pe_op op_mod (pe_op op_mul (pe_callTy cr_int (by rfl) T.n_int (by decide +kernel) (pa_cons (pe_op op_add (pe_op op_add (pe_op op_mod (pe_callTy cr_int (by rfl) T.n_int (by decide +kernel) (pa_cons (pv 2) pa_nil)) pe_int) (pe_op op_mul pe_int (pv 1))) pe_int) pa_nil)) pe_int) pe_int)) (pss_one (ps_ret (pe_lst (pa_cons (pe_op op_mul (pv 2) (pe_callTy cr_int (by rfl) T.n_int (by decide +kernel) (pa_cons (pe_cmpR op_ge (pv 2) (pe_op op_pow pe_int pe_int) (nomark _)) pa_nil))) (pa_cons (pv 3) pa_nil))))))))), ?_⟩
    have S : Sx P0 F0 H0 F0 H0 := Sx.refl0 hE
    unfold m_law_pool at hm
    obtain ⟨t1, e2, hm⟩ := bd_some hm
    refine rd_seq ?_
    refine rd_asg ?_
    refine rd_c ?_
    refine rd_gn ?_
    refine rd_cut (fun σ' H' => ∃ (F : Hp) (o3 : Option V), σ' = [some v__law_script, some (V.int (a__law_k)), some (V.int (t1)), o3] ∧ Sx P0 F0 H0 F H') ?_ ?_
    · skip
      have S3 := Sx.refl0 S.sub
      refine rd_ifS ?_
      refine rd_test ?_
      refine rd_op ?_
      refine rd_v rfl ?_
      refine rd_lst ?_
      refine rd_nil ?_
      refine rd_lK rfl ?_
      refine alL (K := K) (A := qI) (xs := ([] : List Int)) S3 .nil (fun v4 F5 H6 c7 f8 => ?_)
      have S9 := S3.call0 c7
      have f__law_script := qC.mono c7.le f__law_script
      obtain ⟨g10, e2⟩ := gd_some e2
      obtain ⟨g11, e2⟩ := gd_some e2
      refine rd_neD (D := (dL dI)) (S9.cd f__law_script) (S9.d (dL dI) f8) g10 g11 ?_
      refine rd_b ?_
      refine if_b e2 (fun b12 e2 => ?_) (fun b12 e2 => ?_)
      · skip
        obtain ⟨g13, e2⟩ := gd_some e2
        obtain ⟨t14, e15, e2⟩ := bd_some e2
        refine rd_asg ?_
        refine rd_op ?_
        refine rd_v rfl ?_
        refine rd_op ?_
        refine rd_cb ?_
        refine rd_cons ?_
        refine rd_v rfl ?_
        refine rd_nil ?_
        refine rd_intI ?_
        refine rd_cb ?_
        refine rd_cons ?_
        refine rd_v rfl ?_
        refine rd_nil ?_
        refine rd_lenQ (S9.c f__law_script).q ?_
        refine rd_I (modOk_of g13) ?_
        refine rd_ixL (S9.c f__law_script) e15 (fun u16 f17 => ?_)
        cases (show u16 = (V.int (t14)) from f17)
        cases e2
        refine rd_gn ?_
        exact ⟨F5, _, rfl, S9⟩
      · skip
        cases e2
        refine rd_next ?_
        exact ⟨F5, _, rfl, S9⟩
    · skip
      rintro σ19 H18 ⟨F20, o22, rfl, S21⟩
      have S23 := S.call0 S21
      have f__law_script := qC.mono S21.le f__law_script
      obtain ⟨g24, hm⟩ := gd_some hm
      obtain ⟨g25, hm⟩ := gd_some hm
      obtain ⟨g26, hm⟩ := gd_some hm
      obtain ⟨g27, hm⟩ := gd_some hm
      obtain ⟨g28, hm⟩ := gd_some hm
      obtain ⟨g29, hm⟩ := gd_some hm
      refine rd_seq ?_
      refine rd_asg ?_
      refine rd_op ?_
      refine rd_op ?_
      refine rd_cb ?_
      refine rd_cons ?_
      refine rd_op ?_
      refine rd_op ?_
      refine rd_op ?_
      refine rd_cb ?_
      refine rd_cons ?_
      refine rd_v rfl ?_
      refine rd_nil ?_
      refine rd_intI ?_
      refine rd_c ?_
      refine rd_I (modOk_of g24) ?_
      refine rd_op ?_
      refine rd_c ?_
      refine rd_v rfl ?_
      refine rd_I (mulOk_of g25) ?_
      refine rd_I0 ?_
      refine rd_c ?_
      refine rd_I0 ?_
      refine rd_nil ?_
      refine rd_intI ?_
      refine rd_c ?_
      refine rd_I (mulOk_of g26) ?_
      refine rd_c ?_
      refine rd_I (modOk_of g27) ?_
      refine rd_gn ?_
      refine rd_ret ?_
      refine rd_lst ?_
      refine rd_cons ?_
      refine rd_op ?_
      refine rd_v rfl ?_
      refine rd_cb ?_
      refine rd_cons ?_
      refine rd_op ?_
      refine rd_v rfl ?_
      refine rd_op ?_
      refine rd_c ?_
      refine rd_c ?_
      refine rd_I (powOk_of g28) ?_
      refine rd_I0 ?_
      refine rd_nil ?_
      refine rd_intB ?_
      refine rd_I (mulOk_of g29) ?_
      refine rd_cons ?_
      refine rd_v rfl ?_
      refine rd_nil ?_
      refine rd_lK rfl ?_
      refine al S23 (fun p30 H31 np32 c33 w34 => ?_)
      have z35 := S23.free0 np32
      have S36 := S23.call0 c33
      have f__law_script := qC.mono c33.le f__law_script
      cases hm
      exact hQ _ _ _ z35 S36 ⟨w34.fr, w34.at_, .inr rfl⟩
def sp_law_take (K : PySem.W.Frag) : Sp := fun vs H Q _ => ∃ (F : Hp) (p__law_pool_here : Addr) (a__law_pool_here : Int × Int) (a__law_many : Int) (r : (Int × (Int × Int))), vs = [.ref p__law_pool_here, (V.int (a__law_many))] ∧ Same F H ∧ Ow (fun a => a = p__law_pool_here) H F H p__law_pool_here (.lst [.int a__law_pool_here.1, .int a__law_pool_here.2]) ∧ m_law_take a__law_pool_here a__law_many = some r ∧ ∀ v F' H', Sx (fun a => a = p__law_pool_here) F H F' H' → Ow (fun a => a = p__law_pool_here) H F' H' p__law_pool_here (.lst [.int r.2.1, .int r.2.2]) → qI.r K F' v r.1 → Q v H'
theorem sc_law_take : FnScope ["_law_pool_here", "_law_many", "_law_digit"] ["_law_pool_here", "_law_many"] (defScope s_law_take) := ⟨rfl, rfl, rfl, by decide +kernel, rfl, by decide +kernel, by decide +kernel⟩
theorem bn_law_take (T : Tx K mg) : Binds K (fdOf K ("_law_take", none)) ["_law_pool_here", "_law_many"] [] := FunD.bindsN T.F__law_take fun _ _ _ _ _ _ us hl => match us, hl with | [_, _], _ => rfl
theorem ok_law_take (T : Tx K mg) : FnOk P w K mg base CX0 1 (He.ga K "_law_take") (fdOf K ("_law_take", none)) ["_law_pool_here", "_law_many"] (sp_law_take K) := by
  refine FunD.ok T.F__law_take sc_law_take (fun vs H0 Q E h => ?_) (fun cdv A outer s H0 vs Q E hr h => ?_)
  · obtain ⟨_, _, _, _, _, rfl, _⟩ := h
    rfl
  · obtain ⟨F0, p__law_pool_here, a__law_pool_here, a__law_many, r, rfl, hE, w__law_pool_here, hm, hQ⟩ := h
    refine ⟨_, PSs.nox ((pss_cons (ps_if (pt_cmpR op_gt (pe_ix (r := rIxL K) ix_list (pv 0) pe_int (fun _ _ => rfl)) pe_int (nomark _)) (pss_cons (ps_set (i := 2) sc_law_take.nd rfl (by first | exact Or.inl rfl | exact Or.inr rfl) (pe_op op_mod (pe_callTy cr_int (by rfl) T.n_int (by decide +kernel) (pa_cons (pe_ix (r := rIxL K) ix_list (pv 0) pe_int (fun _ _ => rfl)) pa_nil)) (pv 1))) (pss_cons (ps_asg (pe_op op_fdiv (pe_ix (r := rIxL K) ix_list (pv 0) pe_int (fun _ _ => rfl)) (pv 1)) (pg_sub (pv 0) pe_int set_list)) (pss_one (ps_ret (pv 2))))) pss_nil) (pss_cons (ps_asg (pe_op op_mod (pe_callTy cr_int (by rfl) T.n_int (by decide +kernel) (pa_cons (pe_op op_add (pe_op op_mul (pe_ix (r := rIxL K) ix_list (pv 0) pe_int (fun _ _ => rfl)) pe_int) pe_int) pa_nil)) pe_int) (pg_sub (pv 0) pe_int set_list)) (pss_one (ps_ret (pe_op op_mod (pe_callTy cr_int (by rfl) T.n_int (by decide +kernel) (pa_cons (pe_op op_fdiv (pe_op op_mod (pe_callTy cr_int (by rfl) T.n_int (by decide +kernel) (pa_cons (pe_op op_mul (pe_ix (r := rIxL K) ix_list (pv 0) pe_int (fun _ _ => rfl)) (pe_ix (r := rIxL K) ix_list (pv 0) pe_int (fun _ _ => rfl))) pa_nil)) pe_int) pe_int) pa_nil)) (pv 1))))))), ?_⟩
    have S : Sx (fun a => a = p__law_pool_here) F0 H0 F0 H0 := Sx.refl hE (live1 w__law_pool_here)
    unfold m_law_take at hm
    refine rd_seq ?_
    refine rd_ifS ?_
    refine rd_test ?_
    refine rd_op ?_
    refine rd_op ?_
    refine rd_v rfl ?_
    refine rd_c ?_
    refine pool0 w__law_pool_here ?_
    refine rd_c ?_
    refine rd_I0 ?_
    refine rd_b ?_
    refine if_b hm (fun b1 hm => ?_) (fun b1 hm => ?_)
    · skip
      obtain ⟨g2, hm⟩ := gd_some hm
      obtain ⟨g3, hm⟩ := gd_some hm
      refine rd_seq ?_
      refine rd_asg ?_
      refine rd_op ?_
      refine rd_cb ?_
      refine rd_cons ?_
      refine rd_op ?_
      refine rd_v rfl ?_
      refine rd_c ?_
      refine pool0 w__law_pool_here ?_
      refine rd_nil ?_
      refine rd_intI ?_
      refine rd_v rfl ?_
      refine rd_I (modOk_of g2) ?_
      refine rd_gn ?_
      refine rd_seq ?_
      refine rd_asg ?_
      refine rd_op ?_
      refine rd_op ?_
      refine rd_v rfl ?_
      refine rd_c ?_
      refine pool0 w__law_pool_here ?_
      refine rd_v rfl ?_
      refine rd_I (divOk_of g3) ?_
      refine rd_gsub ?_
      refine rd_v rfl ?_
      refine rd_c ?_
      refine pset0 S w__law_pool_here (fun H4 c5 w6 => ?_)
      have S7 := S.call1 c5 w__law_pool_here
      cases hm
      refine rd_ret ?_
      refine rd_v rfl ?_
      exact hQ _ _ _ S7 w6 rfl
    · skip
      obtain ⟨g8, hm⟩ := gd_some hm
      obtain ⟨g9, hm⟩ := gd_some hm
      refine rd_next ?_
      refine rd_seq ?_
      refine rd_asg ?_
      refine rd_op ?_
      refine rd_cb ?_
      refine rd_cons ?_
      refine rd_op ?_
      refine rd_op ?_
      refine rd_op ?_
      refine rd_v rfl ?_
      refine rd_c ?_
      refine pool1 w__law_pool_here ?_
      refine rd_c ?_
      refine rd_I (mulOk_of g8) ?_
      refine rd_c ?_
      refine rd_I0 ?_
      refine rd_nil ?_
      refine rd_intI ?_
      refine rd_c ?_
      refine rd_I (modOk_of g9) ?_
      refine rd_gsub ?_
      refine rd_v rfl ?_
      refine rd_c ?_
      refine pset1 S w__law_pool_here (fun H10 c11 w12 => ?_)
      have S13 := S.call1 c11 w__law_pool_here
      obtain ⟨g14, hm⟩ := gd_some hm
      obtain ⟨g15, hm⟩ := gd_some hm
      obtain ⟨g16, hm⟩ := gd_some hm
      obtain ⟨g17, hm⟩ := gd_some hm
      cases hm
      refine rd_ret ?_
      refine rd_op ?_
      refine rd_cb ?_
      refine rd_cons ?_
      refine rd_op ?_
      refine rd_op ?_
      refine rd_cb ?_
      refine rd_cons ?_
      refine rd_op ?_
      refine rd_op ?_
      refine rd_v rfl ?_
      refine rd_c ?_
      refine pool1 w12 ?_
      refine rd_op ?_
      refine rd_v rfl ?_
      refine rd_c ?_
      refine pool1 w12 ?_
      refine rd_I (mulOk_of g14) ?_
      refine rd_nil ?_
      refine rd_intI ?_
      refine rd_c ?_
      refine rd_I (modOk_of g15) ?_
      refine rd_c ?_
      refine rd_I (divOk_of g16) ?_
      refine rd_nil ?_
      refine rd_intI ?_
      refine rd_v rfl ?_
      refine rd_I (modOk_of g17) ?_
      exact hQ _ _ _ S13 w12 rfl
def sp_law_all_signs (K : PySem.W.Frag) : Sp := fun vs H Q _ => ∃ (F : Hp)  (r : Str), vs = [] ∧ Same F H ∧ m_law_all_signs = some r ∧ ∀ v F' H', Sx P0 F H F' H' → qS.r K F' v r → Q v H'
theorem sc_law_all_signs : FnScope [] [] (defScope s_law_all_signs) := ⟨rfl, rfl, rfl, by decide +kernel, rfl, by decide +kernel, by decide +kernel⟩
theorem bn_law_all_signs (T : Tx K mg) : Binds K (fdOf K ("_law_all_signs", none)) [] [] := FunD.bindsN T.F__law_all_signs fun _ _ _ _ _ _ us hl => match us, hl with | [], _ => rfl
theorem ok_law_all_signs (T : Tx K mg) : FnOk P w K mg base CX0 1 (He.ga K "_law_all_signs") (fdOf K ("_law_all_signs", none)) [] (sp_law_all_signs K) := by
  refine FunD.ok T.F__law_all_signs sc_law_all_signs (fun vs H0 Q E h => ?_) (fun cdv A outer s H0 vs Q E hr h => ?_)
  · obtain ⟨_, _, rfl, _⟩ := h
    rfl
  · obtain ⟨F0, r, rfl, hE, hm, hQ⟩ := h
    refine ⟨_, PSs.nox ((pss_one (ps_ret pe_str))), ?_⟩
    have S : Sx P0 F0 H0 F0 H0 := Sx.refl0 hE
    unfold m_law_all_signs at hm
    cases hm
    refine rd_ret ?_
    refine rd_c ?_
    exact hQ _ _ _ S rfl
def sp_law_any (K : PySem.W.Frag) : Sp := fun vs H Q _ => ∃ (F : Hp)  (r : Str), vs = [] ∧ Same F H ∧ m_law_any = some r ∧ ∀ v F' H', Sx P0 F H F' H' → qS.r K F' v r → Q v H'
theorem sc_law_any : FnScope ["_law_some"] [] (defScope s_law_any) := ⟨rfl, rfl, rfl, by decide +kernel, rfl, by decide +kernel, by decide +kernel⟩
theorem bn_law_any (T : Tx K mg) : Binds K (fdOf K ("_law_any", none)) [] [] := FunD.bindsN T.F__law_any fun _ _ _ _ _ _ us hl => match us, hl with | [], _ => rfl
theorem ok_law_any (T : Tx K mg) : FnOk P w K mg base CX0 1 (He.ga K "_law_any") (fdOf K ("_law_any", none)) [] (sp_law_any K) := by
  refine FunD.ok T.F__law_any sc_law_any (fun vs H0 Q E h => ?_) (fun cdv A outer s H0 vs Q E hr h => ?_)
  · obtain ⟨_, _, rfl, _⟩ := h
    rfl
  · obtain ⟨F0, r, rfl, hE, hm, hQ⟩ := h
    refine ⟨_, PSs.nox ((pss_cons (ps_set (i := 0) sc_law_any.nd rfl (by first | exact Or.inl rfl | exact Or.inr rfl) pe_str) (pss_one (ps_ret (pe_op op_catS (pv 0) pe_str))))), ?_⟩
    have S : Sx P0 F0 H0 F0 H0 := Sx.refl0 hE
    unfold m_law_any at hm
    obtain ⟨g1, hm⟩ := gd_some hm
    cases hm
    refine rd_seq ?_
    refine rd_asg ?_
    refine rd_c ?_
    refine rd_gn ?_
    refine rd_ret ?_
    refine rd_op ?_
    refine rd_v rfl ?_
    refine rd_c ?_
    refine rd_catS g1 ?_
    exact hQ _ _ _ S rfl
def sp_law_drawn (K : PySem.W.Frag) : Sp := fun vs H Q _ => ∃ (F : Hp) (p__law_pool_here : Addr) (a__law_pool_here : Int × Int) (r : (Str × (Int × Int))), vs = [.ref p__law_pool_here] ∧ Same F H ∧ Ow (fun a => a = p__law_pool_here) H F H p__law_pool_here (.lst [.int a__law_pool_here.1, .int a__law_pool_here.2]) ∧ m_law_drawn a__law_pool_here = some r ∧ ∀ v F' H', Sx (fun a => a = p__law_pool_here) F H F' H' → Ow (fun a => a = p__law_pool_here) H F' H' p__law_pool_here (.lst [.int r.2.1, .int r.2.2]) → qS.r K F' v r.1 → Q v H'
theorem sc_law_drawn : FnScope ["_law_pool_here", "_law_style", "_law_text", "_law_k"] ["_law_pool_here"] (defScope s_law_drawn) := ⟨rfl, rfl, rfl, by decide +kernel, rfl, by decide +kernel, by decide +kernel⟩
theorem bn_law_drawn (T : Tx K mg) : Binds K (fdOf K ("_law_drawn", none)) ["_law_pool_here"] [] := FunD.bindsN T.F__law_drawn fun _ _ _ _ _ _ us hl => match us, hl with | [_], _ => rfl
theorem ok_law_drawn (T : Tx K mg) : FnOk P w K mg base CX0 2 (He.ga K "_law_drawn") (fdOf K ("_law_drawn", none)) ["_law_pool_here"] (sp_law_drawn K) := by
  refine FunD.ok T.F__law_drawn sc_law_drawn (fun vs H0 Q E h => ?_) (fun cdv A outer s H0 vs Q E hr h => ?_)
  · obtain ⟨_, _, _, _, rfl, _⟩ := h
    rfl
  · obtain ⟨F0, p__law_pool_here, a__law_pool_here, r, rfl, hE, w__law_pool_here, hm, hQ⟩ := h
    refine ⟨_, PSs.nox ((pss_cons (ps_set (i := 1) sc_law_drawn.nd rfl (by first | exact Or.inl rfl | exact Or.inr rfl) (pe_call (ok_law_take T) (hr.mono (by decide)) (by rfl) T.g__law_take T.F__law_take.kp (bn_law_take T) .nil pass0 (pa_cons (pv 0) (pa_cons pe_int pa_nil)))) (pss_cons (ps_set (i := 2) sc_law_drawn.nd rfl (by first | exact Or.inl rfl | exact Or.inr rfl) pe_str) (pss_cons (ps_for PassesOwn.never rfl (pi_range1 (by rfl) T.n_range (pa_cons (pe_call (ok_law_take T) (hr.mono (by decide)) (by rfl) T.g__law_take T.F__law_take.kp (bn_law_take T) .nil pass0 (pa_cons (pv 0) (pa_cons pe_int pa_nil))) pa_nil)) (pg_name (i := 3) sc_law_drawn.nd rfl (by first | exact Or.inl rfl | exact Or.inr rfl)) (pss_one (ps_if (PW.pt (pw_or (pt_cmpR op_eqI (pv 1) pe_int (nomark _)) (pw_or1 (PW.pt (pw_and (pt_cmpR op_eqI (pv 1) pe_int (nomark _)) (pw_and1 (pt_cmpR op_eqI (pe_call (ok_law_take T) (hr.mono (by decide)) (by rfl) T.g__law_take T.F__law_take.kp (bn_law_take T) .nil pass0 (pa_cons (pv 0) (pa_cons pe_int pa_nil))) pe_int (nomark _)))))))) (pss_one (ps_set (i := 2) sc_law_drawn.nd rfl (by first | exact Or.inl rfl | exact Or.inr rfl) (pe_op op_catS (pv 2) (pe_ix ix_str (pe_call0 (ok_law_any T) (hr.mono (by decide)) (by rfl) T.g__law_any T.F__law_any.kp (bn_law_any T) .nil pass0) (pe_call (ok_law_take T) (hr.mono (by decide)) (by rfl) T.g__law_take T.F__law_take.kp (bn_law_take T) .nil pass0 (pa_cons (pv 0) (pa_cons pe_int pa_nil))) (fun _ _ => rfl))))) (pss_one (ps_set (i := 2) sc_law_drawn.nd rfl (by first | exact Or.inl rfl | exact Or.inr rfl) (pe_op op_catS (pv 2) (pe_ix ix_str (pe_call0 (ok_law_all_signs T) (hr.mono (by decide)) (by rfl) T.g__law_all_signs T.F__law_all_signs.kp (bn_law_all_signs T) .nil pass0) (pe_call (ok_law_take T) (hr.mono (by decide)) (by rfl) T.g__law_take T.F__law_take.kp (bn_law_take T) .nil pass0 (pa_cons (pv 0) (pa_cons pe_int pa_nil))) (fun _ _ => rfl)))))))) (pss_one (ps_ret (pv 2))))))), ?_⟩
    have S : Sx (fun a => a = p__law_pool_here) F0 H0 F0 H0 := Sx.refl hE (live1 w__law_pool_here)
    unfold m_law_drawn at hm
    obtain ⟨t1, e2, hm⟩ := bd_some hm
    refine rd_seq ?_
    refine rd_asg ?_
    refine rd_call ?_
    refine rd_cons ?_
    refine rd_v rfl ?_
    refine rd_cons ?_
    refine rd_c ?_
    refine rd_nil ?_
    refine ⟨F0, _, _, _, t1, rfl, S.sub, w__law_pool_here.arg, e2, fun v6 F3 H4 c5 w8 f7 => ?_⟩
    have S9 := S.call1 c5 w__law_pool_here
    have w10 := w__law_pool_here.back w8
    cases (show v6 = (V.int (t1.1)) from f7)
    obtain ⟨t11, e12, hm⟩ := bd_some hm
    refine rd_gn ?_
    refine rd_seq ?_
    refine rd_asg ?_
    refine rd_c ?_
    refine rd_gn ?_
    refine rd_seq ?_
    refine rd_for ?_
    refine rd_iR1 ?_
    refine rd_cons ?_
    refine rd_call ?_
    refine rd_cons ?_
    refine rd_v rfl ?_
    refine rd_cons ?_
    refine rd_c ?_
    refine rd_nil ?_
    refine ⟨F3, _, _, _, t11, rfl, S9.sub, w10.arg, e12, fun v16 F13 H14 c15 w18 f17 => ?_⟩
    have S19 := S9.call1 c15 w10
    have w20 := w10.back w18
    cases (show v16 = (V.int (t11.1)) from f17)
    obtain ⟨g21, hm⟩ := gd_some hm
    refine rd_nil ?_
    refine rd_r1 g21 ?_
    obtain ⟨t22, e23, hm⟩ := bd_some hm
    refine rd_forS feedsRg (typedR (K := K) (F := F13)) e23 (fun (s24 : ((Int × Int) × Str)) σ H => ∃ (F : Hp) (o3 : Option V), σ = [some (V.ref p__law_pool_here), some (V.int (t1.1)), some (V.str (s24.2)), o3] ∧ Sx (fun a => a = p__law_pool_here) F13 H14 F H ∧ Ow (fun a => a = p__law_pool_here) H14 F H p__law_pool_here (.lst [V.int s24.1.1, V.int s24.1.2])) ?_ ?_ ?_ ?_
    · intro _ _ _ _; trivial
    · skip
      have S26 : Sx (fun a => a = p__law_pool_here) _ _ _ _ := Sx.refl S19.sub (fun a z => by rw [z, w20.at_]; exact (fun h => nomatch h))
      have w27 : Ow (fun a => a = p__law_pool_here) H14 _ _ _ _ := ⟨w20.fr, w20.at_, .inr (rfl)⟩
      exact ⟨F13, _, rfl, S26, w27⟩
    · skip
      rintro x28 v29 s30 c34 σ31 H32 f33 ⟨F35, o37, rfl, S36, w38⟩ hm41
      unfold m_law_drawn_b1 at hm41
      cases (show v29 = (V.int (x28)) from f33)
      obtain ⟨t78, e79, hm41⟩ := bd_some hm41
      refine rd_gn ?_
      refine rd_ifS ?_
      refine rd_or ?_
      refine rd_test ?_
      refine rd_op ?_
      refine rd_v rfl ?_
      refine rd_c ?_
      refine rd_I0 ?_
      refine rd_b ?_
      refine or_j (fun c H' => c = t78.1 ∧ ∃ F', Sx (fun a => a = p__law_pool_here) F35 H32 F' H' ∧ Ow (fun a => a = p__law_pool_here) H32 F' H' p__law_pool_here (.lst [V.int t78.2.1, V.int t78.2.2])) ?_ ?_ ?_
      · intro b80 Q81 q82
        have e79 := if_f e79 b80
        have S83 : Sx (fun a => a = p__law_pool_here) _ _ _ _ := Sx.refl S36.sub (fun a z => by rw [z, w38.at_]; exact (fun h => nomatch h))
        have w84 : Ow (fun a => a = p__law_pool_here) H32 _ _ _ _ := ⟨w38.fr, w38.at_, .inr (rfl)⟩
        obtain ⟨t95, e96, e79⟩ := bd_some e79
        refine rd_and ?_
        refine rd_test ?_
        refine rd_op ?_
        refine rd_v rfl ?_
        refine rd_c ?_
        refine rd_I0 ?_
        refine rd_b ?_
        refine and_j (fun c H' => c = t95.1 ∧ ∃ F', Sx (fun a => a = p__law_pool_here) F35 H32 F' H' ∧ Ow (fun a => a = p__law_pool_here) H32 F' H' p__law_pool_here (.lst [V.int t95.2.1, V.int t95.2.2])) ?_ ?_ ?_
        · intro b97 Q98 q99
          have e96 := if_t e96 b97
          have S100 : Sx (fun a => a = p__law_pool_here) _ _ _ _ := Sx.refl S83.sub (fun a z => by rw [z, w84.at_]; exact (fun h => nomatch h))
          have w101 : Ow (fun a => a = p__law_pool_here) H32 _ _ _ _ := ⟨w84.fr, w84.at_, .inr (rfl)⟩
          obtain ⟨t102, e103, e96⟩ := bd_some e96
          refine rd_test ?_
          refine rd_op ?_
          refine rd_call ?_
          refine rd_cons ?_
          refine rd_v rfl ?_
          refine rd_cons ?_
          refine rd_c ?_
          refine rd_nil ?_
          refine ⟨F35, _, _, _, t102, rfl, S100.sub, w101.arg, e103, fun v107 F104 H105 c106 w109 f108 => ?_⟩
          have S110 := S100.call1 c106 w101
          have w111 := w101.back w109
          cases (show v107 = (V.int (t102.1)) from f108)
          cases e96
          refine rd_c ?_
          refine rd_I0 ?_
          refine rd_b ?_
          exact q99 _ _ ⟨rfl, F104, S110, w111⟩
        · intro b97
          have e96 := if_f e96 b97
          cases e96
          have S112 : Sx (fun a => a = p__law_pool_here) _ _ _ _ := Sx.refl S83.sub (fun a z => by rw [z, w84.at_]; exact (fun h => nomatch h))
          have w113 : Ow (fun a => a = p__law_pool_here) H32 _ _ _ _ := ⟨w84.fr, w84.at_, .inr (rfl)⟩
          exact ⟨rfl, F35, S112, w113⟩
        rintro b117 H115 ⟨rfl, F114, c116, w118⟩
        have S119 := S83.call1 c116 w84
        have w120 : Ow (fun a => a = p__law_pool_here) H32 _ _ _ _ := ⟨w118.fr, w118.at_, w84.mine⟩
        cases e79
        exact q82 _ _ ⟨rfl, F114, S119, w120⟩
      · intro b80
        have e79 := if_t e79 b80
        cases e79
        have S121 : Sx (fun a => a = p__law_pool_here) _ _ _ _ := Sx.refl S36.sub (fun a z => by rw [z, w38.at_]; exact (fun h => nomatch h))
        have w122 : Ow (fun a => a = p__law_pool_here) H32 _ _ _ _ := ⟨w38.fr, w38.at_, .inr (rfl)⟩
        exact ⟨rfl, F35, S121, w122⟩
      rintro b126 H124 ⟨rfl, F123, c125, w127⟩
      have S128 := S36.call1 c125 w38
      have w129 : Ow (fun a => a = p__law_pool_here) H14 _ _ _ _ := ⟨w127.fr, w127.at_, w38.mine⟩
      refine if_b hm41 (fun b130 hm41 => ?_) (fun b130 hm41 => ?_)
      · skip
        obtain ⟨t131, e132, hm41⟩ := bd_some hm41
        refine rd_asg ?_
        refine rd_op ?_
        refine rd_v rfl ?_
        refine rd_op ?_
        refine rd_call ?_
        refine rd_nil ?_
        refine ⟨F123, t131, rfl, S128.sub, e132, fun v136 F133 H134 c135 f137 => ?_⟩
        have S138 := S128.call0 c135
        have w129 := w129.call0 c135
        cases (show v136 = (V.str (t131)) from f137)
        obtain ⟨t139, e140, hm41⟩ := bd_some hm41
        refine rd_call ?_
        refine rd_cons ?_
        refine rd_v rfl ?_
        refine rd_cons ?_
        refine rd_c ?_
        refine rd_nil ?_
        refine ⟨F133, _, _, _, t139, rfl, S138.sub, w129.arg, e140, fun v144 F141 H142 c143 w146 f145 => ?_⟩
        have S147 := S138.call1 c143 w129
        have w148 := w129.back w146
        cases (show v144 = (V.int (t139.1)) from f145)
        obtain ⟨t149, e150, hm41⟩ := bd_some hm41
        obtain ⟨g151, hm41⟩ := gd_some hm41
        cases hm41
        refine rd_ixS e150 ?_
        refine rd_catS g151 ?_
        refine rd_gn ?_
        exact ⟨F141, _, rfl, S147, w148⟩
      · skip
        obtain ⟨t152, e153, hm41⟩ := bd_some hm41
        refine rd_asg ?_
        refine rd_op ?_
        refine rd_v rfl ?_
        refine rd_op ?_
        refine rd_call ?_
        refine rd_nil ?_
        refine ⟨F123, t152, rfl, S128.sub, e153, fun v157 F154 H155 c156 f158 => ?_⟩
        have S159 := S128.call0 c156
        have w129 := w129.call0 c156
        cases (show v157 = (V.str (t152)) from f158)
        obtain ⟨t160, e161, hm41⟩ := bd_some hm41
        refine rd_call ?_
        refine rd_cons ?_
        refine rd_v rfl ?_
        refine rd_cons ?_
        refine rd_c ?_
        refine rd_nil ?_
        refine ⟨F154, _, _, _, t160, rfl, S159.sub, w129.arg, e161, fun v165 F162 H163 c164 w167 f166 => ?_⟩
        have S168 := S159.call1 c164 w129
        have w169 := w129.back w167
        cases (show v165 = (V.int (t160.1)) from f166)
        obtain ⟨t170, e171, hm41⟩ := bd_some hm41
        obtain ⟨g172, hm41⟩ := gd_some hm41
        cases hm41
        refine rd_ixS e171 ?_
        refine rd_catS g172 ?_
        refine rd_gn ?_
        exact ⟨F162, _, rfl, S168, w169⟩
    · skip
      rintro σ173 H174 ⟨F175, o177, rfl, S176, w178⟩
      have S179 := S19.call1 S176 w20
      have w180 : Ow (fun a => a = p__law_pool_here) H0 _ _ _ _ := ⟨w178.fr, w178.at_, w20.mine⟩
      cases hm
      refine rd_ret ?_
      refine rd_v rfl ?_
      exact hQ _ _ _ S179 w180 rfl
def sp_law (K : PySem.W.Frag) : Sp := fun vs H Q _ => ∃ (F : Hp) (v__law_script : V) (a__law_script : List Int) (r : Bool), vs = [v__law_script] ∧ Same F H ∧ qC.r K F v__law_script a__law_script ∧ m_law a__law_script = some r ∧ ∀ v F' H', Sx P0 F H F' H' → qB.r K F' v r → Q v H'
theorem sc_law : FnScope ["_law_script", "_law_thing", "_law_k", "_law_text", "_law_due", "_law_sign"] ["_law_script"] (defScope s_law) := ⟨rfl, rfl, rfl, by decide +kernel, rfl, by decide +kernel, by decide +kernel⟩
theorem bn_law (T : Tx K mg) : Binds K (fdOf K ("law", none)) ["_law_script"] [] := FunD.bindsN T.F_law fun _ _ _ _ _ _ us hl => match us, hl with | [_], _ => rfl
theorem ok_law (T : Tx K mg) : FnOk P w K mg base CX0 3 (He.ga K "law") (fdOf K ("law", none)) ["_law_script"] (sp_law K) := by
  refine FunD.ok T.F_law sc_law (fun vs H0 Q E h => ?_) (fun cdv A outer s H0 vs Q E hr h => ?_)
  · obtain ⟨_, _, _, _, rfl, _⟩ := h
    rfl
  · obtain ⟨F0, v__law_script, a__law_script, r, rfl, hE, f__law_script, hm, hQ⟩ := h
    refine ⟨_, PSs.nox ((pss_cons (ps_if (PW.pt (pw_or (pt_cmpR op_neS (pe_glob (v := V.str " #-.0123456789:>ABCDEFGHIJKLMNOPQRSTUVWXYZabcdefghijklmnopqrstuvwxyz") (by rfl) (T.k_SIGNS.choose_spec) ⟨_, rfl⟩) (pe_call0 (ok_law_all_signs T) (hr.mono (by decide)) (by rfl) T.g__law_all_signs T.F__law_all_signs.kp (bn_law_all_signs T) .nil pass0) (nomark _)) (pw_or1 (pt_cmpR op_neI (pe_callB cr_lenS (by rfl) T.n_len (by decide +kernel) (pa_cons (pe_glob (v := V.str " #-.0123456789:>ABCDEFGHIJKLMNOPQRSTUVWXYZabcdefghijklmnopqrstuvwxyz") (by rfl) (T.k_SIGNS.choose_spec) ⟨_, rfl⟩) pa_nil)) pe_int (nomark _))))) (pss_one (ps_ret pe_bl)) pss_nil) (pss_cons (ps_for PassesOwn.never rfl (pi_list (pe_lst (pa_cons pe_non (pa_cons pe_int (pa_cons pe_int (pa_cons pe_bl (pa_cons pe_bl (pa_cons (pe_lst pa_nil) (pa_cons (pe_lst (pa_cons pe_str pa_nil)) (pa_cons (pe_tup (pa_cons pe_str pa_nil)) (pa_cons pe_dnewK (pa_cons pe_str pa_nil)))))))))))) (pg_name (i := 1) sc_law.nd rfl (by first | exact Or.inl rfl | exact Or.inr rfl)) (pss_one (ps_if (pt_cmpR op_isnotB (pe_call (ok_is_line T) (hr.mono (by decide)) (by rfl) T.g_is_line T.F_is_line.kp (bn_is_line T) .nil pass0 (pa_cons (pv 1) pa_nil)) pe_bl (nomark _)) (pss_one (ps_ret pe_bl)) pss_nil))) (pss_cons (ps_for PassesOwn.never rfl (pi_range1 (by rfl) T.n_range (pa_cons (pe_callB (cr_max2 rfl) (by rfl) T.n_max (by decide +kernel) (pa_cons pe_int (pa_cons (pe_callB (cr_min2 rfl) (by rfl) T.n_min (by decide +kernel) (pa_cons pe_int (pa_cons (pe_callB (r := rLenQ K) cr_lenQ (by rfl) T.n_len (by decide +kernel) (pa_cons (pv 0) pa_nil)) pa_nil))) pa_nil))) pa_nil)) (pg_name (i := 2) sc_law.nd rfl (by first | exact Or.inl rfl | exact Or.inr rfl)) (pss_cons (ps_set (i := 3) sc_law.nd rfl (by first | exact Or.inl rfl | exact Or.inr rfl) (pe_call (ok_law_drawn T) (hr.mono (by decide)) (by rfl) T.g__law_drawn T.F__law_drawn.kp (bn_law_drawn T) .nil pass0 (pa_cons (pe_call (ok_law_pool T) (hr.mono (by decide)) (by rfl) T.g__law_pool T.F__law_pool.kp (bn_law_pool T) .nil pass0 (pa_cons (pv 0) (pa_cons (pv 2) pa_nil))) pa_nil))) (pss_cons (ps_set (i := 4) sc_law.nd rfl (by first | exact Or.inl rfl | exact Or.inr rfl) (pe_and (pe_cmpR op_neS (pv 3) pe_str (nomark _)) (pe_one (pe_cmpR (r := rEqD K) (op_eqD hr.units) (pe_lc (own := [("_law_sign", 5)]) rfl sc_law.nd (pi_str (pv 3)) (blkOk_by (N := ["_law_script", "_law_thing", "_law_k", "_law_text", "_law_due", "_law_sign"]) (sc := defScope s_law) (by decide +kernel)) (fun _ _ _ _ _ => pg_name (i := 5) sc_law.nd rfl (Or.inl rfl)) (fun _ _ _ _ _ => (pts_one (pt_cmpR op_niS (pv 5) (pe_call0 (ok_law_all_signs T) (hr.mono (by decide)) (by rfl) T.g__law_all_signs T.F__law_all_signs.kp (bn_law_all_signs T) .nil pass0) rfl))) (fun _ _ _ _ _ => (pv 5))) (pe_lst pa_nil) (nomark _))))) (pss_one (ps_if (PW.pt (pw_or (pt_not (pt_val (pe_callB (r := rIsi K) call_isi (by rfl) T.n_isinstance (by decide +kernel) (pa_cons (pe_call (ok_is_line T) (hr.mono (by decide)) (by rfl) T.g_is_line T.F_is_line.kp (bn_is_line T) .nil pass0 (pa_cons (pv 3) pa_nil)) (pa_cons (pe_bltn (v := V.ty "bool") (by rfl) T.n_bool (by decide +kernel) rfl) pa_nil))))) (pw_or (pt_cmpR op_neB (pe_call (ok_is_line T) (hr.mono (by decide)) (by rfl) T.g_is_line T.F_is_line.kp (bn_is_line T) .nil pass0 (pa_cons (pv 3) pa_nil)) (pv 4) (nomark _)) (pw_or1 (pt_val (pe_call (ok_is_line T) (hr.mono (by decide)) (by rfl) T.g_is_line T.F_is_line.kp (bn_is_line T) .nil pass0 (pa_cons (pe_lst (pa_cons (pv 3) pa_nil)) pa_nil))))))) (pss_one (ps_ret pe_bl)) pss_nil))))) (pss_cons (ps_for PassesOwn.never rfl (pi_str (pe_call0 (ok_law_any T) (hr.mono (by decide)) (by rfl) T.g__law_any T.F__law_any.kp (bn_law_any T) .nil pass0)) (pg_name (i := 5) sc_law.nd rfl (by first | exact Or.inl rfl | exact Or.inr rfl)) (pss_one (ps_if (pt_cmpR op_neB (pe_call (ok_is_line T) (hr.mono (by decide)) (by rfl) T.g_is_line T.F_is_line.kp (bn_is_line T) .nil pass0 (pa_cons (pv 5) pa_nil)) (pe_cmpR op_inS (pv 5) (pe_call0 (ok_law_all_signs T) (hr.mono (by decide)) (by rfl) T.g__law_all_signs T.F__law_all_signs.kp (bn_law_all_signs T) .nil pass0) rfl) (nomark _)) (pss_one (ps_ret pe_bl)) pss_nil))) (pss_one (ps_ret pe_bl))))))), ?_⟩
    have S : Sx P0 F0 H0 F0 H0 := Sx.refl0 hE
    unfold m_law at hm
    obtain ⟨t1, e2, hm⟩ := bd_some hm
    refine rd_seq ?_
    refine rd_ifS ?_
    refine rd_or ?_
    refine rd_test ?_
    refine rd_op ?_
    refine rd_c ?_
    refine rd_call ?_
    refine rd_nil ?_
    refine ⟨F0, t1, rfl, S.sub, e2, fun v6 F3 H4 c5 f7 => ?_⟩
    have S8 := S.call0 c5
    have f__law_script := qC.mono c5.le f__law_script
    cases (show v6 = (V.str (t1)) from f7)
    obtain ⟨t10, e11, hm⟩ := bd_some hm
    refine rd_S0 ?_
    refine rd_b ?_
    refine or_j (fun c H' => c = t10 ∧ ∃ F', Sx P0 F3 H4 F' H') ?_ ?_ ?_
    · intro b12 Q13 q14
      have e11 := if_f e11 b12
      have S15 := Sx.refl0 S8.sub
      obtain ⟨g16, e11⟩ := gd_some e11
      cases e11
      refine rd_test ?_
      refine rd_op ?_
      refine rd_cb ?_
      refine rd_cons ?_
      refine rd_c ?_
      refine rd_nil ?_
      refine rd_lenS g16 ?_
      refine rd_c ?_
      refine rd_I0 ?_
      refine rd_b ?_
      exact q14 _ _ ⟨rfl, F3, S15⟩
    · intro b12
      have e11 := if_t e11 b12
      cases e11
      have S17 := Sx.refl0 S8.sub
      exact ⟨rfl, F3, S17⟩
    rintro b21 H19 ⟨rfl, F18, c20⟩
    have S22 := S8.call0 c20
    have f__law_script := qC.mono c20.le f__law_script
    refine if_b hm (fun b23 hm => ?_) (fun b23 hm => ?_)
    · skip
      cases hm
      refine rd_ret ?_
      refine rd_c ?_
      exact hQ _ _ _ S22 rfl
    · skip
      refine rd_next ?_
      refine rd_seq ?_
      refine rd_for ?_
      refine rd_iL ?_
      refine rd_lst ?_
      refine rd_cons ?_
      refine rd_c ?_
      refine rd_cons ?_
      refine rd_c ?_
      refine rd_cons ?_
      refine rd_c ?_
      refine rd_cons ?_
      refine rd_c ?_
      refine rd_cons ?_
      refine rd_c ?_
      refine rd_cons ?_
      refine rd_lst ?_
      refine rd_nil ?_
      refine rd_lK rfl ?_
      refine alL (K := K) (A := qI) (xs := ([] : List Int)) S22 .nil (fun v24 F25 H26 c27 f28 => ?_)
      have S29 := S22.call0 c27
      have f__law_script := qC.mono c27.le f__law_script
      refine rd_cons ?_
      refine rd_lst ?_
      refine rd_cons ?_
      refine rd_c ?_
      refine rd_nil ?_
      refine rd_lK rfl ?_
      refine alL (K := K) (A := qS) (xs := [("a" : Str)]) S29 (.cons rfl .nil) (fun v30 F31 H32 c33 f34 => ?_)
      have S35 := S29.call0 c33
      have f__law_script := qC.mono c33.le f__law_script
      have f28 := (qL qI).mono c33.le f28
      refine rd_cons ?_
      refine rd_tup ?_
      refine rd_cons ?_
      refine rd_c ?_
      refine rd_nil ?_
      refine rd_uK rfl ?_
      refine alT (K := K) (A := qS) (xs := [("a" : Str)]) S35 (.cons rfl .nil) (fun v36 F37 H38 c39 f40 => ?_)
      have S41 := S35.call0 c39
      have f__law_script := qC.mono c39.le f__law_script
      have f28 := (qL qI).mono c39.le f28
      have f34 := (qL qS).mono c39.le f34
      refine rd_cons ?_
      refine rd_dnew ?_
      refine rd_dict (K := K) S41 (fun v42 F43 H44 c45 f46 => ?_)
      have S47 := S41.call0 c45
      have f__law_script := qC.mono c45.le f__law_script
      have f28 := (qL qI).mono c45.le f28
      have f34 := (qL qS).mono c45.le f34
      have f40 := (qT qS).mono c45.le f40
      refine rd_cons ?_
      refine rd_c ?_
      refine rd_nil ?_
      refine rd_lK rfl ?_
      refine alL (K := K) (A := qTh) (xs := [(Th.d (PyData.none)), (Th.d (PyData.int (0))), (Th.d (PyData.int (7))), (Th.d (PyData.bool (true))), (Th.d (PyData.bool (false))), (Th.d ((dL dI).d ([] : List Int))), (Th.d ((dL dS).d [("a" : Str)])), (Th.d ((dT dS).d [("a" : Str)])), Th.dct, (Th.d (PyData.str (("" : Str))))]) S47 (.cons (show qTh.r K F43 _ (Th.d (PyData.none)) from Dp.non) (.cons (show qTh.r K F43 _ (Th.d (PyData.int (0))) from Dp.int _) (.cons (show qTh.r K F43 _ (Th.d (PyData.int (7))) from Dp.int _) (.cons (show qTh.r K F43 _ (Th.d (PyData.bool (true))) from Dp.bl _) (.cons (show qTh.r K F43 _ (Th.d (PyData.bool (false))) from Dp.bl _) (.cons (show qTh.r K F43 _ (Th.d ((dL dI).d ([] : List Int))) from (dL dI).dp f28) (.cons (show qTh.r K F43 _ (Th.d ((dL dS).d [("a" : Str)])) from (dL dS).dp f34) (.cons (show qTh.r K F43 _ (Th.d ((dT dS).d [("a" : Str)])) from (dT dS).dp f40) (.cons f46 (.cons (show qTh.r K F43 _ (Th.d (PyData.str (("" : Str)))) from Dp.str _) .nil)))))))))) (fun v48 F49 H50 c51 f52 => ?_)
      have S53 := S47.call0 c51
      have f__law_script := qC.mono c51.le f__law_script
      refine rd_wLF S53 (f52) (fun p54 vs55 hq56 row57 => ?_)
      obtain ⟨t58, e59, hm⟩ := bd_some hm
      refine rd_forC feedsL (typedRow row57) e59 (fun (s60 : Unit) σ H => ∃ (F : Hp) (o1 : Option V) (o2 : Option V) (o3 : Option V) (o4 : Option V) (o5 : Option V), σ = [some v__law_script, o1, o2, o3, o4, o5] ∧ Sx P0 F49 H50 F H) ?_ ?_ ?_ ?_
      · rintro _ _ _ ⟨_, _, _, _, _, _, _, S61⟩
        exact (Same.seq S61.sub (Same.seq S61.le hq56))
      · skip
        have S62 := Sx.refl0 S53.sub
        exact ⟨F49, _, _, _, _, _, rfl, S62⟩
      · skip
        rintro x63 v64 s65 c69 σ66 H67 f68 ⟨F70, o72, o73, o74, o75, o76, rfl, S71⟩ hm79 hbk77 hrt78
        have f__law_script := qC.mono S71.le f__law_script
        unfold m_law_b1 at hm79
        have f68 := qTh.mono S71.le f68
        obtain ⟨t80, e81, hm79⟩ := bd_some hm79
        refine rd_gn ?_
        refine rd_ifS ?_
        refine rd_test ?_
        refine rd_op ?_
        refine rd_call ?_
        refine rd_cons ?_
        refine rd_v rfl ?_
        refine rd_nil ?_
        refine ⟨F70, _, _, t80, rfl, S71.sub, f68, e81, fun v85 F82 H83 c84 f86 => ?_⟩
        have S87 := S71.call0 c84
        have f__law_script := qC.mono c84.le f__law_script
        have f68 := qTh.mono c84.le f68
        cases (show v85 = (V.bl (t80)) from f86)
        refine rd_c ?_
        refine rd_B0 ?_
        refine rd_b ?_
        refine if_b hm79 (fun b88 hm79 => ?_) (fun b88 hm79 => ?_)
        · skip
          cases hm79
          have e89 := hrt78 _ rfl
          subst e89
          have hm := aft_rt hm
          have S90 := S53.call0 S87
          cases hm
          refine rd_ret ?_
          refine rd_c ?_
          exact hQ _ _ _ S90 rfl
        · skip
          cases hm79
          refine rd_next ?_
          exact ⟨_, rfl, ⟨F82, _, _, _, _, _, rfl, S87⟩⟩
      · skip
        rintro s93 σ91 H92 e94 ⟨F95, o97, o98, o99, o100, o101, rfl, S96⟩
        subst e94
        have hm := aft_nx hm
        have S102 := S53.call0 S96
        have f__law_script := qC.mono S96.le f__law_script
        obtain ⟨g103, hm⟩ := gd_some hm
        refine rd_seq ?_
        refine rd_for ?_
        refine rd_iR1 ?_
        refine rd_cons ?_
        refine rd_cb ?_
        refine rd_cons ?_
        refine rd_c ?_
        refine rd_cons ?_
        refine rd_cb ?_
        refine rd_cons ?_
        refine rd_c ?_
        refine rd_cons ?_
        refine rd_cb ?_
        refine rd_cons ?_
        refine rd_v rfl ?_
        refine rd_nil ?_
        refine rd_lenQ (S102.c f__law_script).q ?_
        refine rd_nil ?_
        refine rd_min2 ?_
        refine rd_nil ?_
        refine rd_max2 ?_
        refine rd_nil ?_
        refine rd_r1 g103 ?_
        obtain ⟨t104, e105, hm⟩ := bd_some hm
        refine rd_forC feedsRg (typedR (K := K) (F := F95)) e105 (fun (s106 : Unit) σ H => ∃ (F : Hp) (o1 : Option V) (o2 : Option V) (o3 : Option V) (o4 : Option V) (o5 : Option V), σ = [some v__law_script, o1, o2, o3, o4, o5] ∧ Sx P0 F95 H92 F H) ?_ ?_ ?_ ?_
        · intro _ _ _ _; trivial
        · skip
          have S108 := Sx.refl0 S102.sub
          exact ⟨F95, _, _, _, _, _, rfl, S108⟩
        · skip
          rintro x109 v110 s111 c115 σ112 H113 f114 ⟨F116, o118, o119, o120, o121, o122, rfl, S117⟩ hm125 hbk123 hrt124
          have f__law_script := qC.mono S117.le f__law_script
          unfold m_law_b5 at hm125
          cases (show v110 = (V.int (x109)) from f114)
          obtain ⟨t126, e127, hm125⟩ := bd_some hm125
          refine rd_gn ?_
          refine rd_seq ?_
          refine rd_asg ?_
          refine rd_call ?_
          refine rd_cons ?_
          refine rd_call ?_
          refine rd_cons ?_
          refine rd_v rfl ?_
          refine rd_cons ?_
          refine rd_v rfl ?_
          refine rd_nil ?_
          refine ⟨F116, _, _, _, t126, rfl, S117.sub, f__law_script, e127, fun p131 F128 H129 np132 c130 w133 => ?_⟩
          have z134 := S117.free0 np132
          have S135 := S117.call0 c130
          have f__law_script := qC.mono c130.le f__law_script
          have w136 : Ow P0 H92 _ _ _ _ := ⟨w133.fr, w133.at_, .inl z134⟩
          obtain ⟨t137, e138, hm125⟩ := bd_some hm125
          refine rd_nil ?_
          refine ⟨F128, _, _, t137, rfl, S135.sub, w136.arg, e138, fun v142 F139 H140 c141 w144 f143 => ?_⟩
          have S145 := S135.call1 c141 w136
          have f__law_script := qC.mono c141.le f__law_script
          have w146 := w136.back w144
          cases (show v142 = (V.str (t137.1)) from f143)
          obtain ⟨t206, e207, hm125⟩ := bd_some hm125
          refine rd_gn ?_
          refine rd_seq ?_
          refine rd_asg ?_
          refine rd_andV ?_
          refine rd_op ?_
          refine rd_v rfl ?_
          refine rd_c ?_
          refine rd_S0 ?_
          refine rd_b ?_
          refine andV_j (fun c H' => c = V.bl t206 ∧ ∃ F', Sx P0 F139 H140 F' H') ?_ ?_ ?_
          · intro b208 Q209 q210
            have e207 := if_t e207 b208
            have S211 := Sx.refl0 S145.sub
            refine rd_op ?_
            refine rd_lc ?_
            refine rd_iS ?_
            refine rd_v rfl ?_
            refine rd_wS ?_
            obtain ⟨g212, e207⟩ := gd_some e207
            obtain ⟨t213, e214, e207⟩ := bd_some e207
            refine rd_comp (B := qS) feedsS (typedS (K := K) (F := F139)) e214 g212 (Pc := P0) (fun _ z => z.elim) S211.sub (fun (s215 : Unit) F H => True) ?_ ?_ ?_ ?_ ?_ ?_
            · intro _ _ _ _ _; trivial
            · trivial
            · intros; trivial
            · intros; trivial
            · skip
              intro x217 v218 s219 o220 F221 H222 d223 acc224 f225 S226 w227 w228 n229 hm230 E231 N232 hN233 hE234
              have f__law_script := qC.mono S226.le f__law_script
              have w146 := w146.call0 S226
              have S235 := Sx.refl0 S226.sub
              unfold m_law_b4 at hm230
              cases (show v218 = (V.str (x217)) from f225)
              obtain ⟨t236, e237, hm230⟩ := bd_some hm230
              refine rd_gn ?_
              refine rd_wp rfl ?_
              refine rd_test ?_
              refine rd_op ?_
              refine rd_v rfl ?_
              refine rd_call ?_
              refine rd_nil ?_
              refine ⟨F221, t236, rfl, S235.sub, e237, fun v241 F238 H239 c240 f242 => ?_⟩
              have S243 := S235.call0 c240
              have f__law_script := qC.mono c240.le f__law_script
              have w146 := w146.call0 c240
              cases (show v241 = (V.str (t236)) from f242)
              refine rd_niSS ?_
              refine rd_b ?_
              refine if_b hm230 (fun b244 hm230 => ?_) (fun b244 hm230 => ?_)
              · skip
                cases hm230
                refine rd_v rfl ?_
                exact hN233 _ _ _ _ rfl S243 rfl trivial
              · skip
                cases hm230
                exact hE234 _ _ rfl S243 trivial
            intro p245 us246 F247 H248 n249 c250 w251 w252 r253
            have z254 := S211.free0 n249
            have ne255 : p131 ≠ p245 := w146.ne n249
            have S256 := S211.call0 c250
            have f__law_script := qC.mono c250.le f__law_script
            have w146 := w146.call0 c250
            have w257 : Ow P0 H140 _ _ _ _ := ⟨w252.fr, w252.at_, .inl z254⟩
            obtain ⟨F258, S259, le260, f261, _, eq262⟩ := fz S256 w257 z254 r253
            have f__law_script := qC.mono le260 f__law_script
            have w146 := w146.fzO ne255 eq262
            refine rd_lst ?_
            refine rd_nil ?_
            refine rd_lK rfl ?_
            refine alL (K := K) (A := qS) (xs := ([] : List Str)) S259 .nil (fun v263 F264 H265 c266 f267 => ?_)
            have S268 := S259.call0 c266
            have f__law_script := qC.mono c266.le f__law_script
            have f261 := (qL qS).mono c266.le f261
            have w146 := w146.call0 c266
            obtain ⟨g269, e207⟩ := gd_some e207
            obtain ⟨g270, e207⟩ := gd_some e207
            cases e207
            refine rd_eqD (D := (dL dS)) (S268.d (dL dS) f261) (S268.d (dL dS) f267) g269 g270 ?_
            exact q210 _ _ ⟨rfl, F264, S268⟩
          · intro b208
            have e207 := if_f e207 b208
            cases e207
            have S271 := Sx.refl0 S145.sub
            exact ⟨rfl, F139, S271⟩
          rintro b275 H273 ⟨rfl, F272, c274⟩
          have S276 := S145.call0 c274
          have f__law_script := qC.mono c274.le f__law_script
          have w146 := w146.call0 c274
          obtain ⟨t277, e278, hm125⟩ := bd_some hm125
          refine rd_gn ?_
          refine rd_ifS ?_
          refine rd_or ?_
          refine rd_not ?_
          refine rd_tB ?_
          refine rd_cb ?_
          refine rd_cons ?_
          refine rd_call ?_
          refine rd_cons ?_
          refine rd_v rfl ?_
          refine rd_nil ?_
          refine ⟨F272, _, _, t277, rfl, S276.sub, (show qTh.r K F272 _ (Th.d (PyData.str (t137.1))) from Dp.str _), e278, fun v282 F279 H280 c281 f283 => ?_⟩
          have S284 := S276.call0 c281
          have f__law_script := qC.mono c281.le f__law_script
          have w146 := w146.call0 c281
          cases (show v282 = (V.bl (t277)) from f283)
          obtain ⟨t285, e286, hm125⟩ := bd_some hm125
          refine rd_cons ?_
          refine rd_c ?_
          refine rd_nil ?_
          refine rd_isi (b := true) tx_bl (by decide +kernel) ?_
          refine rd_b ?_
          refine if_ff ?_
          refine rd_or ?_
          refine rd_test ?_
          refine rd_op ?_
          refine rd_call ?_
          refine rd_cons ?_
          refine rd_v rfl ?_
          refine rd_nil ?_
          refine ⟨F279, _, _, t285, rfl, S284.sub, (show qTh.r K F279 _ (Th.d (PyData.str (t137.1))) from Dp.str _), e286, fun v290 F287 H288 c289 f291 => ?_⟩
          have S292 := S284.call0 c289
          have f__law_script := qC.mono c289.le f__law_script
          have w146 := w146.call0 c289
          cases (show v290 = (V.bl (t285)) from f291)
          obtain ⟨t307, e308, hm125⟩ := bd_some hm125
          refine rd_v rfl ?_
          refine rd_B0 ?_
          refine rd_b ?_
          refine or_j (fun c H' => c = t307 ∧ ∃ F', Sx P0 F287 H288 F' H') ?_ ?_ ?_
          · intro b309 Q310 q311
            have e308 := if_f e308 b309
            have S312 := Sx.refl0 S292.sub
            refine rd_tB ?_
            refine rd_call ?_
            refine rd_cons ?_
            refine rd_lst ?_
            refine rd_cons ?_
            refine rd_v rfl ?_
            refine rd_nil ?_
            refine rd_lK rfl ?_
            refine alL (K := K) (A := qS) (xs := [t137.1]) S312 (.cons rfl .nil) (fun v313 F314 H315 c316 f317 => ?_)
            have S318 := S312.call0 c316
            have f__law_script := qC.mono c316.le f__law_script
            have w146 := w146.call0 c316
            obtain ⟨t319, e320, e308⟩ := bd_some e308
            refine rd_nil ?_
            refine ⟨F314, _, _, t319, rfl, S318.sub, (show qTh.r K F314 _ (Th.d ((dL dS).d [t137.1])) from (dL dS).dp f317), e320, fun v324 F321 H322 c323 f325 => ?_⟩
            have S326 := S318.call0 c323
            have f__law_script := qC.mono c323.le f__law_script
            have w146 := w146.call0 c323
            cases (show v324 = (V.bl (t319)) from f325)
            cases e308
            refine rd_b ?_
            exact q311 _ _ ⟨rfl, F321, S326⟩
          · intro b309
            have e308 := if_t e308 b309
            cases e308
            have S327 := Sx.refl0 S292.sub
            exact ⟨rfl, F287, S327⟩
          rintro b331 H329 ⟨rfl, F328, c330⟩
          have S332 := S292.call0 c330
          have f__law_script := qC.mono c330.le f__law_script
          have w146 := w146.call0 c330
          refine if_b hm125 (fun b333 hm125 => ?_) (fun b333 hm125 => ?_)
          · skip
            cases hm125
            have e334 := hrt124 _ rfl
            subst e334
            have hm := aft_rt hm
            have S335 := S102.call0 S332
            cases hm
            refine rd_ret ?_
            refine rd_c ?_
            exact hQ _ _ _ S335 rfl
          · skip
            cases hm125
            refine rd_next ?_
            exact ⟨_, rfl, ⟨F328, _, _, _, _, _, rfl, S332⟩⟩
        · skip
          rintro s338 σ336 H337 e339 ⟨F340, o342, o343, o344, o345, o346, rfl, S341⟩
          subst e339
          have hm := aft_nx hm
          have S347 := S102.call0 S341
          have f__law_script := qC.mono S341.le f__law_script
          obtain ⟨t348, e349, hm⟩ := bd_some hm
          refine rd_seq ?_
          refine rd_for ?_
          refine rd_iS ?_
          refine rd_call ?_
          refine rd_nil ?_
          refine ⟨F340, t348, rfl, S347.sub, e349, fun v353 F350 H351 c352 f354 => ?_⟩
          have S355 := S347.call0 c352
          have f__law_script := qC.mono c352.le f__law_script
          cases (show v353 = (V.str (t348)) from f354)
          refine rd_wS ?_
          obtain ⟨t356, e357, hm⟩ := bd_some hm
          refine rd_forC feedsS (typedS (K := K) (F := F350)) e357 (fun (s358 : Unit) σ H => ∃ (F : Hp) (o1 : Option V) (o2 : Option V) (o3 : Option V) (o4 : Option V) (o5 : Option V), σ = [some v__law_script, o1, o2, o3, o4, o5] ∧ Sx P0 F350 H351 F H) ?_ ?_ ?_ ?_
          · intro _ _ _ _; trivial
          · skip
            have S360 := Sx.refl0 S355.sub
            exact ⟨F350, _, _, _, _, _, rfl, S360⟩
          · skip
            rintro x361 v362 s363 c367 σ364 H365 f366 ⟨F368, o370, o371, o372, o373, o374, rfl, S369⟩ hm377 hbk375 hrt376
            have f__law_script := qC.mono S369.le f__law_script
            unfold m_law_b6 at hm377
            cases (show v362 = (V.str (x361)) from f366)
            obtain ⟨t378, e379, hm377⟩ := bd_some hm377
            refine rd_gn ?_
            refine rd_ifS ?_
            refine rd_test ?_
            refine rd_op ?_
            refine rd_call ?_
            refine rd_cons ?_
            refine rd_v rfl ?_
            refine rd_nil ?_
            refine ⟨F368, _, _, t378, rfl, S369.sub, (show qTh.r K F368 _ (Th.d (PyData.str (x361))) from Dp.str _), e379, fun v383 F380 H381 c382 f384 => ?_⟩
            have S385 := S369.call0 c382
            have f__law_script := qC.mono c382.le f__law_script
            cases (show v383 = (V.bl (t378)) from f384)
            obtain ⟨t386, e387, hm377⟩ := bd_some hm377
            refine rd_op ?_
            refine rd_v rfl ?_
            refine rd_call ?_
            refine rd_nil ?_
            refine ⟨F380, t386, rfl, S385.sub, e387, fun v391 F388 H389 c390 f392 => ?_⟩
            have S393 := S385.call0 c390
            have f__law_script := qC.mono c390.le f__law_script
            cases (show v391 = (V.str (t386)) from f392)
            refine rd_inSS ?_
            refine rd_B0 ?_
            refine rd_b ?_
            refine if_b hm377 (fun b394 hm377 => ?_) (fun b394 hm377 => ?_)
            · skip
              cases hm377
              have e395 := hrt376 _ rfl
              subst e395
              have hm := aft_rt hm
              have S396 := S355.call0 S393
              cases hm
              refine rd_ret ?_
              refine rd_c ?_
              exact hQ _ _ _ S396 rfl
            · skip
              cases hm377
              refine rd_next ?_
              exact ⟨_, rfl, ⟨F388, _, _, _, _, _, rfl, S393⟩⟩
          · skip
            rintro s399 σ397 H398 e400 ⟨F401, o403, o404, o405, o406, o407, rfl, S402⟩
            subst e400
            have hm := aft_nx hm
            have S408 := S355.call0 S402
            have f__law_script := qC.mono S402.le f__law_script
            cases hm
            refine rd_ret ?_
            refine rd_c ?_
            exact hQ _ _ _ S408 rfl
end

/-! ### the drawn numbers -/
theorem take_ok {p : Int × Int} {n : Int} (h : 0 < n) (h2 : n < 1000000) : Ok (m_law_take p n) fun r => 0 ≤ r.1 ∧ r.1 < n := by
  unfold m_law_take
  have hm : modOk n = true := modOk_ok h
  have hz : n ≠ 0 := by omega
  refine Ok.ite (fun _ => ?_) fun _ => ?_
  · exact Ok.gd hm (Ok.gd (divOk_ok h (by omega)) (Ok.sm ⟨Int.emod_nonneg _ hz, Int.emod_lt_of_pos _ h⟩))
  · have b1 : 0 ≤ (p.2 * 48271 + 11) % 2147483647 := Int.emod_nonneg _ (by decide)
    have b2 : (p.2 * 48271 + 11) % 2147483647 < 2147483647 := Int.emod_lt_of_pos _ (by decide)
    refine Ok.gd (mulOk_r (by decide) (by decide)) (Ok.gd (by decide) (Ok.gd (mulOk_l ?_ ?_) (Ok.gd (by decide) (Ok.gd (by decide) (Ok.gd hm (Ok.sm ⟨Int.emod_nonneg _ hz, Int.emod_lt_of_pos _ h⟩))))))
    · show -(2 ^ 64) < (p.2 * 48271 + 11) % 2147483647
      omega
    · show (p.2 * 48271 + 11) % 2147483647 < 2 ^ 64
      omega
theorem pool_ok {ns : List Int} {k : Int} (h0 : 0 ≤ k) (h1 : k < 1000) : Ok (m_law_pool ns k) fun _ => True := by
  unfold m_law_pool
  refine Ok.bd (P := fun _ => True) (Ok.gd (shp_lI _) (Ok.gd (shp_lI _) (Ok.ite (fun e => ?_) fun _ => Ok.sm trivial))) fun t _ => ?_
  · have hn : ns ≠ [] := by simpa using e
    have hl : (0 : Int) < (ns.length : Int) := by
      cases ns with
      | nil => exact absurd rfl hn
      | cons x xs => show (0 : Int) < ((xs.length + 1 : Nat) : Int); omega
    refine Ok.gd (modOk_ok hl) ?_
    have b1 : 0 ≤ k % (ns.length : Int) := Int.emod_nonneg _ (by omega)
    have b2 : k % (ns.length : Int) < ns.length := Int.emod_lt_of_pos _ hl
    have hlt : (k % (ns.length : Int)).toNat < ns.length := by omega
    exact Ok.bde (a := ns[(k % (ns.length : Int)).toNat]) (by rw [atI_nn b1 b2]; simp [hlt]) (Ok.sm trivial)
  · have b1 : 0 ≤ t % 2147483629 := Int.emod_nonneg _ (by decide)
    have b2 : t % 2147483629 < 2147483629 := Int.emod_lt_of_pos _ (by decide)
    refine Ok.gd (by decide) (Ok.gd (mulOk_l (by decide) (by decide)) (Ok.gd (mulOk_r (by decide) (by decide)) (Ok.gd (by decide) (Ok.gd (by decide) (Ok.gd (mulOk_r ?_ ?_) (Ok.sm trivial))))))
    · unfold b2I; split <;> decide
    · unfold b2I; split <;> decide

/-! ### lines -/
abbrev SG : Str := " #-.0123456789:>ABCDEFGHIJKLMNOPQRSTUVWXYZabcdefghijklmnopqrstuvwxyz"
def AY : Str := " !\"#$&'()*+,-./0123456789:;<=>?@ABCDEFGHIJKLMNOPQRSTUVWXYZ[\\]^_`" ++ "abcdefghijklmnopqrstuvwxyz{|}~\n\t"
def low (s : Str) : Prop := ∀ c ∈ cl s, c < 0x110000
theorem low_ok {s : Str} (h : low s) : okS s := by
  show (s.cps.all (· < 0x110000)) = true
  rw [Array.all_eq_true_iff_forall_mem]
  intro c hc
  exact decide_eq_true (h c (Array.mem_toList_iff.mpr hc))
theorem low_app {a b : Str} (h : low a) (k : low b) : low (a ++ b) := by
  intro c hc
  rw [cl_app, List.mem_append] at hc
  exact hc.elim (h c) (k c)
theorem cl_empty : cl "" = [] := by decide +kernel
theorem low_nil : low "" := fun c hc => by rw [cl_empty] at hc; exact absurd hc List.not_mem_nil
theorem len_app (a b : Str) : (a ++ b).length = a.length + b.length := by rw [cl_len, cl_app, List.length_append, ← cl_len, ← cl_len]
theorem ix_low {s : Str} {i : Int} (g : low s) (h : 0 ≤ i) (h2 : i < s.length) (h3 : s.length ≤ 1000000) : Ok (ixS s i) fun z => low z ∧ z.length = 1 :=
  (ixS_ok h h2 (Nat.le_trans h3 sizeLine_big)).mono fun z ⟨c, h1, h2⟩ => by
    subst h2
    refine ⟨fun d hd => ?_, rfl⟩
    rw [cl_sg, List.mem_singleton] at hd
    rw [hd]; exact g c (List.mem_of_getElem? h1)
theorem low_SG : low SG := by
  have h : ∀ c ∈ cl SG, c < 0x110000 := by decide +kernel
  exact h
theorem low_AY : low AY := by
  have h : ∀ c ∈ cl AY, c < 0x110000 := by decide +kernel
  exact h
theorem any_eq : m_law_any = some AY := by
  unfold m_law_any
  rw [gd_true (catOk_ok (by decide +kernel))]
  rfl
theorem drawn_ok {p : Int × Int} : Ok (m_law_drawn p) fun r => low r.1 ∧ r.1.length ≤ 6 := by
  unfold m_law_drawn
  refine Ok.bd (take_ok (by decide) (by decide)) fun t1 _ => Ok.bd (take_ok (by decide) (by decide)) fun t2 h2 => ?_
  refine Ok.gd (rgOk_ok (by omega) (by omega) (by omega) (by omega)) ?_
  refine Ok.bd (Ok.loop (fun pre s => low s.2 ∧ s.2.length = pre.length) ⟨low_nil, show ("" : Str).length = 0 by decide +kernel⟩ fun pre x post s e ⟨g, l⟩ => ?_) fun s ⟨g, l⟩ => Ok.sm ⟨g, ?_⟩
  · have hp : pre.length < 100 := by
      have := congrArg List.length e
      rw [rng_len] at this
      simp at this
      omega
    have fin : ∀ z : Str, low z ∧ z.length = 1 → low (s.2 ++ z) ∧ (s.2 ++ z).length = (pre ++ [x]).length := fun z ⟨gz, lz⟩ => ⟨low_app g gz, by rw [len_app, lz, l]; simp⟩
    unfold m_law_drawn_b1
    refine Ok.bd (P := fun _ => True) ?_ fun t _ => Ok.ite (fun _ => ?_) fun _ => ?_
    · refine Ok.ite (fun _ => Ok.sm trivial) fun _ => Ok.bd (P := fun _ => True) (Ok.ite (fun _ => Ok.bd (take_ok (by decide) (by decide)) fun _ _ => Ok.sm trivial) fun _ => Ok.sm trivial) fun _ _ => Ok.sm trivial
    · refine Ok.bde any_eq (Ok.bd (take_ok (by decide) (by decide)) fun d hd => Ok.bd (ix_low low_AY hd.1 ?_ (by decide +kernel)) fun z hz => Ok.gd (catOk_ok (by rw [hz.2, l]; omega)) (Ok.sm (fin z hz)))
      have : AY.length = 96 := by decide +kernel
      rw [this]; exact hd.2
    · unfold m_law_all_signs
      refine Ok.bde rfl (Ok.bd (take_ok (by decide) (by decide)) fun d hd => Ok.bd (ix_low low_SG hd.1 ?_ (by decide +kernel)) fun z hz => Ok.gd (catOk_ok (by rw [hz.2, l]; omega)) (Ok.sm (fin z hz)))
      have : SG.length = 68 := by decide +kernel
      rw [this]; exact hd.2
  · show s.2.length ≤ 6
    rw [l, rng_len]; omega
def isL (z : Str) : Bool := !decide (z = "") && (sgns z).all fun x => inS x SG
theorem line_loop : ∀ xs : List Str, loopC m_is_line_b1 xs () = some (if (xs.all fun x => inS x SG) = true then .nx () else .rt false)
  | [] => rfl
  | x :: xs => by
    show ((m_is_line_b1 x ()).bind _) = _
    unfold m_is_line_b1
    rw [List.all_cons]
    cases h : inS x SG with
    | false => rfl
    | true =>
      show loopC m_is_line_b1 xs () = _
      rw [line_loop xs]; rfl
theorem is_line_str (z : Str) : m_is_line (Th.d (PyData.str z)) = some (isL z) := by
  unfold m_is_line isL
  show ((if decide (z = "") = true then some false else ((loopC m_is_line_b1 (sgns z) ()).bind fun t23 => aft t23 fun s46 => some true))) = _
  rw [line_loop]
  by_cases h : z = ""
  · rw [if_pos (decide_eq_true h), decide_eq_true h]; rfl
  · rw [if_neg (by rw [decide_eq_false h]; decide), decide_eq_false h]
    cases (sgns z).all fun x => inS x SG <;> rfl
theorem math (ns : List Int) (h : ns.length ≤ 63) : m_law ns = some true := by
  unfold m_law m_law_all_signs
  have same : ∀ {α : Type} {a : α} [DecidableEq α], (!decide (a = a)) = false := fun {α a _} => by rw [decide_eq_true rfl]; rfl
  refine Ok.eq (Ok.bde rfl ?_)
  rw [if_neg (by rw [same]; decide)]
  refine Ok.bd (P := fun t => t = false) (Ok.gd (fitsS_ok (by decide +kernel)) (Ok.sm (by decide +kernel))) fun t ht => ?_
  rw [ht, if_neg (by decide)]
  refine Ok.bd (Ok.loopN (fun _ _ => True) trivial fun pre x post _ e _ => ?_) ?_
  · have hx : x ∈ [(Th.d (PyData.none)), (Th.d (PyData.int (0))), (Th.d (PyData.int (7))), (Th.d (PyData.bool (true))), (Th.d (PyData.bool (false))), (Th.d ((dL dI).d ([] : List Int))), (Th.d ((dL dS).d [("a" : Str)])), (Th.d ((dT dS).d [("a" : Str)])), Th.dct, (Th.d (PyData.str (("" : Str))))] := by rw [e]; simp
    have hf : m_is_line x = some false := by
      simp only [List.mem_cons, List.not_mem_nil, or_false] at hx
      rcases hx with rfl | rfl | rfl | rfl | rfl | rfl | rfl | rfl | rfl | rfl
      · rfl
      · rfl
      · rfl
      · rfl
      · rfl
      · rfl
      · rfl
      · rfl
      · rfl
      · rw [is_line_str]; decide +kernel
    unfold m_law_b1
    rw [hf]
    exact ⟨_, rfl, (), rfl, trivial⟩
  · rintro _ ⟨s, rfl, _⟩
    have hm : 0 ≤ maxI 1 (minI 63 (ns.length : Int)) ∧ maxI 1 (minI 63 (ns.length : Int)) ≤ 63 := by
      unfold maxI minI
      split <;> split <;> omega
    show Ok (gd _ _) _
    refine Ok.gd (rgOk_ok (by omega) (by omega) (by omega) (by omega)) (Ok.bd (Ok.loopN (fun _ _ => True) trivial fun pre k post _ e _ => ?_) ?_)
    · have hk := (rng_at e).2.2
      unfold m_law_b5
      refine Ok.bd (pool_ok (by omega) (by omega)) fun p1 _ => Ok.bd drawn_ok fun p2 ⟨lo, ll⟩ => ?_
      refine Ok.bd (P := fun t => t = isL p2.1) ?_ fun t ht => ?_
      · unfold isL
        by_cases hn : p2.1 = ""
        · rw [decide_eq_true hn]
          exact Ok.sm rfl
        · rw [decide_eq_false hn]
          rw [if_pos (show (!false) = true from rfl)]
          refine Ok.gd (fitsE_ok (by rw [sgns_cl, List.length_map, ← cl_len]; omega)) (Ok.bde (comp_pure (g := fun x => if (!inS x SG) = true then some x else none) fun x _ => ?_) ?_)
          · unfold m_law_b4 m_law_all_signs
            cases h : inS x SG with
            | false => show (if (!inS x SG) = true then _ else _) = _; rw [h]; rfl
            | true => show (if (!inS x SG) = true then _ else _) = _; rw [h]; rfl
          · rw [filterMap_ite]
            have hsh : shp (dL dS) ((sgns p2.1).filter fun x => !inS x SG) = true := shp_lS fun x hx => by
              have hx := (List.mem_filter.mp hx).1
              rw [sgns_cl, List.mem_map] at hx
              obtain ⟨c, hc, rfl⟩ := hx
              exact low_ok fun d hd => by rw [cl_sg, List.mem_singleton] at hd; rw [hd]; exact lo c hc
            refine Ok.gd hsh (Ok.gd (shp_lS fun x hx => absurd hx List.not_mem_nil) (Ok.sm ?_))
            show decide (((sgns p2.1).filter fun x => !inS x SG) = []) = (true && (sgns p2.1).all fun x => inS x SG)
            rw [Bool.true_and]
            by_cases ha : ((sgns p2.1).all fun x => inS x SG) = true
            · rw [ha]
              refine decide_eq_true (List.filter_eq_nil_iff.mpr fun x hx => ?_)
              rw [List.all_eq_true.mp ha x hx]; decide
            · rw [(by simpa using ha : ((sgns p2.1).all fun x => inS x SG) = false)]
              refine decide_eq_false fun h => ha (List.all_eq_true.mpr fun x hx => ?_)
              have := List.filter_eq_nil_iff.mp h x hx
              simpa using this
      · refine Ok.bde (is_line_str _) (Ok.bde (is_line_str _) ?_)
        rw [ht, if_neg (by rw [same]; decide)]
        exact Ok.bde rfl ⟨_, rfl, (), rfl, trivial⟩
    · rintro _ ⟨s, rfl, _⟩
      simp only [aft]
      refine Ok.bde any_eq (Ok.bd (Ok.loopN (fun _ _ => True) trivial fun pre x post _ e _ => ?_) ?_)
      · have hx : x ∈ sgns AY := by rw [e]; simp
        rw [sgns_cl, List.mem_map] at hx
        obtain ⟨c, _, rfl⟩ := hx
        have hl : isL ⟨#[c]⟩ = inS ⟨#[c]⟩ SG := by
          unfold isL
          have hne : ¬ (⟨#[c]⟩ : Str) = "" := fun e => by
            have := congrArg cl e
            rw [cl_sg, cl_empty] at this
            cases this
          rw [decide_eq_false hne, sgns_cl, cl_sg]
          show (true && (inS ⟨#[c]⟩ SG && true)) = _
          rw [Bool.true_and, Bool.and_true]
        unfold m_law_b6 m_law_all_signs
        refine Ok.bde (is_line_str _) (Ok.bde rfl ?_)
        rw [hl, if_neg (by rw [same]; decide)]
        exact ⟨_, rfl, (), rfl, trivial⟩
      · rintro _ ⟨s, rfl, _⟩
        exact Ok.sm rfl

def fn : List He.DefD := [⟨("is_line", none), "is_line", "is_line", defArgs s_is_line, defBody s_is_line, defScope s_is_line, [], []⟩,
  ⟨("_law_pool", none), "_law_pool", "_law_pool", defArgs s_law_pool, defBody s_law_pool, defScope s_law_pool, [], []⟩,
  ⟨("_law_take", none), "_law_take", "_law_take", defArgs s_law_take, defBody s_law_take, defScope s_law_take, [], []⟩,
  ⟨("_law_all_signs", none), "_law_all_signs", "_law_all_signs", defArgs s_law_all_signs, defBody s_law_all_signs, defScope s_law_all_signs, [], []⟩,
  ⟨("_law_any", none), "_law_any", "_law_any", defArgs s_law_any, defBody s_law_any, defScope s_law_any, [], []⟩,
  ⟨("_law_drawn", none), "_law_drawn", "_law_drawn", defArgs s_law_drawn, defBody s_law_drawn, defScope s_law_drawn, [], []⟩,
  ⟨("law", none), "law", "law", defArgs s_law, defBody s_law, defScope s_law, [], []⟩]
def fa : List He.Fa := [.glo "is_line", .glo "_law_pool", .glo "_law_take", .glo "_law_all_signs", .glo "_law_any", .glo "_law_drawn", .glo "law", .free "bool", .free "int", .free "isinstance", .free "len", .free "max", .free "min", .free "range", .free "str", .str "SIGNS" " #-.0123456789:>ABCDEFGHIJKLMNOPQRSTUVWXYZabcdefghijklmnopqrstuvwxyz"]
def tabs (K : PySem.W.Frag) : Bool := true
theorem tx {K : PySem.W.Frag} {h : Heap} {mg : Str → Option Value} (X : K.In h) (G : h.Ns mainGlobals mg) (c : He.SaysD fa fn K) : Tx K mg := {
  F_is_line := fd_of c 0
  g_is_line := He.glo_ok X G (c.fact 0)
  F__law_pool := fd_of c 1
  g__law_pool := He.glo_ok X G (c.fact 1)
  F__law_take := fd_of c 2
  g__law_take := He.glo_ok X G (c.fact 2)
  F__law_all_signs := fd_of c 3
  g__law_all_signs := He.glo_ok X G (c.fact 3)
  F__law_any := fd_of c 4
  g__law_any := He.glo_ok X G (c.fact 4)
  F__law_drawn := fd_of c 5
  g__law_drawn := He.glo_ok X G (c.fact 5)
  F_law := fd_of c 6
  g_law := He.glo_ok X G (c.fact 6)
  k_SIGNS := He.str_ok X G (c.fact 15)
  n_bool := He.free_ok X G (c.fact 7)
  n_int := He.free_ok X G (c.fact 8)
  n_isinstance := He.free_ok X G (c.fact 9)
  n_len := He.free_ok X G (c.fact 10)
  n_max := He.free_ok X G (c.fact 11)
  n_min := He.free_ok X G (c.fact 12)
  n_range := He.free_ok X G (c.fact 13)
  n_str := He.free_ok X G (c.fact 14)
}

theorem law_fn {P : Program} {w : World} {K : PySem.W.Frag} {h : Heap} {mg : Str → Option Value} {f : Addr} (X : K.In h) (G : h.Ns mainGlobals mg) (hfa : mg ("law" : Str) = some (.ref f)) (c : He.SaysD fa fn K) :
    ∃ (K' : PySem.W.Frag) (fd : FuncData) (sp : L2.Sp), K'.In h ∧ (∀ (s : Shared) (v : Value), BindsTo s fd ⟨[v], []⟩ [("_law_script", v)]) ∧ (∀ (H : Hp) (a : Addr) (ns : List Int), ns.length ≤ 63 → Only H → SqL K' H a (ns.map V.int) → sp [.ref a] H (fun v _ => v = .bl true) fun _ _ _ => False) ∧ ∀ base : Heap, K'.In base → base.Ns mainGlobals mg → FnOk P w K' mg base CX0 3 f fd ["_law_script"] sp := by
  have T : Tx K mg := tx X G c
  have e := hfa.symm.trans T.g_law
  cases e
  have b := FunD.bindsA (ps := ["_law_script"]) T.F_law fun _ _ _ _ _ _ us hl => match us, hl with | [_], _ => rfl
  refine ⟨K, _, sp_law K, X, fun s v => b s [v] rfl, fun H a ns hl _ hS => ?_, fun base _ _ => ok_law T⟩
  exact ⟨H, .ref a, ns, true, rfl, Same.refl H, ⟨a, rfl, hS⟩, math ns hl, fun v F' H' _ hv => hv⟩
end Law
open PySem PySem.W PySem.Calls PyProof.Rows
theorem PySem.Challenge.cw_gluedlines_k01_signs_and_lines_holds : PySem.Challenge.rw_gluedlines_k01_signs_and_lines.Holds := by
  w_on; o_law; k_head; (case hw => w_witness2)
  k_fill
  refine L2.walk_ofE (l := PySem.Challenge.rw_gluedlines_k01_signs_and_lines) (n := 63) (k := 3) (x := "_law_script") (CX := L2.CX0) rfl (by decide) (by rfl) ⟨rfl, by decide, by decide⟩ ?F (fun _ _ _ _ z => z)
  intro w mg fa h Y G hmg
  refine Law.law_fn (PySem.W.kIn_of Y) G hmg ?c
  case c => (unfold He.SaysD; kernel_rfl)

#print axioms PySem.Challenge.cw_gluedlines_k01_signs_and_lines_holds
