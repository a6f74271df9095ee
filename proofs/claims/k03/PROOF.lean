import PyProof.Rows.All
import Wide.All
import OpenK.AllK
import Wide.FinOn
import KE.KStateDown
import HandS.ForMost
import HandS.Exc
import HandS.WordsExc
import HandS.Defaults
import HandS.Conv
import HandS.Flow
import HandS.IsInst
import HandS.Codes
import HandS.Head0
import HandS.Head1
import HandS.Head2
import HandS.HeadEnd
import HandS.HeadHook1
import HandS.HeadHook2
import PySem.Challenge.RW_gluedlines_k03_cells_and_positions
set_option Elab.async false
set_option linter.all false
set_option maxRecDepth 100000
set_option maxHeartbeats 4000000
namespace Gl
open PySem PySem.Spec PyProof.Rows L2

/-! ## partial results -/
def gd {α : Type} (b : Bool) (x : Option α) : Option α := match b with
  | true => x
  | false => none
theorem gd_some {α : Type} {b : Bool} {x : Option α} {r : α} (h : gd b x = some r) : b = true ∧ x = some r := by
  cases b with
  | true => exact ⟨rfl, h⟩
  | false => cases h
theorem gd_true {α : Type} {b : Bool} {x : Option α} (h : b = true) : gd b x = x := by rw [h]; rfl
theorem bd_some {α β : Type} {x : Option α} {k : α → Option β} {r : β} (h : x.bind k = some r) : ∃ a, x = some a ∧ k a = some r := by
  cases x with
  | none => cases h
  | some a => exact ⟨a, rfl, h⟩
/-- how a block ends: it goes on, it breaks off its loop, or it returns -/
inductive Ctl (S R : Type) where
  | nx (s : S) | bk (s : S) | rt (r : R)

/-! ## values that stand for Lean's -/
theorem pGet {α β : Type} {R : α → β → Prop} : ∀ {xs : List α} {ys : List β} {i : Nat} {y : β}, Paired R xs ys → ys[i]? = some y → ∃ x, xs[i]? = some x ∧ R x y
  | _, _, _, _, .nil, e => by simp at e
  | _, _, 0, _, .cons r _, e => by simp at e; subst e; exact ⟨_, rfl, r⟩
  | _, _, i + 1, y, .cons _ t, e => by
    obtain ⟨x, h1, h2⟩ := pGet (i := i) (y := y) t (by simpa using e)
    exact ⟨x, by simpa using h1, h2⟩
theorem pGetL {α β : Type} {R : α → β → Prop} : ∀ {xs : List α} {ys : List β} {i : Nat} {x : α}, Paired R xs ys → xs[i]? = some x → ∃ y, ys[i]? = some y ∧ R x y
  | _, _, _, _, .nil, e => by simp at e
  | _, _, 0, _, .cons r _, e => by simp at e; subst e; exact ⟨_, rfl, r⟩
  | _, _, i + 1, y, .cons _ t, e => by
    obtain ⟨x, h1, h2⟩ := pGetL (i := i) (x := y) t (by simpa using e)
    exact ⟨x, by simpa using h1, h2⟩
theorem pApp {α β : Type} {R : α → β → Prop} : ∀ {xs xs' : List α} {ys ys' : List β}, Paired R xs ys → Paired R xs' ys' → Paired R (xs ++ xs') (ys ++ ys')
  | _, _, _, _, .nil, s => s
  | _, _, _, _, .cons r t, s => .cons r (pApp t s)
theorem pDrop {α β : Type} {R : α → β → Prop} : ∀ {xs : List α} {ys : List β} (n : Nat), Paired R xs ys → Paired R (xs.drop n) (ys.drop n)
  | _, _, 0, r => r
  | _, _, _ + 1, .nil => .nil
  | _, _, n + 1, .cons _ t => pDrop n t
theorem pTake {α β : Type} {R : α → β → Prop} : ∀ {xs : List α} {ys : List β} (n : Nat), Paired R xs ys → Paired R (xs.take n) (ys.take n)
  | _, _, 0, _ => .nil
  | _, _, _ + 1, .nil => .nil
  | _, _, n + 1, .cons r t => .cons r (pTake n t)
theorem pSet {α β : Type} {R : α → β → Prop} {x : α} {y : β} (r : R x y) : ∀ {xs : List α} {ys : List β} (i : Nat), Paired R xs ys → Paired R (xs.set i x) (ys.set i y)
  | _, _, _, .nil => .nil
  | _, _, 0, .cons _ t => .cons r t
  | _, _, i + 1, .cons q t => .cons q (pSet r i t)
theorem pLen {α β : Type} {R : α → β → Prop} {xs : List α} {ys : List β} (h : Paired R xs ys) : xs.length = ys.length := h.length
theorem pMap {α β γ : Type} {R : α → β → Prop} {f : β → γ} {S : α → γ → Prop} (h : ∀ a b, R a b → S a (f b)) : ∀ {xs : List α} {ys : List β}, Paired R xs ys → Paired S xs (ys.map f)
  | _, _, .nil => .nil
  | _, _, .cons r t => .cons (h _ _ r) (pMap h t)

/-- how values stand for Lean's, in what stands for good -/
structure R (α : Type) where
  r : PySem.W.Frag → Hp → V → α → Prop
  mono : ∀ {K : PySem.W.Frag} {F F' : Hp} {v : V} {a : α}, Same F F' → r K F v a → r K F' v a
def qI : R Int := ⟨fun _ _ v i => v = .int i, fun _ h => h⟩
def qB : R Bool := ⟨fun _ _ v i => v = .bl i, fun _ h => h⟩
def qS : R Str := ⟨fun _ _ v i => v = .str i, fun _ h => h⟩
def qN : R Unit := ⟨fun _ _ v _ => v = .non, fun _ h => h⟩
def qO {α : Type} (A : R α) : R (Option α) := ⟨fun K F v i => match i with
  | none => v = .non
  | some a => A.r K F v a, fun {K F F' v a} e h => by
    cases a with
    | none => exact h
    | some a => exact A.mono e h⟩
/-- all of a row -/
abbrev Row {α : Type} (A : R α) (K : PySem.W.Frag) (F : Hp) (vs : List V) (xs : List α) : Prop := Paired (fun v x => A.r K F v x) vs xs
theorem Row.mono {α : Type} {A : R α} {K : PySem.W.Frag} {F F' : Hp} {vs : List V} {xs : List α} (e : Same F F') (h : Row A K F vs xs) : Row A K F' vs xs := Paired.mapP h fun _ _ r => A.mono e r
theorem same_t {K : PySem.W.Frag} {H H' : Hp} {a : Addr} {xs : List V} (e : Same H H') (h : SqT K H a xs) : SqT K H' a xs := by
  rcases h with (h | ⟨o, h⟩) | h
  · exact .inl (.inl (e _ _ h))
  · exact .inl (.inr ⟨o, e _ _ h⟩)
  · exact .inr h
/-- a list, a tuple, one of both -/
def qL {α : Type} (A : R α) : R (List α) := ⟨fun K F v xs => ∃ p vs, v = .ref p ∧ F p = some (.lst vs) ∧ Row A K F vs xs, fun e ⟨p, vs, h1, h2, h3⟩ => ⟨p, vs, h1, e _ _ h2, Row.mono e h3⟩⟩
def qT {α : Type} (A : R α) : R (List α) := ⟨fun K F v xs => ∃ p vs, v = .ref p ∧ SqT K F p vs ∧ Row A K F vs xs, fun e ⟨p, vs, h1, h2, h3⟩ => ⟨p, vs, h1, same_t e h2, Row.mono e h3⟩⟩
def qQ {α : Type} (A : R α) : R (List α) := ⟨fun K F v xs => (qL A).r K F v xs ∨ (qT A).r K F v xs, fun e h => h.elim (fun h => .inl ((qL A).mono e h)) fun h => .inr ((qT A).mono e h)⟩
/-- tuples of two, of three -/
def q2 {α β : Type} (A : R α) (B : R β) : R (α × β) := ⟨fun K F v x => ∃ p u w, v = .ref p ∧ SqT K F p [u, w] ∧ A.r K F u x.1 ∧ B.r K F w x.2, fun e ⟨p, u, w, h1, h2, h3, h4⟩ => ⟨p, u, w, h1, same_t e h2, A.mono e h3, B.mono e h4⟩⟩
def q3 {α β γ : Type} (A : R α) (B : R β) (C : R γ) : R (α × β × γ) := ⟨fun K F v x => ∃ p u w z, v = .ref p ∧ SqT K F p [u, w, z] ∧ A.r K F u x.1 ∧ B.r K F w x.2.1 ∧ C.r K F z x.2.2, fun e ⟨p, u, w, z, h1, h2, h3, h4, h5⟩ => ⟨p, u, w, z, h1, same_t e h2, A.mono e h3, B.mono e h4, C.mono e h5⟩⟩

/-! ## frozen and owned -/
/-- F: what stands for good within H; F0, H0: at the def's entry; P: what the def may change of it -/
structure Sx (P : Addr → Prop) (F0 H0 F H : Hp) : Prop where
  le : Same F0 F
  sub : Same F H
  new : ∀ a o, F a = some o → F0 a = none → H0 a = none
  same : ∀ a o, H0 a = some o → ¬ P a → H a = some o
  live : ∀ a, P a → H a ≠ none
/-- an object of the def's own: it may change it -/
structure Ow (P : Addr → Prop) (H0 F H : Hp) (p : Addr) (o : HO) : Prop where
  fr : F p = none
  at_ : H p = some o
  mine : H0 p = none ∨ P p
abbrev P0 : Addr → Prop := fun _ => False
section
variable {P P' : Addr → Prop} {F0 H0 F H F' H' : Hp} {p q : Addr} {o u : HO}
theorem Sx.refl (h : Same F H) (l : ∀ a, P a → H a ≠ none) : Sx P F H F H := ⟨Same.refl F, h, fun a o e n => absurd (n.symm.trans e) (fun z => nomatch z), fun _ _ e _ => e, l⟩
theorem Sx.refl0 (h : Same F H) : Sx P0 F H F H := Sx.refl h fun _ z => z.elim
theorem Sx.free (S : Sx P F0 H0 F H) (h : H q = none) : F q = none := S.sub.free h
theorem Sx.free0 (S : Sx P F0 H0 F H) (h : H q = none) : H0 q = none := by
  cases e : H0 q with
  | none => rfl
  | some o =>
    have np : ¬ P q := fun z => S.live q z h
    have := S.same q o e np
    rw [h] at this
    cases this
theorem Sx.leN (S : Sx P F0 H0 F H) (h : H q = none) : Same F (upd F q o) := fun a u e => by
  rw [upd_ne (ne_of_none e (S.free h))]
  exact e
/-- a new object that is not kept -/
theorem Sx.temp (S : Sx P F0 H0 F H) (h : H q = none) : Sx P F0 H0 F (upd H q o) := by
  refine ⟨S.le, fun a u e => ?_, S.new, fun a u e n => ?_, fun a z => ?_⟩
  · rw [upd_ne (ne_of_none (S.sub a u e) h)]; exact S.sub a u e
  · rw [upd_ne (ne_of_none (S.same a u e n) h)]; exact S.same a u e n
  · have l := S.live a z
    have ne : a ≠ q := fun e => l (by rw [e]; exact h)
    rw [upd_ne ne]; exact l
/-- a new object that stands for good -/
theorem Sx.alloc (S : Sx P F0 H0 F H) (h : H q = none) : Sx P F0 H0 (upd F q o) (upd H q o) := by
  refine ⟨S.le.trans (S.leN h), fun a u e => ?_, fun a u e n => ?_, (S.temp h).same, (S.temp h).live⟩
  · by_cases z : a = q
    · subst z; rw [upd_same] at e ⊢; exact e
    · rw [upd_ne z] at e ⊢; exact S.sub a u e
  · by_cases z : a = q
    · subst z; exact S.free0 h
    · rw [upd_ne z] at e; exact S.new a u e n
/-- an object of one's own is changed -/
theorem Sx.put (S : Sx P F0 H0 F H) (w : Ow P H0 F H p o) : Sx P F0 H0 F (upd H p u) := by
  refine ⟨S.le, fun a v e => ?_, S.new, fun a v e n => ?_, fun a z => ?_⟩
  · have ne : a ≠ p := fun z => by rw [z, w.fr] at e; cases e
    rw [upd_ne ne]; exact S.sub a v e
  · have ne : a ≠ p := fun z => by
      rcases w.mine with m | m
      · rw [z, m] at e; cases e
      · exact n (z ▸ m)
    rw [upd_ne ne]; exact S.same a v e n
  · by_cases e : a = p
    · subst e; rw [upd_same]; exact fun h => nomatch h
    · rw [upd_ne e]; exact S.live a z
/-- .. is let stand for good -/
theorem Sx.freeze (S : Sx P F0 H0 F H) (w : Ow P H0 F H p o) (h0 : H0 p = none) : Sx P F0 H0 (upd F p o) H := by
  refine ⟨S.le.trans fun a u e => ?_, fun a u e => ?_, fun a u e n => ?_, S.same, S.live⟩
  · rw [upd_ne (ne_of_none e w.fr)]; exact e
  · by_cases z : a = p
    · subst z; rw [upd_same] at e; cases e; exact w.at_
    · rw [upd_ne z] at e; exact S.sub a u e
  · by_cases z : a = p
    · subst z; exact h0
    · rw [upd_ne z] at e; exact S.new a u e n
theorem Ow.leF (w : Ow P H0 F H p o) : Same F (upd F p o) := fun a u e => by rw [upd_ne (ne_of_none e w.fr)]; exact e
/-- behind a call that may change P' -/
theorem Sx.call (S : Sx P F0 H0 F H) (c : Sx P' F H F' H') (h : ∀ a, P' a → P a ∨ H0 a = none) : Sx P F0 H0 F' H' := by
  refine ⟨S.le.trans c.le, c.sub, fun a u e n => ?_, fun a u e n => ?_, fun a z => ?_⟩
  · cases q : F a with
    | some o => exact S.new a o q n
    | none => exact S.free0 (c.new a u e q)
  · refine c.same a u (S.same a u e n) fun z => ?_
    rcases h a z with z | z
    · exact n z
    · rw [z] at e; cases e
  · by_cases y : P' a
    · exact c.live a y
    · have l := S.live a z
      cases e : H a with
      | none => exact absurd e l
      | some o =>
        rw [c.same a o e y]
        exact fun h => nomatch h
theorem Sx.call0 (S : Sx P F0 H0 F H) (c : Sx P0 F H F' H') : Sx P F0 H0 F' H' := S.call c fun _ z => z.elim
theorem Sx.call1 (S : Sx P F0 H0 F H) (c : Sx (fun a => a = p) F H F' H') (w : Ow P H0 F H p o) : Sx P F0 H0 F' H' := S.call c fun a z => by
  subst z
  exact w.mine.symm
theorem Ow.call (w : Ow P H0 F H p o) (c : Sx P' F H F' H') (n : ¬ P' p) : Ow P H0 F' H' p o := by
  refine ⟨?_, c.same p o w.at_ n, w.mine⟩
  cases q : F' p with
  | none => rfl
  | some u =>
    have z := c.new p u q w.fr
    rw [w.at_] at z
    cases z
theorem Ow.call0 (w : Ow P H0 F H p o) (c : Sx P0 F H F' H') : Ow P H0 F' H' p o := w.call c fun z => z
theorem Ow.ne (w : Ow P H0 F H p o) (h : H q = none) : p ≠ q := ne_of_none w.at_ h
theorem Ow.temp (w : Ow P H0 F H p o) (h : H q = none) : Ow P H0 F (upd H q u) p o := ⟨w.fr, by rw [upd_ne (w.ne h)]; exact w.at_, w.mine⟩
theorem Ow.alloc (w : Ow P H0 F H p o) (h : H q = none) : Ow P H0 (upd F q u) (upd H q u) p o := ⟨by rw [upd_ne (w.ne h)]; exact w.fr, by rw [upd_ne (w.ne h)]; exact w.at_, w.mine⟩
theorem Ow.put (w : Ow P H0 F H p o) : Ow P H0 F (upd H p u) p u := ⟨w.fr, upd_same, w.mine⟩
theorem Ow.putO {o' : HO} (w : Ow P H0 F H p o) (n : p ≠ q) : Ow P H0 F (upd H q o') p o := ⟨w.fr, by rw [upd_ne n]; exact w.at_, w.mine⟩
theorem Ow.freezeO {o' : HO} (w : Ow P H0 F H p o) (n : p ≠ q) : Ow P H0 (upd F q o') H p o := ⟨by rw [upd_ne n]; exact w.fr, w.at_, w.mine⟩
/-- a new object of one's own -/
theorem Sx.own (S : Sx P F0 H0 F H) (h : H q = none) : Ow P H0 F (upd H q o) q o := ⟨S.free h, upd_same, .inl (S.free0 h)⟩
/-- inside a callee's eyes: an own object handed in -/
theorem Ow.arg (w : Ow P H0 F H p o) : Ow (fun a => a = p) H F H p o := ⟨w.fr, w.at_, .inr rfl⟩
theorem Ow.back {o' : HO} (w : Ow P H0 F H p o) (z : Ow (fun a => a = p) H F' H' p o') : Ow P H0 F' H' p o' := ⟨z.fr, z.at_, w.mine⟩
end
end Gl

namespace Gl
open PySem PySem.Spec PyProof.Rows L2

/-! ## tests -/
theorem if_b {β : Type} {b : Bool} {A B : Prop} {m1 m2 : Option β} {r : β} (hm : (if b = true then m1 else m2) = some r) (h1 : b = true → m1 = some r → A) (h2 : b = false → m2 = some r → B) : if b = true then A else B := by
  cases b with
  | true => exact h1 rfl hm
  | false => exact h2 rfl hm
theorem if_j {b : Bool} {A B : Prop} (h1 : b = true → A) (h2 : b = false → B) : if b = true then A else B := by
  cases b with
  | true => exact h1 rfl
  | false => exact h2 rfl
/-- and, or: the right side is looked at alone, with whatever is wanted of it; what is known behind both is told once -/
theorem and_j {b : Bool} {u : (Bool → Hp → Prop) → Prop} {Q : Bool → Hp → Prop} {H : Hp} (J : Bool → Hp → Prop) (h1 : b = true → ∀ Q' : Bool → Hp → Prop, (∀ c H', J c H' → Q' c H') → u Q') (h2 : b = false → J false H) (k : ∀ c H', J c H' → Q c H') : if b = true then u Q else Q false H := by
  cases b with
  | true => exact h1 rfl Q k
  | false => exact k _ _ (h2 rfl)
theorem or_j {b : Bool} {u : (Bool → Hp → Prop) → Prop} {Q : Bool → Hp → Prop} {H : Hp} (J : Bool → Hp → Prop) (h1 : b = false → ∀ Q' : Bool → Hp → Prop, (∀ c H', J c H' → Q' c H') → u Q') (h2 : b = true → J true H) (k : ∀ c H', J c H' → Q c H') : if b = true then Q true H else u Q := by
  cases b with
  | true => exact k _ _ (h2 rfl)
  | false => exact h1 rfl Q k
theorem andV_j {b : Bool} {u : VK → Prop} {Q : VK} {H : Hp} (J : V → Hp → Prop) (h1 : b = true → ∀ Q' : VK, (∀ c H', J c H' → Q' c H') → u Q') (h2 : b = false → J (.bl false) H) (k : ∀ c H', J c H' → Q c H') : if b = true then u Q else Q (.bl false) H := by
  cases b with
  | true => exact h1 rfl Q k
  | false => exact k _ _ (h2 rfl)
theorem orV_j {b : Bool} {u : VK → Prop} {Q : VK} {H : Hp} (J : V → Hp → Prop) (h1 : b = false → ∀ Q' : VK, (∀ c H', J c H' → Q' c H') → u Q') (h2 : b = true → J (.bl true) H) (k : ∀ c H', J c H' → Q c H') : if b = true then Q (.bl true) H else u Q := by
  cases b with
  | true => exact k _ _ (h2 rfl)
  | false => exact h1 rfl Q k
/-- .. where the right side leaves the heap as it is -/
theorem and_p {b c : Bool} {u : (Bool → Hp → Prop) → Prop} {Q : Bool → Hp → Prop} {H : Hp} (hu : b = true → ∀ Q' : Bool → Hp → Prop, Q' c H → u Q') (k : Q (b && c) H) : if b = true then u Q else Q false H := by
  cases b with
  | true => exact hu rfl Q k
  | false => exact k
theorem or_p {b c : Bool} {u : (Bool → Hp → Prop) → Prop} {Q : Bool → Hp → Prop} {H : Hp} (hu : b = false → ∀ Q' : Bool → Hp → Prop, Q' c H → u Q') (k : Q (b || c) H) : if b = true then Q true H else u Q := by
  cases b with
  | true => exact k
  | false => exact hu rfl Q k
theorem andV_p {b c : Bool} {u : VK → Prop} {Q : VK} {H : Hp} (hu : b = true → ∀ Q' : VK, Q' (.bl c) H → u Q') (k : Q (.bl (b && c)) H) : if b = true then u Q else Q (.bl false) H := by
  cases b with
  | true => exact hu rfl Q k
  | false => exact k
theorem orV_p {b c : Bool} {u : VK → Prop} {Q : VK} {H : Hp} (hu : b = false → ∀ Q' : VK, Q' (.bl c) H → u Q') (k : Q (.bl (b || c)) H) : if b = true then Q (.bl true) H else u Q := by
  cases b with
  | true => exact k
  | false => exact hu rfl Q k

/-! ## operators on plain values -/
section
variable {X : Cx}
theorem op_eqI : OpR X (compareOp .Eq) (rI0 fun i j => .bl (decide (i = j))) := opB0 fun _ _ _ _ _ _ _ h => eq_int (by rw [Bool.beq_eq_decide_eq]; exact h)
theorem op_neI : OpR X (compareOp .NotEq) (rI0 fun i j => .bl (!decide (i = j))) := opB0 fun _ _ _ _ _ _ _ h => ne_int (by rw [bne, Bool.beq_eq_decide_eq]; exact h)
def rS0 (g : Str → Str → V) : R2 := fun x y H Q => ∃ i j, x = .str i ∧ y = .str j ∧ Q (g i j) H
theorem dec_strV {i j : Str} : decide (V.str i = V.str j) = decide (i = j) := by
  by_cases e : i = j
  · subst e; simp
  · rw [decide_eq_false e, decide_eq_false fun z => e (V.str.inj z)]
theorem dec_blV {i j : Bool} : decide (V.bl i = V.bl j) = decide (i = j) := by cases i <;> cases j <;> rfl
theorem op_eqS : OpR X (compareOp .Eq) (rS0 fun i j => .bl (decide (i = j))) := by
  intro pins s σ H x y v u Q I rx ry h
  obtain ⟨i, j, rfl, rfl, q⟩ := h
  exact op_eq pins s σ H _ _ v u Q I rx ry ⟨rfl, by rw [dec_strV]; exact q⟩
theorem op_neS : OpR X (compareOp .NotEq) (rS0 fun i j => .bl (!decide (i = j))) := by
  intro pins s σ H x y v u Q I rx ry h
  obtain ⟨i, j, rfl, rfl, q⟩ := h
  exact op_ne pins s σ H _ _ v u Q I rx ry ⟨rfl, by rw [dec_strV]; exact q⟩
def rB0 (g : Bool → Bool → V) : R2 := fun x y H Q => ∃ i j, x = .bl i ∧ y = .bl j ∧ Q (g i j) H
theorem op_eqB : OpR X (compareOp .Eq) (rB0 fun i j => .bl (decide (i = j))) := by
  intro pins s σ H x y v u Q I rx ry h
  obtain ⟨i, j, rfl, rfl, q⟩ := h
  exact op_eq pins s σ H _ _ v u Q I rx ry ⟨rfl, by rw [dec_blV]; exact q⟩
theorem op_neB : OpR X (compareOp .NotEq) (rB0 fun i j => .bl (!decide (i = j))) := by
  intro pins s σ H x y v u Q I rx ry h
  obtain ⟨i, j, rfl, rfl, q⟩ := h
  exact op_ne pins s σ H _ _ v u Q I rx ry ⟨rfl, by rw [dec_blV]; exact q⟩
end
/-- i stands in j -/
def inS (i j : Str) : Bool := !(Builtin.Str.occurrences j i 0 j.length 1).isEmpty
def mulOk (a b : Int) : Bool := (decide (-(2 ^ 64) < a) && decide (a < 2 ^ 64)) || (decide (-(2 ^ 64) < b) && decide (b < 2 ^ 64))
theorem mulOk_of {a b : Int} (h : mulOk a b = true) : CMul a b := by
  unfold mulOk at h
  simp only [Bool.or_eq_true, Bool.and_eq_true, decide_eq_true_eq] at h
  exact h
def divOk (b : Int) : Bool := decide (0 < b) && decide (b < 1073741824)
theorem divOk_of {a b : Int} (h : divOk b = true) : CDiv a b := by
  unfold divOk at h
  simp only [Bool.and_eq_true, decide_eq_true_eq] at h
  exact h
def modOk (b : Int) : Bool := decide (0 < b)
theorem modOk_of {b : Int} (h : modOk b = true) : 0 < b := of_decide_eq_true h
def powOk (a b : Int) : Bool := decide (0 ≤ b) && (decide (b ≤ 1000000) && decide (a.natAbs < 2 ^ 64))
theorem powOk_of {a b : Int} (h : powOk a b = true) : CPow a b := by
  unfold powOk at h
  simp only [Bool.and_eq_true, decide_eq_true_eq] at h
  exact h
def catOk (a b : Str) : Bool := decide (a.length + b.length ≤ sizeLine)
theorem catOk_of {a b : Str} (h : catOk a b = true) : a.length + b.length ≤ sizeLine := of_decide_eq_true h
def fits {α : Type} (a : List α) : Bool := decide (a.length < sizeLine)
def fitsS (a : Str) : Bool := decide (a.length ≤ sizeLine)
theorem fitsS_of {a : Str} (h : fitsS a = true) : a.length ≤ sizeLine := of_decide_eq_true h
def fits2 {α : Type} (a b : List α) : Bool := decide (a.length + b.length ≤ sizeLine)
def ixS (s : Str) (i : Int) : Option Str := gd (fitsS s) ((atI s.cps.toList i).bind fun c => some ⟨#[c]⟩)
theorem ixS_some {s z : Str} {i : Int} (h : ixS s i = some z) : ∃ c, s.length ≤ sizeLine ∧ atI s.cps.toList i = some c ∧ z = ⟨#[c]⟩ := by
  obtain ⟨h1, h2⟩ := gd_some h
  obtain ⟨c, h3, h4⟩ := bd_some h2
  exact ⟨c, fitsS_of h1, h3, (Option.some.inj h4).symm⟩
/-- xs[lo:hi] -/
def cut {α : Type} (xs : List α) (lo hi : Option Int) : List α := (xs.drop (HT.sIx xs.length 0 lo)).take (HT.sIx xs.length xs.length hi - HT.sIx xs.length 0 lo)
def rng (a b : Int) : List Int := (List.range (b - a).toNat).map fun i => a + (i : Nat)
def maxI (i j : Int) : Int := if j > i then j else i
def minI (i j : Int) : Int := if j < i then j else i
def b2I (b : Bool) : Int := if b then 1 else 0
/-- the sgns of a text, one by one -/
def sgns (z : Str) : List Str := z.cps.toList.map fun c => ⟨#[c]⟩

/-! ## what is seen of rows -/
section
variable {α : Type} {A : R α} {K : PySem.W.Frag} {F H F0 H0 : Hp} {P : Addr → Prop} {v : V} {xs ys : List α} {Q : VK} {i : Int} {a : α} {p : Addr} {vs : List V}
def SeenL (A : R α) (K : PySem.W.Frag) (F H : Hp) (v : V) (xs : List α) : Prop := ∃ p vs, v = .ref p ∧ H p = some (.lst vs) ∧ Row A K F vs xs
def SeenR (A : R α) (K : PySem.W.Frag) (F H : Hp) (v : V) (xs : List α) : Prop := ∃ p vs, v = .ref p ∧ SqL K H p vs ∧ Row A K F vs xs
def SeenT (A : R α) (K : PySem.W.Frag) (F H : Hp) (v : V) (xs : List α) : Prop := ∃ p vs, v = .ref p ∧ SqT K H p vs ∧ Row A K F vs xs
def SeenQ (A : R α) (K : PySem.W.Frag) (F H : Hp) (v : V) (xs : List α) : Prop := SeenR A K F H v xs ∨ SeenT A K F H v xs
theorem SeenL.r (h : SeenL A K F H v xs) : SeenR A K F H v xs := let ⟨p, vs, h1, h2, h3⟩ := h; ⟨p, vs, h1, SqL.of h2, h3⟩
theorem Sx.l (S : Sx P F0 H0 F H) (r : (qL A).r K F v xs) : SeenL A K F H v xs := let ⟨p, vs, h1, h2, h3⟩ := r; ⟨p, vs, h1, S.sub _ _ h2, h3⟩
theorem Sx.t (S : Sx P F0 H0 F H) (r : (qT A).r K F v xs) : SeenT A K F H v xs := let ⟨p, vs, h1, h2, h3⟩ := r; ⟨p, vs, h1, same_t S.sub h2, h3⟩
theorem Sx.q (S : Sx P F0 H0 F H) (r : (qQ A).r K F v xs) : SeenQ A K F H v xs := r.elim (fun r => .inl (S.l r).r) fun r => .inr (S.t r)
theorem Ow.l (w : Ow P H0 F H p (.lst vs)) (r : Row A K F vs xs) : SeenL A K F H (.ref p) xs := ⟨p, vs, rfl, w.at_, r⟩
theorem SeenL.q (h : SeenL A K F H v xs) : SeenQ A K F H v xs := .inl h.r
theorem SeenR.q (h : SeenR A K F H v xs) : SeenQ A K F H v xs := .inl h
theorem SeenT.q (h : SeenT A K F H v xs) : SeenQ A K F H v xs := .inr h
theorem SeenQ.seq (h : SeenQ A K F H v xs) : ∃ p vs, v = .ref p ∧ (SqL K H p vs ∨ SqT K H p vs) ∧ Row A K F vs xs := by
  rcases h with ⟨p, vs, rfl, h, r⟩ | ⟨p, vs, rfl, h, r⟩
  · exact ⟨p, vs, rfl, .inl h, r⟩
  · exact ⟨p, vs, rfl, .inr h, r⟩
/-- the script -/
def qC : R (List Int) := ⟨fun K F v xs => ∃ p, v = .ref p ∧ SqL K F p (xs.map V.int), fun e ⟨p, h1, h2⟩ => ⟨p, h1, Same.seq e h2⟩⟩
theorem row_ints {K : PySem.W.Frag} {F : Hp} : ∀ xs : List Int, Row qI K F (xs.map V.int) xs
  | [] => .nil
  | _ :: xs => .cons rfl (row_ints xs)
theorem Sx.c {xs : List Int} (S : Sx P F0 H0 F H) (r : qC.r K F v xs) : SeenR qI K F H v xs := let ⟨p, h1, h2⟩ := r; ⟨p, _, h1, Same.seq S.sub h2, row_ints xs⟩
theorem row_at (r : Row A K F vs xs) (h : atI xs i = some a) : ∃ u, atI vs i = some u ∧ A.r K F u a := by
  unfold atI at h ⊢
  rw [pLen r]
  obtain ⟨j, h1, h2⟩ := bd_some h
  obtain ⟨u, h3, h4⟩ := pGet r h2
  exact ⟨u, by rw [h1]; exact h3, h4⟩
theorem row_cut (r : Row A K F vs xs) (lo hi : Option Int) : Row A K F (cutV vs lo hi) (cut xs lo hi) := by
  unfold cutV cut
  rw [pLen r]
  exact pTake _ (pDrop _ r)
theorem rd_ixL (s : SeenR A K F H v xs) (h : atI xs i = some a) (k : ∀ u, A.r K F u a → Q u H) : rIxL K v (.int i) H Q := by
  obtain ⟨p, vs, rfl, h1, r⟩ := s
  obtain ⟨u, h2, h3⟩ := row_at r h
  exact ⟨p, vs, i, u, rfl, rfl, h1, h2, k u h3⟩
theorem rd_ixT (s : SeenT A K F H v xs) (h : atI xs i = some a) (k : ∀ u, A.r K F u a → Q u H) : rIxT K v (.int i) H Q := by
  obtain ⟨p, vs, rfl, h1, r⟩ := s
  obtain ⟨u, h2, h3⟩ := row_at r h
  exact ⟨p, vs, i, u, rfl, rfl, h1, h2, k u h3⟩
theorem rd_ixQ (s : SeenQ A K F H v xs) (h : atI xs i = some a) (k : ∀ u, A.r K F u a → Q u H) : rIx K v (.int i) H Q := by
  rcases s with s | s
  · exact .inl (rd_ixL s h k)
  · exact .inr (.inl (rd_ixT s h k))
theorem rd_len (s : SeenQ A K F H v xs) (k : Q (.int (xs.length : Int)) H) : ∃ p ys, [v] = [V.ref p] ∧ (SqL K H p ys ∨ SqT K H p ys) ∧ Q (.int (ys.length : Int)) H := by
  obtain ⟨p, vs, rfl, h1, r⟩ := s.seq
  exact ⟨p, vs, rfl, h1, by rw [pLen r]; exact k⟩
/-- what is wanted of a new object; of a new list, tuple with such items -/
def nK (Q : VK) (H : Hp) (o : HO) : Prop := ∀ p, H p = none → Q (.ref p) (upd H p o)
def nL (A : R α) (K : PySem.W.Frag) (F : Hp) (Q : VK) (H : Hp) (xs : List α) : Prop := ∀ p us, H p = none → Row A K F us xs → Q (.ref p) (upd H p (.lst us))
def nT (A : R α) (K : PySem.W.Frag) (F : Hp) (Q : VK) (H : Hp) (xs : List α) : Prop := ∀ p us, H p = none → Row A K F us xs → Q (.ref p) (upd H p (.tup us))
theorem rd_slL {lo hi : Option Int} (s : SeenR A K F H v xs) (k : nL A K F Q H (cut xs lo hi)) : rSlL K v lo hi H Q := by
  obtain ⟨p, vs, rfl, h1, r⟩ := s
  exact ⟨p, vs, rfl, h1, fun q hq => k q _ hq (row_cut r lo hi)⟩
theorem rd_list (s : SeenQ A K F H v xs) (k : nL A K F Q H xs) : ∃ p ys, [v] = [V.ref p] ∧ (SqL K H p ys ∨ SqT K H p ys) ∧ ∀ l, H l = none → Q (.ref l) (upd H l (.lst ys)) := by
  obtain ⟨p, vs, rfl, h1, r⟩ := s.seq
  exact ⟨p, vs, rfl, h1, fun q hq => k q _ hq r⟩
theorem rd_tuple (s : SeenR A K F H v xs) (k : nT A K F Q H xs) : kTup K v H Q := by
  obtain ⟨p, vs, rfl, h1, r⟩ := s
  exact .inl ⟨p, vs, rfl, h1, fun q hq => k q _ hq r⟩
theorem rd_cat (s : SeenL A K F H v xs) {w : V} (t : SeenL A K F H w ys) (h : fits2 xs ys = true) (k : nL A K F Q H (xs ++ ys)) : rCat v w H Q := by
  obtain ⟨p, vs, rfl, h1, r⟩ := s
  obtain ⟨q, us, rfl, h2, r2⟩ := t
  exact ⟨p, q, vs, us, rfl, rfl, h1, h2, by rw [pLen r, pLen r2]; exact of_decide_eq_true h, fun z hz => k z _ hz (pApp r r2)⟩
theorem rd_app (w : Ow P H0 F H p (.lst vs)) (r : Row A K F vs xs) {y : V} (h : fits xs = true) (k : Q .non (upd H p (.lst (vs ++ [y])))) : rAppend (.ref p) [y] H Q :=
  ⟨p, vs, y, rfl, rfl, w.at_, by rw [pLen r]; exact of_decide_eq_true h, k⟩
theorem rd_extend (w : Ow P H0 F H p (.lst vs)) (r : Row A K F vs xs) {b : V} {ys : List α} (s : SeenL A K F H b ys) (h : fits2 xs ys = true) (k : ∀ us, Row A K F us ys → Q .non (upd H p (.lst (vs ++ us)))) : rExtend (.ref p) [b] H Q := by
  obtain ⟨q, us, rfl, h2, r2⟩ := s
  exact ⟨p, q, vs, us, rfl, rfl, w.at_, h2, by rw [pLen r, pLen r2]; exact of_decide_eq_true h, k us r2⟩
theorem Ow.ty (w : Ow P H0 F H p (.lst vs)) : tyV K "list" (.ref p) H := .inl ⟨rfl, vs, SqL.of w.at_⟩
end
/-! ### in -/
theorem inV_str {K : PySem.W.Frag} {F : Hp} {a : Str} : ∀ {vs : List V} {xs : List Str}, Row qS K F vs xs → inV (.str a) vs = decide (a ∈ xs) ∧ vs.all flatV = true
  | _, _, .nil => ⟨rfl, rfl⟩
  | v :: vs, x :: xs, .cons r t => by
    obtain ⟨h1, h2⟩ := inV_str (a := a) t
    cases (show v = .str x from r)
    refine ⟨?_, ?_⟩
    · show (eqV (.str x) (.str a) || inV (.str a) vs) = _
      rw [h1]
      show ((x == a) || decide (a ∈ xs)) = decide (a ∈ x :: xs)
      by_cases e : a = x
      · subst e; simp
      · have e2 : (x == a) = false := beq_eq_false_iff_ne.mpr (Ne.symm e)
        rw [e2]; simp [e]
    · show (flatV (.str x) && vs.all flatV) = true
      rw [h2]; rfl
theorem inV_int {K : PySem.W.Frag} {F : Hp} {a : Int} : ∀ {vs : List V} {xs : List Int}, Row qI K F vs xs → inV (.int a) vs = decide (a ∈ xs) ∧ vs.all flatV = true
  | _, _, .nil => ⟨rfl, rfl⟩
  | v :: vs, x :: xs, .cons r t => by
    obtain ⟨h1, h2⟩ := inV_int (a := a) t
    cases (show v = .int x from r)
    refine ⟨?_, ?_⟩
    · show (eqV (.int x) (.int a) || inV (.int a) vs) = _
      rw [h1]
      show ((x == a) || decide (a ∈ xs)) = decide (a ∈ x :: xs)
      by_cases e : a = x
      · subst e; simp
      · have e2 : (x == a) = false := beq_eq_false_iff_ne.mpr (Ne.symm e)
        rw [e2]; simp [e]
    · show (flatV (.int x) && vs.all flatV) = true
      rw [h2]; rfl
section
variable {K : PySem.W.Frag} {F H : Hp} {v : V} {Q : VK}
theorem rd_inS {xs : List Str} {a : Str} (s : SeenQ qS K F H v xs) (k : Q (.bl (decide (a ∈ xs))) H) : rIn K false (.str a) v H Q := by
  obtain ⟨p, vs, rfl, h1, r⟩ := s.seq
  obtain ⟨e1, e2⟩ := inV_str (a := a) r
  exact ⟨p, vs, rfl, h1, rfl, e2, by show Q (.bl (inV (.str a) vs)) H; rw [e1]; exact k⟩
theorem rd_niS {xs : List Str} {a : Str} (s : SeenQ qS K F H v xs) (k : Q (.bl (!decide (a ∈ xs))) H) : rIn K true (.str a) v H Q := by
  obtain ⟨p, vs, rfl, h1, r⟩ := s.seq
  obtain ⟨e1, e2⟩ := inV_str (a := a) r
  exact ⟨p, vs, rfl, h1, rfl, e2, by show Q (.bl (!inV (.str a) vs)) H; rw [e1]; exact k⟩
theorem rd_inI {xs : List Int} {a : Int} (s : SeenQ qI K F H v xs) (k : Q (.bl (decide (a ∈ xs))) H) : rIn K false (.int a) v H Q := by
  obtain ⟨p, vs, rfl, h1, r⟩ := s.seq
  obtain ⟨e1, e2⟩ := inV_int (a := a) r
  exact ⟨p, vs, rfl, h1, rfl, e2, by show Q (.bl (inV (.int a) vs)) H; rw [e1]; exact k⟩
theorem rd_niI {xs : List Int} {a : Int} (s : SeenQ qI K F H v xs) (k : Q (.bl (!decide (a ∈ xs))) H) : rIn K true (.int a) v H Q := by
  obtain ⟨p, vs, rfl, h1, r⟩ := s.seq
  obtain ⟨e1, e2⟩ := inV_int (a := a) r
  exact ⟨p, vs, rfl, h1, rfl, e2, by show Q (.bl (!inV (.int a) vs)) H; rw [e1]; exact k⟩
end
/-! ### == of data -/
/-- what stands for Lean's in the library's data -/
structure Dat {α : Type} (A : R α) where
  d : α → PyData
  dp : ∀ {K : PySem.W.Frag} {F : Hp} {v : V} {a : α}, A.r K F v a → Dp K F v (d a)
  eq : ∀ a b : α, PyData.eqv (d a) (d b) = true ↔ a = b
mutual
theorem Dp.mono {K : PySem.W.Frag} {F F' : Hp} (e : Same F F') : ∀ {v : V} {d : PyData}, Dp K F v d → Dp K F' v d
  | _, _, .non => .non
  | _, _, .bl b => .bl b
  | _, _, .int i => .int i
  | _, _, .str x => .str x
  | _, _, .lst h a => .lst (Same.seq e h) (DpAll.mono e a)
  | _, _, .tup h a => .tup (same_t e h) (DpAll.mono e a)
theorem DpAll.mono {K : PySem.W.Frag} {F F' : Hp} (e : Same F F') : ∀ {vs : List V} {ds : List PyData}, DpAll K F vs ds → DpAll K F' vs ds
  | _, _, .nil => .nil
  | _, _, .cons h a => .cons (Dp.mono e h) (DpAll.mono e a)
end
def dI : Dat qI := ⟨.int, fun {K F v a} h => by cases (show v = .int a from h); exact .int a, fun a b => by simp [PyData.eqv]⟩
def dB : Dat qB := ⟨.bool, fun {K F v a} h => by cases (show v = .bl a from h); exact .bl a, fun a b => by simp [PyData.eqv]⟩
def dS : Dat qS := ⟨.str, fun {K F v a} h => by cases (show v = .str a from h); exact .str a, fun a b => by simp [PyData.eqv]⟩
theorem dpAll {α : Type} {A : R α} (D : Dat A) {K : PySem.W.Frag} {F : Hp} : ∀ {vs : List V} {xs : List α}, Row A K F vs xs → DpAll K F vs (xs.map D.d)
  | _, _, .nil => .nil
  | _, _, .cons r t => .cons (D.dp r) (dpAll D t)
theorem eqvAll_iff {α : Type} {A : R α} (D : Dat A) : ∀ xs ys : List α, PyData.eqvAll (xs.map D.d) (ys.map D.d) = true ↔ xs = ys
  | [], [] => by simp [PyData.eqvAll]
  | [], _ :: _ => by simp [PyData.eqvAll]
  | _ :: _, [] => by simp [PyData.eqvAll]
  | x :: xs, y :: ys => by
    show (PyData.eqv (D.d x) (D.d y) && PyData.eqvAll (xs.map D.d) (ys.map D.d)) = true ↔ _
    rw [Bool.and_eq_true, D.eq x y, eqvAll_iff D xs ys]
    simp
def dL {α : Type} {A : R α} (D : Dat A) : Dat (qL A) := ⟨fun xs => .list (xs.map D.d), fun {K F v a} h => by
    obtain ⟨p, vs, rfl, h2, h3⟩ := h
    exact .lst (SqL.of h2) (dpAll D h3), fun a b => eqvAll_iff D a b⟩
def dT {α : Type} {A : R α} (D : Dat A) : Dat (qT A) := ⟨fun xs => .tuple (xs.map D.d), fun {K F v a} h => by
    obtain ⟨p, vs, rfl, h2, h3⟩ := h
    exact .tup h2 (dpAll D h3), fun a b => eqvAll_iff D a b⟩
def d2 {α β : Type} {A : R α} {B : R β} (D : Dat A) (E : Dat B) : Dat (q2 A B) := ⟨fun x => .tuple [D.d x.1, E.d x.2], fun {K F v a} h => by
    obtain ⟨p, u, w, rfl, h2, h3, h4⟩ := h
    exact .tup h2 (.cons (D.dp h3) (.cons (E.dp h4) .nil)), fun a b => by
    show (PyData.eqv (D.d a.1) (D.d b.1) && (PyData.eqv (E.d a.2) (E.d b.2) && true)) = true ↔ _
    rw [Bool.and_eq_true, Bool.and_eq_true, D.eq, E.eq]
    obtain ⟨a1, a2⟩ := a
    obtain ⟨b1, b2⟩ := b
    simp⟩
def shp {α : Type} {A : R α} (D : Dat A) (a : α) : Bool := SeqAt.shaped (D.d a)
section
variable {α : Type} {A : R α} {K : PySem.W.Frag} {F H F0 H0 : Hp} {P : Addr → Prop} {v w : V} {a b : α} {Q : VK} [DecidableEq α]
theorem SeenR.dp {α : Type} {A : R α} {K : PySem.W.Frag} {F H : Hp} {v : V} {xs : List α} (S : Same F H) (D : Dat A) (h : SeenR A K F H v xs) : Dp K H v (.list (xs.map D.d)) := let ⟨p, vs, h1, h2, h3⟩ := h; by subst h1; exact .lst h2 (dpAll D (Row.mono S h3))
theorem eqv_dec (D : Dat A) (a b : α) : PyData.eqv (D.d a) (D.d b) = decide (a = b) := by
  by_cases e : a = b
  · rw [(D.eq a b).mpr e, decide_eq_true e]
  · rw [decide_eq_false e]
    cases h : PyData.eqv (D.d a) (D.d b) with
    | false => rfl
    | true => exact absurd ((D.eq a b).mp h) e
/-- what is seen of a datum -/
def SeenD (D : Dat A) (K : PySem.W.Frag) (H : Hp) (v : V) (a : α) : Prop := Dp K H v (D.d a)
theorem Sx.d (S : Sx P F0 H0 F H) (D : Dat A) (r : A.r K F v a) : SeenD D K H v a := Dp.mono S.sub (D.dp r)
theorem rd_eqD {D : Dat A} (s : SeenD D K H v a) (t : SeenD D K H w b) (h1 : shp D a = true) (h2 : shp D b = true) (k : Q (.bl (decide (a = b))) H) : rEqD K v w H Q :=
  ⟨_, _, s, t, h1, h2, by rw [eqv_dec]; exact k⟩
theorem rd_neD {D : Dat A} (s : SeenD D K H v a) (t : SeenD D K H w b) (h1 : shp D a = true) (h2 : shp D b = true) (k : Q (.bl (!decide (a = b))) H) : rNeD K v w H Q :=
  ⟨_, _, s, t, h1, h2, by rw [eqv_dec]; exact k⟩
end
section
variable {α : Type} {A : R α} {K : PySem.W.Frag} {F H F0 H0 : Hp} {P : Addr → Prop} {p : Addr} {vs : List V} {xs : List α}
theorem Sx.cd {v : V} {xs : List Int} (S : Sx P F0 H0 F H) (r : qC.r K F v xs) : SeenD (dL dI) K H v xs := SeenR.dp S.sub dI (S.c r)
theorem Ow.d (w : Ow P H0 F H p (.lst vs)) (S : Sx P F0 H0 F H) (D : Dat A) (r : Row A K F vs xs) : SeenD (dL D) K H (.ref p) xs := .lst (SqL.of w.at_) (dpAll D (Row.mono S.sub r))
end
end Gl

namespace Gl
open PySem PySem.Spec PyProof.Rows L2

/-! ## loops -/
def loopS {α S : Type} (f : α → S → Option S) : List α → S → Option S
  | [], s => some s
  | x :: xs, s => (f x s).bind fun s' => loopS f xs s'
def loopC {α S ρ : Type} (f : α → S → Option (Ctl S ρ)) : List α → S → Option (Ctl S ρ)
  | [], s => some (.nx s)
  | x :: xs, s => (f x s).bind fun c => match c with
    | .nx s' => loopC f xs s'
    | .bk s' => some (.nx s')
    | .rt r => some (.rt r)
/-- behind a loop that may return -/
def aft {S ρ : Type} (c : Ctl S ρ) (k : S → Option ρ) : Option ρ := match c with
  | .nx s => k s
  | .bk s => k s
  | .rt r => some r
/-- the same within a loop -/
def aftC {S S' ρ : Type} (c : Ctl S ρ) (k : S → Option (Ctl S' ρ)) : Option (Ctl S' ρ) := match c with
  | .nx s => k s
  | .bk s => k s
  | .rt r => some (.rt r)
def fuel : Nat := 1000000000
def whileS {S : Type} (c : S → Option (Bool × S)) (f : S → Option S) : Nat → S → Option S
  | 0, _ => none
  | n + 1, s => (c s).bind fun b => if b.1 = true then (f b.2).bind fun s' => whileS c f n s' else some b.2
def whileC {S ρ : Type} (c : S → Option (Bool × S)) (f : S → Option (Ctl S ρ)) : Nat → S → Option (Ctl S ρ)
  | 0, _ => none
  | n + 1, s => (c s).bind fun b => if b.1 = true then (f b.2).bind fun c' => match c' with
    | .nx s' => whileC c f n s'
    | .bk s' => some (.nx s')
    | .rt r => some (.rt r) else some (.nx b.2)

/-- what an iterator hands out, one behind another -/
structure Feeds (J : It) (n : Nat) (G : Hp → Prop) (it : Nat → V → Prop) : Prop where
  go : ∀ i H, i < n → G H → J.go i H
  stop : ∀ H, G H → J.stop n H
  yld : ∀ i H x H', i < n → G H → J.yld i H x H' → H' = H ∧ it i x
theorem feedsL {K : PySem.W.Frag} {a : Addr} {vs : List V} : Feeds (Itl K a) vs.length (fun H => SqL K H a vs) (fun i x => vs[i]? = some x) :=
  ⟨fun i H h q => ⟨vs, vs[i], q, by simp [h]⟩, fun H q => ⟨vs, q, Nat.le_refl _⟩, fun i H x H' h q y => ⟨y.1, y.2 vs q⟩⟩
theorem feedsT {K : PySem.W.Frag} {a : Addr} {vs : List V} : Feeds (Itt K a) vs.length (fun H => SqT K H a vs) (fun i x => vs[i]? = some x) :=
  ⟨fun i H h q => ⟨vs, vs[i], q, by simp [h]⟩, fun H q => ⟨vs, q, Nat.le_refl _⟩, fun i H x H' h q y => ⟨y.1, y.2 vs q⟩⟩
theorem feedsR {lo : Int} {n : Nat} : Feeds (Itr lo n) n (fun _ => True) (fun i x => x = .int (lo + (i : Nat))) :=
  ⟨fun i H h _ => h, fun H _ => Nat.le_refl _, fun i H x H' h _ y => y⟩
theorem feedsS {z : Str} : Feeds (Its z) z.cps.size (fun _ => True) (fun i x => ∃ c, z.cps[i]? = some c ∧ x = .str ⟨#[c]⟩) :=
  ⟨fun i H h _ => h, fun H _ => Nat.le_refl _, fun i H x H' h _ y => y⟩
/-- the items are typed -/
structure Typed {α : Type} (A : R α) (K : PySem.W.Frag) (F : Hp) (n : Nat) (it : Nat → V → Prop) (xs : List α) : Prop where
  len : xs.length = n
  at_ : ∀ i x, it i x → ∃ a, xs[i]? = some a ∧ A.r K F x a
theorem typedRow {α : Type} {A : R α} {K : PySem.W.Frag} {F : Hp} {vs : List V} {xs : List α} (r : Row A K F vs xs) : Typed A K F vs.length (fun i x => vs[i]? = some x) xs :=
  ⟨(pLen r).symm, fun i x h => pGetL r h⟩
theorem typedR {K : PySem.W.Frag} {F : Hp} {a b : Int} : Typed qI K F (b - a).toNat (fun i x => i < (b - a).toNat ∧ x = .int (a + (i : Nat))) (rng a b) :=
  ⟨by unfold rng; simp, fun i x h => ⟨a + (i : Nat), by unfold rng; simp [h.1], h.2⟩⟩
theorem feedsRg {a b : Int} : Feeds (Itr a (b - a).toNat) (b - a).toNat (fun _ => True) (fun i x => i < (b - a).toNat ∧ x = .int (a + (i : Nat))) :=
  ⟨fun i H h _ => h, fun H _ => Nat.le_refl _, fun i H x H' h _ y => ⟨y.1, h, y.2⟩⟩
theorem typedS {K : PySem.W.Frag} {F : Hp} {z : Str} : Typed qS K F z.cps.size (fun i x => ∃ c, z.cps[i]? = some c ∧ x = .str ⟨#[c]⟩) (sgns z) :=
  ⟨by unfold sgns; simp, fun i x h => by
    obtain ⟨c, h1, h2⟩ := h
    exact ⟨⟨#[c]⟩, by unfold sgns; simp [h1], h2⟩⟩

abbrev ForG (J : It) (g : TG) (tb : TS) (D : Ends) (σ : L2.St) (H : Hp) : Prop :=
  ∃ W : Nat → Nat → L2.St → Hp → Prop, (∃ m, W 0 m σ H) ∧ ∀ i m σ H, W i m σ H →
    (J.stop i H ∧ D.nx σ H) ∨ (J.go i H ∧ ∃ N : L2.St → Hp → Prop, (∀ σ' H', N σ' H' → ∃ m', m' < m ∧ W (i + 1) m' σ' H') ∧ ∀ x H', J.yld i H x H' → g x σ H' fun σ2 H2 => tb { D with nx := N, ct := N, bk := D.nx } σ2 H2)
section
variable {J : It} {n : Nat} {G : Hp → Prop} {it : Nat → V → Prop} {α S ρ : Type} {A : R α} {K : PySem.W.Frag} {F : Hp} {xs : List α} {g : TG} {tb : TS} {σ : L2.St} {H : Hp} {Nx Bx Cx : L2.St → Hp → Prop} {Rx : VK}
theorem loopS_at {f : α → S → Option S} {i : Nat} {a : α} {s s1 : S} (h : loopS f (xs.drop i) s = some s1) (ha : xs[i]? = some a) : ∃ s', f a s = some s' ∧ loopS f (xs.drop (i + 1)) s' = some s1 := by
  have hi : i < xs.length := (List.getElem?_eq_some_iff.mp ha).1
  have e : xs.drop i = a :: xs.drop (i + 1) := by
    rw [List.drop_eq_getElem_cons hi]
    rw [(List.getElem?_eq_some_iff.mp ha).2]
  rw [e] at h
  exact bd_some h
theorem loopC_at {f : α → S → Option (Ctl S ρ)} {i : Nat} {a : α} {s : S} {c1 : Ctl S ρ} (h : loopC f (xs.drop i) s = some c1) (ha : xs[i]? = some a) : ∃ c, f a s = some c ∧ (match c with
    | .nx s' => loopC f (xs.drop (i + 1)) s'
    | .bk s' => some (.nx s')
    | .rt r => some (.rt r)) = some c1 := by
  have hi : i < xs.length := (List.getElem?_eq_some_iff.mp ha).1
  have e : xs.drop i = a :: xs.drop (i + 1) := by
    rw [List.drop_eq_getElem_cons hi]
    rw [(List.getElem?_eq_some_iff.mp ha).2]
  rw [e] at h
  exact bd_some h
/-- a loop that goes to its end -/
theorem rd_forS (Fd : Feeds J n G it) (Ty : Typed A K F n it xs) {f : α → S → Option S} {s0 s1 : S} (hm : loopS f xs s0 = some s1) (Iv : S → L2.St → Hp → Prop) (hG : ∀ s σ H, Iv s σ H → G H) (h0 : Iv s0 σ H)
    (turn : ∀ (a : α) (x : V) (s s' : S) (σ : L2.St) (H : Hp), A.r K F x a → Iv s σ H → f a s = some s' → g x σ H fun σ2 H2 => tb ⟨Iv s', Rx, Nx, Iv s'⟩ σ2 H2)
    (done : ∀ σ H, Iv s1 σ H → Nx σ H) : ForG J g tb ⟨Nx, Rx, Bx, Cx⟩ σ H := by
  refine ⟨fun i m σ H => m = n - i ∧ i ≤ n ∧ ∃ s, Iv s σ H ∧ loopS f (xs.drop i) s = some s1, ⟨n, by simp, Nat.zero_le _, s0, h0, hm⟩, ?_⟩
  rintro i m σ H ⟨rfl, hi, s, iv, hl⟩
  by_cases hlt : i < n
  · obtain ⟨a, ha⟩ : ∃ a, xs[i]? = some a := ⟨xs[i]'(by rw [Ty.len]; exact hlt), by simp [Ty.len, hlt]⟩
    obtain ⟨s', e1, e2⟩ := loopS_at hl ha
    refine .inr ⟨Fd.go i H hlt (hG s σ H iv), Iv s', fun σ' H' p' => ⟨n - (i + 1), by omega, rfl, hlt, s', p', e2⟩, fun x H' y => ?_⟩
    obtain ⟨rfl, hx⟩ := Fd.yld i H x H' hlt (hG s σ H iv) y
    obtain ⟨a', ha', r⟩ := Ty.at_ i x hx
    rw [ha] at ha'
    cases ha'
    exact turn a x s s' σ H' r iv e1
  · have e : i = n := by omega
    subst e
    rw [← Ty.len, List.drop_length] at hl
    cases hl
    exact .inl ⟨Fd.stop H (hG _ σ H iv), done σ H iv⟩
/-- a loop that may break off or return -/
theorem rd_forC (Fd : Feeds J n G it) (Ty : Typed A K F n it xs) {f : α → S → Option (Ctl S ρ)} {s0 : S} {c1 : Ctl S ρ} (hm : loopC f xs s0 = some c1) (Iv : S → L2.St → Hp → Prop) (hG : ∀ s σ H, Iv s σ H → G H) (h0 : Iv s0 σ H)
    (turn : ∀ (a : α) (x : V) (s : S) (c : Ctl S ρ) (σ : L2.St) (H : Hp), A.r K F x a → Iv s σ H → f a s = some c → (∀ s' σ' H', c = .bk s' → Iv s' σ' H' → Nx σ' H') → (∀ r, c = .rt r → c1 = .rt r) →
      g x σ H fun σ2 H2 => tb ⟨fun σ' H' => ∃ s', c = .nx s' ∧ Iv s' σ' H', Rx, Nx, fun σ' H' => ∃ s', c = .nx s' ∧ Iv s' σ' H'⟩ σ2 H2)
    (done : ∀ s σ H, c1 = .nx s → Iv s σ H → Nx σ H) : ForG J g tb ⟨Nx, Rx, Bx, Cx⟩ σ H := by
  refine ⟨fun i m σ H => m = n - i ∧ i ≤ n ∧ ∃ s, Iv s σ H ∧ loopC f (xs.drop i) s = some c1, ⟨n, by simp, Nat.zero_le _, s0, h0, hm⟩, ?_⟩
  rintro i m σ H ⟨rfl, hi, s, iv, hl⟩
  by_cases hlt : i < n
  · obtain ⟨a, ha⟩ : ∃ a, xs[i]? = some a := ⟨xs[i]'(by rw [Ty.len]; exact hlt), by simp [Ty.len, hlt]⟩
    obtain ⟨c, e1, e2⟩ := loopC_at hl ha
    refine .inr ⟨Fd.go i H hlt (hG s σ H iv), fun σ' H' => ∃ s', c = .nx s' ∧ Iv s' σ' H', fun σ' H' p' => ?_, fun x H' y => ?_⟩
    · obtain ⟨s', rfl, p'⟩ := p'
      exact ⟨n - (i + 1), by omega, rfl, hlt, s', p', e2⟩
    · obtain ⟨rfl, hx⟩ := Fd.yld i H x H' hlt (hG s σ H iv) y
      obtain ⟨a', ha', r⟩ := Ty.at_ i x hx
      rw [ha] at ha'
      cases ha'
      refine turn a x s c σ H' r iv e1 (fun s' σ' H' e p => ?_) fun r e => ?_
      · subst e
        exact done s' σ' H' (Option.some.inj e2).symm p
      · subst e
        exact (Option.some.inj e2).symm
  · have e : i = n := by omega
    subst e
    rw [← Ty.len, List.drop_length] at hl
    exact .inl ⟨Fd.stop H (hG _ σ H iv), done s σ H (Option.some.inj hl).symm iv⟩
end
section
variable {S ρ : Type} {c : TT} {tb : TS} {σ : L2.St} {H : Hp} {Nx Bx Cx : L2.St → Hp → Prop} {Rx : VK}
/-- while: the test may change the state; f: a turn -/
theorem rd_whileS {cm : S → Option (Bool × S)} {f : S → Option S} {N : Nat} {s0 s1 : S} (hm : whileS cm f N s0 = some s1) (Iv : S → L2.St → Hp → Prop) (h0 : Iv s0 σ H)
    (turn : ∀ (s : S) (b : Bool × S) (σ : L2.St) (H : Hp) (T : L2.St → Hp → Prop) (E : L2.St → Hp → Prop), Iv s σ H → cm s = some b → (∀ σ' H', b.1 = true → Iv b.2 σ' H' → T σ' H') → (∀ σ' H', b.1 = false → Iv b.2 σ' H' → E σ' H') → c σ H fun b H1 => if b = true then T σ H1 else E σ H1)
    (body : ∀ (s s' : S) (σ : L2.St) (H : Hp), Iv s σ H → f s = some s' → tb ⟨Iv s', Rx, Nx, Iv s'⟩ σ H)
    (done : ∀ σ H, Iv s1 σ H → Nx σ H) : tWhile c tb ⟨Nx, Rx, Bx, Cx⟩ σ H := by
  refine ⟨fun m σ H => ∃ s, Iv s σ H ∧ whileS cm f m s = some s1, ⟨N, s0, h0, hm⟩, ?_⟩
  rintro m σ H ⟨s, iv, h⟩
  cases m with
  | zero => cases h
  | succ m =>
    obtain ⟨b, e1, e2⟩ := bd_some h
    refine turn s b σ H (fun σ H1 => ∃ N : L2.St → Hp → Prop, (∀ σ' H', N σ' H' → ∃ m', m' < m + 1 ∧ ∃ s, Iv s σ' H' ∧ whileS cm f m' s = some s1) ∧ tb ⟨N, Rx, Nx, N⟩ σ H1) (fun σ H1 => Nx σ H1) iv e1 (fun σ' H' hb iv' => ?_) fun σ' H' hb iv' => ?_
    · rw [hb] at e2
      obtain ⟨s', e3, e4⟩ := bd_some (show ((f b.2).bind fun s' => whileS cm f m s') = some s1 from e2)
      exact ⟨Iv s', fun σ2 H2 p => ⟨m, Nat.lt_succ_self _, s', p, e4⟩, body b.2 s' σ' H' iv' e3⟩
    · rw [hb] at e2
      cases (show some b.2 = some s1 from e2)
      exact done σ' H' iv'
theorem rd_whileC {cm : S → Option (Bool × S)} {f : S → Option (Ctl S ρ)} {N : Nat} {s0 : S} {c1 : Ctl S ρ} (hm : whileC cm f N s0 = some c1) (Iv : S → L2.St → Hp → Prop) (h0 : Iv s0 σ H)
    (turn : ∀ (s : S) (b : Bool × S) (σ : L2.St) (H : Hp) (T : L2.St → Hp → Prop) (E : L2.St → Hp → Prop), Iv s σ H → cm s = some b → (∀ σ' H', b.1 = true → Iv b.2 σ' H' → T σ' H') → (∀ σ' H', b.1 = false → Iv b.2 σ' H' → E σ' H') → c σ H fun b H1 => if b = true then T σ H1 else E σ H1)
    (body : ∀ (s : S) (c' : Ctl S ρ) (σ : L2.St) (H : Hp), Iv s σ H → f s = some c' → (∀ s' σ' H', c' = .bk s' → Iv s' σ' H' → Nx σ' H') → (∀ r, c' = .rt r → c1 = .rt r) →
      tb ⟨fun σ' H' => ∃ s', c' = .nx s' ∧ Iv s' σ' H', Rx, Nx, fun σ' H' => ∃ s', c' = .nx s' ∧ Iv s' σ' H'⟩ σ H)
    (done : ∀ s σ H, c1 = .nx s → Iv s σ H → Nx σ H) : tWhile c tb ⟨Nx, Rx, Bx, Cx⟩ σ H := by
  refine ⟨fun m σ H => ∃ s, Iv s σ H ∧ whileC cm f m s = some c1, ⟨N, s0, h0, hm⟩, ?_⟩
  rintro m σ H ⟨s, iv, h⟩
  cases m with
  | zero => cases h
  | succ m =>
    obtain ⟨b, e1, e2⟩ := bd_some h
    refine turn s b σ H (fun σ H1 => ∃ N : L2.St → Hp → Prop, (∀ σ' H', N σ' H' → ∃ m', m' < m + 1 ∧ ∃ s, Iv s σ' H' ∧ whileC cm f m' s = some c1) ∧ tb ⟨N, Rx, Nx, N⟩ σ H1) (fun σ H1 => Nx σ H1) iv e1 (fun σ' H' hb iv' => ?_) fun σ' H' hb iv' => ?_
    · rw [hb] at e2
      obtain ⟨c', e3, e4⟩ := bd_some (show ((f b.2).bind fun c' => match c' with
        | .nx s' => whileC cm f m s'
        | .bk s' => some (.nx s')
        | .rt r => some (.rt r)) = some c1 from e2)
      refine ⟨fun σ' H' => ∃ s', c' = .nx s' ∧ Iv s' σ' H', fun σ2 H2 p => ?_, body b.2 c' σ' H' iv' e3 (fun s' σ2 H2 e p => ?_) fun r e => ?_⟩
      · obtain ⟨s', rfl, p⟩ := p
        exact ⟨m, Nat.lt_succ_self _, s', p, e4⟩
      · subst e
        exact done s' σ2 H2 (Option.some.inj e4).symm p
      · subst e
        exact (Option.some.inj e4).symm
    · rw [hb] at e2
      exact done b.2 σ' H' (Option.some.inj (show some (.nx b.2) = some c1 from e2)).symm iv'
end

/-! ## comprehensions -/
def fitsE {α : Type} (a : List α) : Bool := decide (a.length ≤ sizeLine)
/-- f: an item's value, if it is kept, and the state behind it -/
def comp {α β S : Type} (f : α → S → Option (Option β × S)) : List α → S → Option (List β × S)
  | [], s => some ([], s)
  | x :: xs, s => (f x s).bind fun o => (comp f xs o.2).bind fun r => some (match o.1 with
    | some y => (y :: r.1, r.2)
    | none => r)
/-- what a comprehension's loop asks -/
abbrev LcG (J : It) (g : TG) (tt : TT) (te : TE) (vs : List Nat) (σ : L2.St) (D : Addr) (Q : VK) (H1 : Hp) : Prop :=
  ∃ W : Nat → Nat → Hp → Prop, (∃ m, W 0 m (upd H1 D (.lst []))) ∧ ∀ i m H, W i m H →
  (J.stop i H ∧ Q (.ref D) H) ∨ (J.go i H ∧ ∃ Nx : Hp → Prop, (∀ H', Nx H' → ∃ m', m' < m ∧ W (i + 1) m' H') ∧ ∀ x H', J.yld i H x H' → g x (wipe σ vs) H' fun σ2 H2 => wipe σ2 vs = wipe σ vs ∧ tt σ2 H2 fun b H3 =>
    if b = true then te σ2 H3 fun y H4 => ∃ acc, H4 D = some (.lst acc) ∧ acc.length < sizeLine ∧ Nx (upd H4 D (.lst (acc ++ [y]))) else Nx H3)
section
variable {J : It} {n : Nat} {G : Hp → Prop} {it : Nat → V → Prop} {α β S : Type} {A : R α} {B : R β} {K : PySem.W.Frag} {F1 H1 : Hp} {xs : List α} {g : TG} {tt : TT} {te : TE} {vs : List Nat} {σ : L2.St} {Q : VK}
theorem comp_at {f : α → S → Option (Option β × S)} {i : Nat} {a : α} {s : S} {r : List β × S} (h : comp f (xs.drop i) s = some r) (ha : xs[i]? = some a) : ∃ o r', f a s = some o ∧ comp f (xs.drop (i + 1)) o.2 = some r' ∧ r = (match o.1 with
    | some y => (y :: r'.1, r'.2)
    | none => r') := by
  have hi : i < xs.length := (List.getElem?_eq_some_iff.mp ha).1
  have e : xs.drop i = a :: xs.drop (i + 1) := by
    rw [List.drop_eq_getElem_cons hi]
    rw [(List.getElem?_eq_some_iff.mp ha).2]
  rw [e] at h
  obtain ⟨o, e1, h2⟩ := bd_some h
  obtain ⟨r', e2, h3⟩ := bd_some h2
  exact ⟨o, r', e1, e2, (Option.some.inj h3).symm⟩
/-- c: the step from the comprehension's start (F1, H1); Ex: what holds of the objects that it changes (Pc) -/
theorem rd_comp (Fd : Feeds J n G it) (Ty : Typed A K F1 n it xs) {f : α → S → Option (Option β × S)} {s0 : S} {r : List β × S} (hm : comp f xs s0 = some r) (hz : fitsE xs = true) {Pc : Addr → Prop} (hlv : ∀ a, Pc a → H1 a ≠ none) (hsub : Same F1 H1) (Ex : S → Hp → Hp → Prop)
    (hG : ∀ s F H, Sx Pc F1 H1 F H → Ex s F H → G H) (h0 : Ex s0 F1 H1) (hEx : ∀ s F H q o, Ex s F H → H1 q = none → H q = none → Ex s F (upd H q o)) (hEp : ∀ s F H q u o, Ex s F H → H1 q = none → H q = some u → Ex s F (upd H q o))
    (turn : ∀ (a : α) (x : V) (s : S) (o : Option β × S) (F H : Hp) (D : Addr) (acc : List V), A.r K F1 x a → Sx Pc F1 H1 F H → Ex s F H → Ow Pc H1 F H D (.lst acc) → H1 D = none → f a s = some o →
      ∀ (E : Hp → Prop) (N : V → Hp → Prop), (∀ y b F' H', o.1 = some b → Sx Pc F H F' H' → B.r K F' y b → Ex o.2 F' H' → N y H') → (∀ F' H', o.1 = none → Sx Pc F H F' H' → Ex o.2 F' H' → E H') →
      g x (wipe σ vs) H fun σ2 H2 => wipe σ2 vs = wipe σ vs ∧ tt σ2 H2 fun b H3 => if b = true then te σ2 H3 N else E H3)
    (done : ∀ D us F H, H1 D = none → Sx Pc F1 H1 F H → Ex r.2 F H → Ow Pc H1 F H D (.lst us) → Row B K F us r.1 → Q (.ref D) H) : ∀ D, H1 D = none → LcG J g tt te vs σ D Q H1 := by
  intro D hD
  refine ⟨fun i m H => m = n - i ∧ i ≤ n ∧ ∃ s F acc ys r', Sx Pc F1 H1 F H ∧ Ex s F H ∧ Ow Pc H1 F H D (.lst acc) ∧ Row B K F acc ys ∧ acc.length ≤ i ∧ comp f (xs.drop i) s = some r' ∧ r = (ys ++ r'.1, r'.2), ⟨n, by simp, Nat.zero_le _, s0, F1, [], [], r, ?_, ?_, ?_, .nil, Nat.le_refl _, hm, rfl⟩, ?_⟩
  · exact (Sx.refl hsub hlv).temp hD
  · exact hEx _ _ _ _ _ h0 hD hD
  · exact (Sx.refl hsub hlv).own hD
  rintro i m H ⟨rfl, hi, s, F, acc, ys, r', S, ex, w, row, hal, hl, hr⟩
  by_cases hlt : i < n
  · obtain ⟨a, ha⟩ : ∃ a, xs[i]? = some a := ⟨xs[i]'(by rw [Ty.len]; exact hlt), by simp [Ty.len, hlt]⟩
    obtain ⟨o, r2, e1, e2, e3⟩ := comp_at hl ha
    refine .inr ⟨Fd.go i H hlt (hG s F H S ex), fun H' => ∃ s F acc ys r', Sx Pc F1 H1 F H' ∧ Ex s F H' ∧ Ow Pc H1 F H' D (.lst acc) ∧ Row B K F acc ys ∧ acc.length ≤ i + 1 ∧ comp f (xs.drop (i + 1)) s = some r' ∧ r = (ys ++ r'.1, r'.2), fun H' p' => ⟨n - (i + 1), by omega, rfl, hlt, p'⟩, fun x H' y => ?_⟩
    obtain ⟨rfl, hx⟩ := Fd.yld i H x H' hlt (hG s F H S ex) y
    obtain ⟨a', ha', ra⟩ := Ty.at_ i x hx
    rw [ha] at ha'
    cases ha'
    have nD : ∀ F' H'', Sx Pc F H' F' H'' → Ow Pc H1 F' H'' D (.lst acc) := fun F' H'' c => w.call c fun z => hlv D z hD
    have hsz : acc.length < sizeLine := by
      have := of_decide_eq_true hz
      rw [Ty.len] at this
      omega
    refine turn a x s o F H' D acc ra S ex w hD e1 _ _ (fun y b F' H'' ho c rb ex' => ?_) fun F' H'' ho c ex' => ?_
    · have w' := nD F' H'' c
      have S' : Sx Pc F1 H1 F' H'' := S.call c fun a z => .inl z
      refine ⟨acc, w'.at_, hsz, o.2, F', acc ++ [y], ys ++ [b], r2, S'.put w', hEp _ _ _ _ _ _ ex' hD w'.at_, w'.put, (Row.mono c.le row).snoc rb, by simp; omega, e2, ?_⟩
      rw [hr, e3, ho]
      simp
    · have w' := nD F' H'' c
      have S' : Sx Pc F1 H1 F' H'' := S.call c fun a z => .inl z
      refine ⟨o.2, F', acc, ys, r2, S', ex', w', Row.mono c.le row, by omega, e2, ?_⟩
      rw [hr, e3, ho]
  · have e : i = n := by omega
    subst e
    rw [← Ty.len, List.drop_length] at hl
    cases hl
    refine .inl ⟨Fd.stop H (hG _ F H S ex), ?_⟩
    rw [hr] at done
    exact done D acc F H hD S ex w (by simpa using row)
end

/-! ## steps: what is new behind each is told by names -/
section
variable {P : Addr → Prop} {F0 H0 F H : Hp} {Q : VK} {α : Type} {A : R α} {K : PySem.W.Frag}
/-- a new object, of one's own -/
theorem al {o : HO} (S : Sx P F0 H0 F H) (k : ∀ p H', H p = none → Sx P0 F H F H' → Ow P H0 F H' p o → Q (.ref p) H') : nK Q H o :=
  fun p hp => k p _ hp ((Sx.refl0 S.sub).temp hp) (S.own hp)
/-- a new object that stands for good -/
theorem alF {o : HO} (S : Sx P F0 H0 F H) (k : ∀ p F' H', Sx P0 F H F' H' → F' p = some o → Q (.ref p) H') : nK Q H o :=
  fun p hp => k p _ _ ((Sx.refl0 S.sub).alloc hp) upd_same
theorem alT {vs : List V} {xs : List α} (S : Sx P F0 H0 F H) (r : Row A K F vs xs) (k : ∀ v F' H', Sx P0 F H F' H' → (qT A).r K F' v xs → Q v H') : nK Q H (.tup vs) :=
  alF S fun p F' H' c h => k _ F' H' c ⟨p, vs, rfl, .inl (.inl h), Row.mono c.le r⟩
theorem alL {vs : List V} {xs : List α} (S : Sx P F0 H0 F H) (r : Row A K F vs xs) (k : ∀ v F' H', Sx P0 F H F' H' → (qL A).r K F' v xs → Q v H') : nK Q H (.lst vs) :=
  alF S fun p F' H' c h => k _ F' H' c ⟨p, vs, rfl, h, Row.mono c.le r⟩
/-- the same where the row is handed on -/
theorem alL' {xs : List α} (S : Sx P F0 H0 F H) (k : ∀ v F' H', Sx P0 F H F' H' → (qL A).r K F' v xs → Q v H') : nL A K F Q H xs :=
  fun p us hp r => alL S r k p hp
theorem alT' {xs : List α} (S : Sx P F0 H0 F H) (k : ∀ v F' H', Sx P0 F H F' H' → (qT A).r K F' v xs → Q v H') : nT A K F Q H xs :=
  fun p us hp r => alT S r k p hp
theorem alO' {xs : List α} (S : Sx P F0 H0 F H) (k : ∀ p us H', H p = none → Sx P0 F H F H' → Ow P H0 F H' p (.lst us) → Row A K F us xs → Q (.ref p) H') : nL A K F Q H xs :=
  fun p us hp r => k p us _ hp ((Sx.refl0 S.sub).temp hp) (S.own hp) r
variable {p : Addr} {vs : List V} {xs : List α}
theorem Ow.arg' {o : HO} (w : Ow P H0 F H p o) : Ow (fun a => a = p) H F H p o := w.arg
theorem ap (S : Sx P F0 H0 F H) (w : Ow P H0 F H p (.lst vs)) (r : Row A K F vs xs) {y : V} (h : fits xs = true) (k : ∀ H', Sx (fun a => a = p) F H F H' → Ow P H0 F H' p (.lst (vs ++ [y])) → Q .non H') : rAppend (.ref p) [y] H Q :=
  rd_app w r h (k _ ((Sx.refl S.sub fun a z => by rw [z, w.at_]; exact fun h => nomatch h).put w.arg) w.put)
theorem ex' (S : Sx P F0 H0 F H) (w : Ow P H0 F H p (.lst vs)) (r : Row A K F vs xs) {b : V} {ys : List α} (s : SeenL A K F H b ys) (h : fits2 xs ys = true) (k : ∀ us H', Sx (fun a => a = p) F H F H' → Ow P H0 F H' p (.lst (vs ++ us)) → Row A K F (vs ++ us) (xs ++ ys) → Q .non H') : rExtend (.ref p) [b] H Q :=
  rd_extend w r s h fun us r2 => k us _ ((Sx.refl S.sub fun a z => by rw [z, w.at_]; exact fun h => nomatch h).put w.arg) w.put (pApp r r2)
/-- an own list is let stand for good -/
theorem fz (S : Sx P F0 H0 F H) (w : Ow P H0 F H p (.lst vs)) (h0 : H0 p = none) (r : Row A K F vs xs) : ∃ F', Sx P F0 H0 F' H ∧ Same F F' ∧ (qL A).r K F' (.ref p) xs ∧ F' p ≠ none ∧ ∀ q, q ≠ p → F' q = F q :=
  ⟨upd F p (.lst vs), S.freeze w h0, w.leF, ⟨p, vs, rfl, upd_same, Row.mono w.leF r⟩, by (rw [upd_same]; exact (fun h => nomatch h)), fun q hq => upd_ne hq⟩
theorem Ow.fzO {F' : Hp} {o : HO} {q : Addr} (w : Ow P H0 F H q o) (n : q ≠ p) (e : ∀ q, q ≠ p → F' q = F q) : Ow P H0 F' H q o := ⟨by rw [e q n]; exact w.fr, w.at_, w.mine⟩
end
end Gl

namespace Gl
open PySem PySem.Spec PyProof.Rows L2

/-! ## defs by names -/
def fdDefault : FuncData := PySem.W.fnOf "" "" { posonlyargs := [], args := [], vararg := none, kwonlyargs := [], kw_defaults := [], kwarg := none, defaults := [] } [] { kind := .function, names := [], isGenerator := false, isCoroutine := false } .none .none .none .none none .none .none
def fdOf (K : PySem.W.Frag) (p : Str × Option Str) : FuncData := match K.lookup (He.fAd K p) with
  | some ⟨_, _, .func fd, _⟩ => fd
  | _ => fdDefault
abbrev FnD' (K : PySem.W.Frag) (p : Str × Option Str) (x q : Str) (st : Stmt) : Prop := FunD K x q (defArgs st) (defBody st) (defScope st) [] [] (He.fAd K p) (fdOf K p)
theorem fdOf_eq {K : PySem.W.Frag} {p : Str × Option Str} {x q : Str} {ps : Arguments} {body : List Stmt} {sc : Scope} {dvs : List V} {kws : List (Str × V)} {fd : FuncData} (F : FunD K x q ps body sc dvs kws (He.fAd K p) fd) : fd = fdOf K p := by
  obtain ⟨oc, od, dV, kV, doc, pm, an, cdv, ct, osl, e, lk, _⟩ := F.ex
  unfold fdOf
  rw [lk]
theorem fd_of {fa : List He.Fa} {fn : List He.DefD} {K : PySem.W.Frag} (c : He.SaysD fa fn K) (i : Nat) {d : He.DefD} (h : fn[i]? = some d := by rfl) : FunD K d.name d.qual d.params d.body d.scope (d.dvs K) (d.kws K) (He.fAd K d.at_) (fdOf K d.at_) := by
  obtain ⟨fd, F⟩ := c.def_ i h
  have e := fdOf_eq F
  subst e
  exact F
/-! ## a list of two ints that is drawn from -/
section
variable {P : Addr → Prop} {F0 H0 F H : Hp} {Q : VK} {K : PySem.W.Frag} {p : Addr} {a b c : V}
theorem pool0 (w : Ow P H0 F H p (.lst [a, b])) (k : Q a H) : rIxL K (.ref p) (.int 0) H Q := ⟨p, [a, b], 0, a, rfl, rfl, SqL.of w.at_, rfl, k⟩
theorem pool1 (w : Ow P H0 F H p (.lst [a, b])) (k : Q b H) : rIxL K (.ref p) (.int 1) H Q := ⟨p, [a, b], 1, b, rfl, rfl, SqL.of w.at_, rfl, k⟩
theorem putS (S : Sx P F0 H0 F H) {o u : HO} (w : Ow P H0 F H p o) : Sx (fun a => a = p) F H F (upd H p u) := (Sx.refl S.sub fun a z => by rw [z, w.at_]; exact fun h => nomatch h).put w.arg
theorem pset0 {R : Hp → Prop} (S : Sx P F0 H0 F H) (w : Ow P H0 F H p (.lst [a, b])) (k : ∀ H', Sx (fun a => a = p) F H F H' → Ow P H0 F H' p (.lst [c, b]) → R H') : rSetL (.ref p) (.int 0) c H R := ⟨p, [a, b], 0, 0, rfl, rfl, w.at_, rfl, k _ (putS S w) w.put⟩
theorem pset1 {R : Hp → Prop} (S : Sx P F0 H0 F H) (w : Ow P H0 F H p (.lst [a, b])) (k : ∀ H', Sx (fun a => a = p) F H F H' → Ow P H0 F H' p (.lst [a, c]) → R H') : rSetL (.ref p) (.int 1) c H R := ⟨p, [a, b], 1, 1, rfl, rfl, w.at_, rfl, k _ (putS S w) w.put⟩
end
end Gl

namespace Gl
open PySem PySem.Spec PyProof.Rows L2

/-! ## readings, construct by construct -/
section
variable {σ : L2.St} {H : Hp} {Q : VK} {v : V} {i j : Int} {ta tb tc te : TE} {t u : TT} {r : R2} {D : Ends} {tr : TA} {K : PySem.W.Frag} {b : Bool}
theorem rd_v {i : Nat} (h : σ[i]? = some (some v)) (k : Q v H) : tVar i σ H Q := ⟨v, h, k⟩
theorem rd_c (k : Q v H) : tC v σ H Q := k
theorem rd_op (k : ta σ H fun x H1 => tb σ H1 fun y H2 => r x y H2 Q) : tOp r ta tb σ H Q := k
theorem rd_un {r : V → Hp → VK → Prop} (k : ta σ H fun x H1 => r x H1 Q) : tUn r ta σ H Q := k
theorem rd_I0 {g : Int → Int → V} (k : Q (g i j) H) : rI0 g (.int i) (.int j) H Q := ⟨i, j, rfl, rfl, k⟩
theorem rd_I {C : Int → Int → Prop} {g : Int → Int → V} (c : C i j) (k : Q (g i j) H) : rI C g (.int i) (.int j) H Q := ⟨i, j, rfl, rfl, c, k⟩
theorem rd_U {g : Int → V} (k : Q (g i) H) : rU g (.int i) H Q := ⟨i, rfl, k⟩
theorem rd_S0 {g : Str → Str → V} {x y : Str} (k : Q (g x y) H) : rS0 g (.str x) (.str y) H Q := ⟨x, y, rfl, rfl, k⟩
theorem rd_B0 {g : Bool → Bool → V} {x y : Bool} (k : Q (g x y) H) : rB0 g (.bl x) (.bl y) H Q := ⟨x, y, rfl, rfl, k⟩
def rCatS : R2 := fun x y H Q => ∃ i j, x = .str i ∧ y = .str j ∧ i.length + j.length ≤ sizeLine ∧ Q (.str (i ++ j)) H
theorem op_catS {X : Cx} : OpR X (binaryOp .Add) rCatS := op_add_str
theorem rd_catS {x y : Str} (h : catOk x y = true) (k : Q (.str (x ++ y)) H) : rCatS (.str x) (.str y) H Q := ⟨x, y, rfl, rfl, catOk_of h, k⟩
def rInS : R2 := fun x y H Q => ∃ i j, x = .str i ∧ y = .str j ∧ Q (.bl (inS i j)) H
def rNiS : R2 := fun x y H Q => ∃ i j, x = .str i ∧ y = .str j ∧ Q (.bl (!inS i j)) H
theorem op_inS {X : Cx} : OpR X (compareOp .In) rInS := op_in_str
theorem op_niS {X : Cx} : OpR X (compareOp .NotIn) rNiS := op_notin_str
theorem rd_inSS {x y : Str} (k : Q (.bl (inS x y)) H) : rInS (.str x) (.str y) H Q := ⟨x, y, rfl, rfl, k⟩
theorem rd_niSS {x y : Str} (k : Q (.bl (!inS x y)) H) : rNiS (.str x) (.str y) H Q := ⟨x, y, rfl, rfl, k⟩
theorem rd_ixS {x z : Str} (h : ixS x i = some z) (k : Q (.str z) H) : rIxS (.str x) (.int i) H Q := by
  obtain ⟨c, h1, h2, rfl⟩ := ixS_some h
  exact ⟨x, i, c, rfl, rfl, h1, h2, k⟩
theorem rd_slS {z : Str} {lo hi : Option Int} (h : fitsS z = true) (k : Q (.str (cutS z lo hi)) H) : rSlS (.str z) lo hi H Q := ⟨z, rfl, fitsS_of h, k⟩
/-! tests -/
variable {QB : Bool → Hp → Prop}
/-- what is wanted of a truth -/
def bK (QB : Bool → Hp → Prop) : VK := fun x H => ∃ k, x = .bl k ∧ QB k H
theorem rd_test (k : te σ H (bK QB)) : tTest te σ H QB := k
theorem rd_tB (k : te σ H (bK QB)) : tB te σ H QB := k
theorem rd_b (k : QB b H) : bK QB (.bl b) H := ⟨b, rfl, k⟩
theorem rd_and (k : t σ H fun c H1 => if c = true then u σ H1 QB else QB false H1) : tAnd t u σ H QB := k
theorem rd_or (k : t σ H fun c H1 => if c = true then QB true H1 else u σ H1 QB) : tOr t u σ H QB := k
theorem rd_not (k : t σ H fun c H1 => QB (!c) H1) : tNot t σ H QB := k
theorem rd_andV (k : ta σ H (bK fun c H1 => if c = true then tb σ H1 Q else Q (.bl false) H1)) : tAndV ta tb σ H Q := k
theorem rd_orV (k : ta σ H (bK fun c H1 => if c = true then Q (.bl true) H1 else tb σ H1 Q)) : tOrV ta tb σ H Q := k
theorem rd_notV (k : ta σ H (bK fun c H1 => Q (.bl (!c)) H1)) : tNotV ta σ H Q := k
theorem rd_ifE (k : t σ H fun c H1 => if c = true then ta σ H1 Q else tb σ H1 Q) : tIf t ta tb σ H Q := k
theorem rd_yes (k : QB true H) : tYes σ H QB := k
/-! arguments, calls -/
variable {QA : List V → Hp → Prop}
theorem rd_nil (k : QA [] H) : tNil σ H QA := k
theorem rd_cons (k : te σ H fun x H1 => tr σ H1 fun xs H2 => QA (x :: xs) H2) : tCons te tr σ H QA := k
theorem rd_call {sp : Sp} {dvs : List V} {E : XK} (k : tr σ H fun vs H1 => sp (vs ++ dvs) H1 Q E) : tCall sp dvs E tr σ H Q := k
theorem rd_cb {r : List V → Hp → VK → Prop} (k : tr σ H fun xs H1 => r xs H1 Q) : tCB r tr σ H Q := k
def lK (Q : VK) : List V → Hp → Prop := fun xs H1 => xs.length ≤ sizeLine ∧ ∀ p, H1 p = none → Q (.ref p) (upd H1 p (.lst xs))
def uK (Q : VK) : List V → Hp → Prop := fun xs H1 => xs.length ≤ sizeLine ∧ ∀ p, H1 p = none → Q (.ref p) (upd H1 p (.tup xs))
theorem rd_lst (k : tr σ H (lK Q)) : tLst tr σ H Q := k
theorem rd_lK {xs : List V} (h : Nat.ble xs.length 1000 = true) (k : nK Q H (.lst xs)) : lK Q xs H := ⟨Nat.le_trans (Nat.le_of_ble_eq_true h) (by decide), k⟩
theorem rd_uK {xs : List V} (h : Nat.ble xs.length 1000 = true) (k : nK Q H (.tup xs)) : uK Q xs H := ⟨Nat.le_trans (Nat.le_of_ble_eq_true h) (by decide), k⟩
theorem rd_tup (k : tr σ H (uK Q)) : tTup tr σ H Q := k
theorem rd_bm {T : String} {r : V → List V → Hp → VK → Prop} (k : te σ H fun x H1 => tyV K T x H1 ∧ tr σ H1 fun xs H2 => r x xs H2 Q) : tBM K T r te tr σ H Q := k
theorem rd_bm0 {T : String} {r : V → List V → Hp → VK → Prop} (k : te σ H fun x H1 => tyV K T x H1 ∧ r x [] H1 Q) : tBM0 K T r te σ H Q := k
theorem rd_ty {A B : Prop} (h : A) (k : B) : A ∧ B := ⟨h, k⟩
theorem rd_thn {k' : V → Hp → VK → Prop} (k : te σ H fun x H1 => k' x H1 Q) : tThen te k' σ H Q := k
/-! slices -/
variable {QO : Option Int → Hp → Prop}
theorem rd_sl {r : V → Option Int → Option Int → Hp → VK → Prop} {tl th : TO} (k : te σ H fun x H1 => tl σ H1 fun l H2 => th σ H2 fun u H3 => r x l u H3 Q) : tSl r te tl th σ H Q := k
theorem rd_np (k : QO none H) : tNoPart σ H QO := k
def iK (QO : Option Int → Hp → Prop) : VK := fun x H => ∃ i, x = .int i ∧ QO (some i) H
theorem rd_pt (k : te σ H (iK QO)) : tPart te σ H QO := k
theorem rd_i (k : QO (some i) H) : iK QO (.int i) H := ⟨i, rfl, k⟩
/-! built-ins -/
def rInt1 : List V → Hp → VK → Prop := fun xs H Q => (∃ i, xs = [.int i] ∧ Q (.int i) H) ∨ ∃ k, xs = [.bl k] ∧ Q (.int (if k then 1 else 0)) H
theorem cr_int {X : Cx} : CallR X (.type "int") rInt1 := call_int1
theorem rd_intI (k : Q (.int i) H) : rInt1 [.int i] H Q := .inl ⟨i, rfl, k⟩
theorem rd_intB (k : Q (.int (b2I b)) H) : rInt1 [.bl b] H Q := .inr ⟨b, rfl, k⟩
def rMax2 : List V → Hp → VK → Prop := fun xs H Q => ∃ i j, xs = [.int i, .int j] ∧ Q (.int (if j > i then j else i)) H
theorem cr_max2 {X : Cx} (hc : X.calm = true) : CallR X (.builtin "max") rMax2 := call_max2 hc
theorem rd_max2 (k : Q (.int (maxI i j)) H) : rMax2 [.int i, .int j] H Q := ⟨i, j, rfl, k⟩
def rMin2 : List V → Hp → VK → Prop := fun xs H Q => ∃ i j, xs = [.int i, .int j] ∧ Q (.int (if j < i then j else i)) H
theorem cr_min2 {X : Cx} (hc : X.calm = true) : CallR X (.builtin "min") rMin2 := call_min2 hc
theorem rd_min2 (k : Q (.int (minI i j)) H) : rMin2 [.int i, .int j] H Q := ⟨i, j, rfl, k⟩
def rLenS : List V → Hp → VK → Prop := fun xs H Q => ∃ z, xs = [.str z] ∧ z.length ≤ sizeLine ∧ Q (.int z.length) H
theorem cr_lenS {X : Cx} : CallR X (.builtin "len") rLenS := call_len_str
theorem rd_lenS {z : Str} (h : fitsS z = true) (k : Q (.int (z.length : Int)) H) : rLenS [.str z] H Q := ⟨z, rfl, fitsS_of h, k⟩
def rLenQ (K : PySem.W.Frag) : List V → Hp → VK → Prop := fun xs H Q => ∃ p ys, xs = [.ref p] ∧ (SqL K H p ys ∨ SqT K H p ys) ∧ Q (.int ys.length) H
theorem cr_lenQ {X : Cx} : CallR X (.builtin "len") (rLenQ X.K) := call_len_seq
theorem rd_lenQ {α : Type} {A : R α} {F : Hp} {xs : List α} (s : SeenQ A K F H v xs) (k : Q (.int (xs.length : Int)) H) : rLenQ K [v] H Q := rd_len s k
def rListQ (K : PySem.W.Frag) : List V → Hp → VK → Prop := fun xs H Q => ∃ p ys, xs = [.ref p] ∧ (SqL K H p ys ∨ SqT K H p ys) ∧ ∀ l, H l = none → Q (.ref l) (upd H l (.lst ys))
theorem cr_listQ {X : Cx} : CallR X (.type "list") (rListQ X.K) := call_list_of
theorem rd_listQ {α : Type} {A : R α} {F : Hp} {xs : List α} (s : SeenQ A K F H v xs) (k : nL A K F Q H xs) : rListQ K [v] H Q := rd_list s k
/-! targets, statements -/
variable {QS : L2.St → Hp → Prop} {g : TG} {ts us : TS} {N B C : L2.St → Hp → Prop} {R : VK}
theorem rd_gn {i : Nat} (k : QS (σ.set i (some v)) H) : gName i v σ H QS := k
theorem rd_gsub {st : TSet} (k : ta σ H fun o H1 => tb σ H1 fun i H2 => st o i v H2 fun H3 => QS σ H3) : gSub ta tb st v σ H QS := k
theorem rd_seq (k : ts ⟨us ⟨N, R, B, C⟩, R, B, C⟩ σ H) : tSeq ts us ⟨N, R, B, C⟩ σ H := k
theorem rd_asg (k : te σ H fun x H1 => g x σ H1 N) : tAsg te g ⟨N, R, B, C⟩ σ H := k
theorem rd_ifS (k : t σ H fun b H1 => if b = true then ts D σ H1 else us D σ H1) : tIfS t ts us D σ H := k
theorem rd_ret (k : te σ H R) : tRet te ⟨N, R, B, C⟩ σ H := k
theorem rd_drop (k : te σ H fun _ H1 => N σ H1) : tDrop te ⟨N, R, B, C⟩ σ H := k
theorem rd_next (k : N σ H) : tNext ⟨N, R, B, C⟩ σ H := k
theorem rd_cut (Mid : L2.St → Hp → Prop) (h : ts ⟨Mid, R, B, C⟩ σ H) (k : ∀ σ' H', Mid σ' H' → us ⟨N, R, B, C⟩ σ' H') : C8.tCut ts us ⟨N, R, B, C⟩ σ H := ⟨Mid, h, k⟩
theorem rd_aug {i : Nat} {ti : TIp} {x : V} (h : σ[i]? = some (some x)) (k : te σ H fun y H1 => ti x y H1 fun z H2 => N (σ.set i (some z)) H2) : tAug i te ti ⟨N, R, B, C⟩ σ H := ⟨x, h, k⟩
theorem rd_ipI {f : Int → Int → Int} (k : Q (.int (f i j)) H) : ipI f (.int i) (.int j) H Q := ⟨i, j, rfl, rfl, k⟩
theorem rd_for {wi : TI} (k : wi σ H fun J H1 => ForG J g ts D σ H1) : tFor wi g ts D σ H := k
theorem rd_lc {wi : TI} {vs : List Nat} (k : wi σ H fun J H1 => ∀ D, H1 D = none → LcG J g t te vs σ D Q H1) : tLc wi g t te vs σ H Q := k
variable {RI : It → Hp → Prop}
/-- what is wanted of a walked list, tuple, text, range -/
def wL (K : PySem.W.Frag) (RI : It → Hp → Prop) : VK := fun x H1 => ∃ a, x = .ref a ∧ (∃ xs, SqL K H1 a xs) ∧ RI (Itl K a) H1
def wT (K : PySem.W.Frag) (RI : It → Hp → Prop) : VK := fun x H1 => ∃ a, x = .ref a ∧ (∃ xs, SqT K H1 a xs) ∧ RI (Itt K a) H1
def wS (RI : It → Hp → Prop) : VK := fun v H1 => ∃ x, v = .str x ∧ RI (Its x) H1
def wR1 (RI : It → Hp → Prop) : List V → Hp → Prop := fun vs H1 => ∃ j : Int, vs = [.int j] ∧ -(2 ^ 62) ≤ j ∧ j < 2 ^ 62 ∧ RI (Itr 0 j.toNat) H1
def wR2 (RI : It → Hp → Prop) : List V → Hp → Prop := fun vs H1 => ∃ i j : Int, vs = [.int i, .int j] ∧ (-(2 ^ 62) ≤ i ∧ i < 2 ^ 62 ∧ -(2 ^ 62) ≤ j ∧ j < 2 ^ 62) ∧ RI (Itr i (j - i).toNat) H1
theorem rd_iL (k : te σ H (wL K RI)) : iList K te σ H RI := k
theorem rd_iT (k : te σ H (wT K RI)) : iTup K te σ H RI := k
/-- over a list or a tuple -/
def iSeq (K : PySem.W.Frag) (te : TE) : TI := fun σ H R => iList K te σ H R ∨ iTup K te σ H R
theorem pi_seq {X : Cx} {tg l : Expr} (hl : PE X l te) : PI X tg l (iSeq X.K te) := ⟨fun pins s σ H R I h => h.elim (fun h => (pi_list hl).run pins s σ H R I h) fun h => (pi_tup hl).run pins s σ H R I h⟩
theorem rd_iS (k : te σ H (wS RI)) : iStr te σ H RI := k
theorem rd_iR1 (k : tr σ H (wR1 RI)) : iRng1 tr σ H RI := k
theorem rd_iR2 (k : tr σ H (wR2 RI)) : iRng2 tr σ H RI := k
theorem rd_wS {z : Str} (k : RI (Its z) H) : wS RI (.str z) H := ⟨z, rfl, k⟩
def rgOk (a b : Int) : Bool := (decide (-(2 ^ 62) ≤ a) && decide (a < 2 ^ 62)) && (decide (-(2 ^ 62) ≤ b) && decide (b < 2 ^ 62))
theorem rd_r1 {n : Int} (h : rgOk 0 n = true) (k : RI (Itr 0 (n - 0).toNat) H) : wR1 RI [.int n] H := by
  unfold rgOk at h
  simp only [Bool.and_eq_true, decide_eq_true_eq] at h
  exact ⟨n, rfl, h.2.1, h.2.2, by rw [Int.sub_zero] at k; exact k⟩
theorem rd_r2 {a b : Int} (h : rgOk a b = true) (k : RI (Itr a (b - a).toNat) H) : wR2 RI [.int a, .int b] H := by
  unfold rgOk at h
  simp only [Bool.and_eq_true, decide_eq_true_eq] at h
  exact ⟨a, b, rfl, ⟨h.1.1, h.1.2, h.2.1, h.2.2⟩, k⟩
end
end Gl

namespace Gl
open PySem PySem.Spec PyProof.Rows L2

theorem if_t {α : Type} {b : Bool} {x y r : α} (h : (if b = true then x else y) = r) (hb : b = true) : x = r := by
  rw [hb] at h; exact h
theorem if_f {α : Type} {b : Bool} {x y r : α} (h : (if b = true then x else y) = r) (hb : b = false) : y = r := by
  rw [hb] at h; exact h
theorem if_tt {A B : Prop} (h : A) : if true = true then A else B := h
theorem aft_nx {S ρ : Type} {s : S} {k : S → Option ρ} {r : Option ρ} (h : aft (.nx s) k = r) : k s = r := h
theorem aft_rt {S ρ : Type} {v : ρ} {k : S → Option ρ} {r : Option ρ} (h : aft (.rt v) k = r) : some v = r := h
theorem aftC_nx {S S' ρ : Type} {s : S} {k : S → Option (Ctl S' ρ)} {r : Option (Ctl S' ρ)} (h : aftC (.nx s) k = r) : k s = r := h
theorem aftC_rt {S S' ρ : Type} {v : ρ} {k : S → Option (Ctl S' ρ)} {r : Option (Ctl S' ρ)} (h : aftC (.rt v) k = r) : some (.rt v) = r := h
/-- behind a loop that may break off but does not return -/
def aftN {S ρ : Type} (c : Ctl S Unit) (k : S → Option ρ) : Option ρ := match c with
  | .nx s => k s
  | .bk s => k s
  | .rt _ => none
theorem aftN_nx {S ρ : Type} {s : S} {k : S → Option ρ} {r : Option ρ} (h : aftN (.nx s) k = r) : k s = r := h

/-! ## text times int, list(text) -/
section
variable {X : Cx}
def repS (x : Str) (n : Int) : Str := Txt.mul x n
def repOk (x : Str) (n : Int) : Bool := (decide (-(2 ^ 62) ≤ n) && decide (n < 2 ^ 62)) && decide (x.length * n.toNat ≤ 100000) && decide (x.length ≤ 100000)
theorem repOk_of {x : Str} {n : Int} (h : repOk x n = true) : MulOk x n := by
  unfold repOk at h
  simp only [Bool.and_eq_true, decide_eq_true_eq] at h
  obtain ⟨⟨⟨h1, h2⟩, h3⟩, h4⟩ := h
  refine ⟨?_, fun a _ => ?_, fun a _ => ?_⟩
  · have e1 : decide (n < -(2 ^ 63 : Int)) = false := decide_eq_false (by omega)
    have e2 : decide (n ≥ (2 ^ 63 : Int)) = false := decide_eq_false (by omega)
    rw [e1, e2]; rfl
  · have hn : 0 < n := by omega
    intro c
    have e3 : (x.length : Int) * n ≤ 100000 := by
      have e4 : ((x.length * n.toNat : Nat) : Int) ≤ ((100000 : Nat) : Int) := Int.ofNat_le.mpr h3
      have e5 : (n.toNat : Int) = n := Int.toNat_of_nonneg (by omega)
      rw [Int.natCast_mul, e5] at e4
      have e7 : ((100000 : Nat) : Int) = 100000 := rfl
      rw [e7] at e4
      exact e4
    have e6 : (x.length : Int) ≤ (2 ^ 63 - 1) / n := by
      rw [Int.le_ediv_iff_mul_le hn]
      omega
    omega
  · have e1 : sizeLine = 16777216 := sizeLine_eq
    unfold Builtin.Str.tooLong
    exact decide_eq_false (by omega)
def rRepS : R2 := fun x y H Q => ∃ z n, x = .str z ∧ y = .int n ∧ repOk z n = true ∧ Q (.str (repS z n)) H
theorem op_repS : OpR X (binaryOp .Mult) rRepS := by
  intro pins s σ H x y v u Q I rx ry h
  obtain ⟨z, n, rfl, rfl, ok, q⟩ := h
  obtain ⟨t, rfl⟩ := rx
  obtain ⟨t', rfl⟩ := ry
  exact SB.mul (repOk_of ok) fun t2 k => ⟨.str _, H, I.tok _, ⟨_, rfl⟩, q⟩
theorem rd_repS {H : Hp} {Q : VK} {z : Str} {n : Int} (h : repOk z n = true) (k : Q (.str (repS z n)) H) : rRepS (.str z) (.int n) H Q := ⟨z, n, rfl, rfl, h, k⟩
def rListS : List V → Hp → VK → Prop := fun xs H Q => ∃ z : Str, xs = [.str z] ∧ z.cps.size ≤ sizeLine ∧ ∀ l, H l = none → Q (.ref l) (upd H l (.lst ((sgns z).map V.str)))
theorem vals_signs {z : Str} {acc : Array Value} (h : ItemsOf (SignAt z) acc z.cps.size) : Vals ((sgns z).map V.str) acc.toList := by
  have hs : acc.toList.length = z.cps.size := by rw [Array.length_toList]; exact h.1
  have key : ∀ (l : List Value) (cs : List Nat), l.length = cs.length → (∀ (j : Nat) (u : Value), l[j]? = some u → ∃ (c : Nat) (t : Tok), cs[j]? = some c ∧ u = Value.str ⟨#[c]⟩ t) → Vals ((cs.map fun c => (⟨#[c]⟩ : Str)).map V.str) l := by
    intro l
    induction l with
    | nil => intro cs hl _; cases cs with
      | nil => exact .nil
      | cons c r => cases hl
    | cons u l ih =>
      intro cs hl hj
      cases cs with
      | nil => cases hl
      | cons c r =>
        obtain ⟨c', t, e1, e2⟩ := hj 0 u rfl
        cases e1
        exact .cons ⟨t, e2⟩ (ih r (Nat.succ.inj hl) fun j w e => hj (j + 1) w e)
  refine key acc.toList z.cps.toList (by rw [hs]; rfl) fun j u e => ?_
  have e' : acc[j]? = some u := by rw [← Array.getElem?_toList]; exact e
  obtain ⟨c, t, e1, e2⟩ := h.2 j u e'
  exact ⟨c, t, by rw [Array.getElem?_toList]; exact e1, e2⟩
theorem cr_listS (hc : X.calm = true) : CallR X (.type "list") rListS := by
  intro pins s σ H xs us Q I r h
  obtain ⟨z, rfl, hz, q⟩ := h
  obtain ⟨u, rfl, t, rfl⟩ := vals1 r
  refine PySem.call_list_str (I.ok.hd hc) z t (fun h' tk acc' c' hk hS hacc => ?_) hz
  have hsz : ((sgns z).map V.str).length ≤ sizeLine := by unfold sgns; simpa using hz
  have I1 := I.laid (a := s.heap.objs.size) (o := .lst ((sgns z).map V.str)) (t' := tk) (h' := h') hk (Nat.le_refl _) (show ObjOk X.prog X.w _ _ _ (.lst _) from ⟨hsz, acc'.toList, c', vals_signs hacc, by simpa using hS⟩)
  exact ⟨.ref s.heap.objs.size, _, I1, rfl, q _ (I.hok.fresh (Nat.le_refl _))⟩
theorem row_strs {K : PySem.W.Frag} {F : Hp} : ∀ xs : List Str, Row qS K F (xs.map V.str) xs
  | [] => .nil
  | _ :: xs => .cons rfl (row_strs xs)
theorem rd_listS {K : PySem.W.Frag} {F H : Hp} {Q : VK} {z : Str} (h : fitsS z = true) (k : nL qS K F Q H (sgns z)) : rListS [.str z] H Q :=
  ⟨z, rfl, fitsS_of h, fun l hl => k l _ hl (row_strs _)⟩
end
/-! ## walked rows -/
section
variable {K : PySem.W.Frag} {P : Addr → Prop} {F0 H0 F H : Hp} {v : V} {α : Type} {A : R α} {xs : List α} {RI : It → Hp → Prop} {σ : L2.St} {te : TE}
theorem rd_wLF (S : Sx P F0 H0 F H) (r : (qL A).r K F v xs) (k : ∀ p vs, SqL K F p vs → Row A K F vs xs → RI (Itl K p) H) : wL K RI v H := by
  obtain ⟨p, vs, rfl, h1, h2⟩ := r
  exact ⟨p, rfl, ⟨vs, Same.seq S.sub (SqL.of h1)⟩, k p vs (SqL.of h1) h2⟩
theorem rd_wLC {xs : List Int} (S : Sx P F0 H0 F H) (r : qC.r K F v xs) (k : ∀ p vs, SqL K F p vs → Row qI K F vs xs → RI (Itl K p) H) : wL K RI v H := by
  obtain ⟨p, rfl, h1⟩ := r
  exact ⟨p, rfl, ⟨_, Same.seq S.sub h1⟩, k p _ h1 (row_ints xs)⟩
theorem rd_wTF (S : Sx P F0 H0 F H) (r : (qT A).r K F v xs) (k : ∀ p vs, SqT K F p vs → Row A K F vs xs → RI (Itt K p) H) : wT K RI v H := by
  obtain ⟨p, vs, rfl, h1, h2⟩ := r
  exact ⟨p, rfl, ⟨vs, same_t S.sub h1⟩, k p vs h1 h2⟩
/-- over a list or a tuple: whichever it is -/
theorem rd_wSeq (S : Sx P F0 H0 F H) (r : (qQ A).r K F v xs) (hv : ∀ Q : VK, Q v H → te σ H Q)
    (k : ∀ (J : It) (n : Nat) (G : Hp → Prop) (it : Nat → V → Prop), Feeds J n G it → Typed A K F n it xs → (∀ F' H', Same F F' → Same F' H' → G H') → RI J H) : iSeq K te σ H RI := by
  rcases r with ⟨p, vs, rfl, h1, h2⟩ | ⟨p, vs, rfl, h1, h2⟩
  · refine .inl (hv _ ⟨p, rfl, ⟨vs, Same.seq S.sub (SqL.of h1)⟩, k _ _ _ _ feedsL (typedRow h2) fun F' H' e1 e2 => Same.seq e2 (Same.seq e1 (SqL.of h1))⟩)
  · refine .inr (hv _ ⟨p, rfl, ⟨vs, same_t S.sub h1⟩, k _ _ _ _ feedsT (typedRow h2) fun F' H' e1 e2 => same_t e2 (same_t e1 h1)⟩)
end
/-! ## targets of two names; a block's slots -/
section
variable {K : PySem.W.Frag} {σ : L2.St} {H : Hp} {p : Addr} {u w : V} {QS : L2.St → Hp → Prop} {t g : TG} {ts : TGs} {n : Nat} {vs : List V}
theorem rd_gt2 (h : SqT K H p [u, w]) (k : ts [u, w] σ H QS) : gTup K 2 ts (.ref p) σ H QS := ⟨p, _, rfl, h, rfl, k⟩
theorem rd_gt3 {z : V} (h : SqT K H p [u, w, z]) (k : ts [u, w, z] σ H QS) : gTup K 3 ts (.ref p) σ H QS := ⟨p, _, rfl, h, rfl, k⟩
theorem rd_gc {v : V} (k : g v σ H fun σ' H' => ts vs σ' H' QS) : gCons g ts (v :: vs) σ H QS := ⟨v, vs, rfl, k⟩
theorem rd_gl (k : QS σ H) : gNil [] σ H QS := ⟨rfl, k⟩
theorem rd_wp {A B : Prop} (h : A) (k : B) : A ∧ B := ⟨h, k⟩
theorem rd_cont {N B C : L2.St → Hp → Prop} {R : VK} (k : C σ H) : tCont ⟨N, R, B, C⟩ σ H := k
theorem rd_brk {N B C : L2.St → Hp → Prop} {R : VK} (k : B σ H) : tBreak ⟨N, R, B, C⟩ σ H := k
end
/-! ## isinstance of a value whose kind is known -/
section
variable {K : PySem.W.Frag} {P : Addr → Prop} {F0 H0 F H : Hp} {v : V} {α β : Type} {A : R α} {B : R β} {xs : List α} {Q : VK}
theorem tx_int {i : Int} : TyX K H (.int i) (.type "int") := .base (.int i)
theorem tx_bl {i : Bool} : TyX K H (.bl i) (.type "bool") := .base (.bl i)
theorem tx_str {i : Str} : TyX K H (.str i) (.type "str") := .base (.str i)
theorem tx_non : TyX K H .non (.type "NoneType") := .base .non
theorem tx_list (s : SeenR A K F H v xs) : TyX K H v (.type "list") := by
  obtain ⟨p, vs, rfl, (h | ⟨o, h⟩) | ⟨o, its, n, h1, h2, _⟩, _⟩ := s
  · exact .base (.lst h)
  · exact .base (.frz h)
  · exact .kList h1 h2
theorem tx_sqt {p : Addr} {vs : List V} (h : SqT K H p vs) : TyX K H (.ref p) (.type "tuple") := by
  rcases h with (h | ⟨o, h⟩) | ⟨o, its, n, h1, h2, _⟩
  · exact .base (.tup h)
  · exact .fTuple h
  · exact .kTuple h1 h2
theorem tx_tup (s : SeenT A K F H v xs) : TyX K H v (.type "tuple") := by
  obtain ⟨p, vs, rfl, h, _⟩ := s
  exact tx_sqt h
theorem tx_pair {x : α × β} (S : Sx P F0 H0 F H) (r : (q2 A B).r K F v x) : TyX K H v (.type "tuple") := by
  obtain ⟨p, u, w, rfl, h, _⟩ := r
  exact tx_sqt (same_t S.sub h)
theorem rd_isi {t : Value} {n : String} {b : Bool} (s : TyX K H v t) (h : PySem.W.kitOne [] t (.type n) = some b) (k : Q (.bl b) H) (hk : PySem.W.kitOne K t (.type n) = PySem.W.kitOne [] t (.type n) := by rfl) : rIsi K [v, .ty n] H Q :=
  ⟨v, .ty n, t, .type n, b, rfl, .ty n, s, hk.trans h, k⟩
end
/-! ## list(range(..)) -/
section
variable {σ : L2.St} {H : Hp} {Q : VK} {ta tb : TE} {tr : L2.St → Hp → (Int → Int → Hp → Prop) → Prop} {K : PySem.W.Frag} {F : Hp} {QI : Int → Int → Hp → Prop}
def rgFit (a b : Int) : Bool := (decide (-(2 ^ 62) ≤ a) && decide (a < 2 ^ 62)) && (decide (-(2 ^ 62) ≤ b) && (decide (b < 2 ^ 62) && decide ((b - a).toNat ≤ 100000)))
def gK (Q : VK) : Int → Int → Hp → Prop := fun a b H1 => RgOk a b ∧ ∀ q, H1 q = none → Q (.ref q) (upd H1 q (.lst (rgV a b)))
theorem rd_lrg (k : tr σ H (gK Q)) : tLstRg tr σ H Q := k
def g1K (Q : Int → Int → Hp → Prop) : VK := fun x H1 => ∃ n, x = .int n ∧ Q 0 n H1
theorem rd_g1 (k : ta σ H (g1K QI)) : tRg1 ta σ H QI := k
theorem rd_g1i {n : Int} (k : QI 0 n H) : g1K QI (.int n) H := ⟨n, rfl, k⟩
def g2K (Q : Int → Int → Hp → Prop) : V → V → Hp → Prop := fun x y H2 => ∃ i j, x = .int i ∧ y = .int j ∧ Q i j H2
theorem rd_g2 (k : ta σ H fun x H1 => tb σ H1 fun y H2 => g2K QI x y H2) : tRg2 ta tb σ H QI := k
theorem rd_g2i {i j : Int} (k : QI i j H) : g2K QI (.int i) (.int j) H := ⟨i, j, rfl, rfl, k⟩
theorem row_rg {a b : Int} : Row qI K F (rgV a b) (rng a b) := by
  unfold rgV rng
  have : ∀ l : List Nat, Row qI K F (l.map fun i : Nat => V.int (a + (i : Nat))) (l.map fun i : Nat => a + (i : Nat)) := fun l => by
    induction l with
    | nil => exact .nil
    | cons x l ih => exact .cons rfl ih
  exact this _
theorem rd_lrgE {a b : Int} (h : rgFit a b = true) (k : nL qI K F Q H (rng a b)) : gK Q a b H := by
  unfold rgFit at h
  simp only [Bool.and_eq_true, decide_eq_true_eq] at h
  obtain ⟨⟨h1, h2⟩, h3, h4, h5⟩ := h
  exact ⟨⟨h1, h2, h3, h4, by omega⟩, fun q hq => k q _ hq row_rg⟩
end
/-! ## a def's promise, its end -/
theorem live1 {P : Addr → Prop} {H0 F H : Hp} {p : Addr} {o : HO} (w : Ow P H0 F H p o) : ∀ a, a = p → H a ≠ none := fun a z => by rw [z, w.at_]; exact fun h => nomatch h
end Gl
namespace Gl
open PySem PySem.Spec PyProof.Rows L2
theorem ifE_j {b : Bool} {u1 u2 : VK → Prop} {Q : VK} (J : V → Hp → Prop) (h1 : b = true → ∀ Q' : VK, (∀ c H', J c H' → Q' c H') → u1 Q') (h2 : b = false → ∀ Q' : VK, (∀ c H', J c H' → Q' c H') → u2 Q') (k : ∀ c H', J c H' → Q c H') : if b = true then u1 Q else u2 Q := by
  cases b with
  | true => exact h1 rfl Q k
  | false => exact h2 rfl Q k
end Gl
namespace Gl
open PySem PySem.Spec PyProof.Rows L2
/-! ## what is never reached -/
theorem if_ff {A B : Prop} (h : B) : if false = true then A else B := h
section
variable {X : Cx}
theorem ps_dead {st : Stmt} : PS X st (fun _ _ _ => False) := ⟨fun _ _ _ _ _ _ h => h.elim⟩
theorem pss_dead {ss : List Stmt} : PSs X ss (fun _ _ _ => False) := ⟨fun _ _ _ _ _ _ h => h.elim⟩
theorem pe_dead {e : Expr} : PE X e (fun _ _ _ => False) := ⟨fun _ _ _ _ _ _ h => h.elim⟩
theorem pt_dead {e : Expr} : PT X e (fun _ _ _ => False) := ⟨fun _ _ _ _ _ _ h => h.elim⟩
theorem pw_dead {e : Expr} : PW X e (fun _ _ _ => False) := ⟨fun _ _ _ _ _ _ _ h => h.elim⟩
end
end Gl

namespace Gl
open PySem PySem.Spec PyProof.Rows L2

/-! ## plain mathematics: results that are there -/
def Ok {α : Type} (x : Option α) (Q : α → Prop) : Prop := ∃ a, x = some a ∧ Q a
section
variable {α β S ρ : Type} {x y : Option α} {P Q : α → Prop} {f : α → Option β} {R : β → Prop} {a : α} {b : Bool}
theorem Ok.sm (h : Q a) : Ok (some a) Q := ⟨a, rfl, h⟩
theorem Ok.bd (h : Ok x P) (k : ∀ a, P a → Ok (f a) R) : Ok (x.bind f) R := by
  obtain ⟨a, rfl, p⟩ := h
  exact k a p
theorem Ok.bde (h : x = some a) (k : Ok (f a) R) : Ok (x.bind f) R := by
  rw [h]; exact k
theorem Ok.gd (h : b = true) (k : Ok x Q) : Ok (gd b x) Q := by rw [gd_true h]; exact k
theorem Ok.ite (h1 : b = true → Ok x Q) (h2 : b = false → Ok y Q) : Ok (if b = true then x else y) Q := by
  cases b with
  | true => exact h1 rfl
  | false => exact h2 rfl
theorem Ok.mono (h : Ok x P) (k : ∀ a, P a → Q a) : Ok x Q := let ⟨a, e, p⟩ := h; ⟨a, e, k a p⟩
theorem Ok.eq {a : α} (h : Ok x fun r => r = a) : x = some a := let ⟨b, e, p⟩ := h; p ▸ e
theorem Ok.of (h : x = some a) (k : Q a) : Ok x Q := ⟨a, h, k⟩
/-- a loop: what holds ahead of each item -/
theorem Ok.loop {f : α → S → Option S} {xs : List α} {s0 : S} (I : List α → S → Prop) (h0 : I [] s0) (hs : ∀ pre x post s, xs = pre ++ x :: post → I pre s → Ok (f x s) (I (pre ++ [x]))) : Ok (loopS f xs s0) (I xs) := by
  have key : ∀ (post pre : List α) (s : S), xs = pre ++ post → I pre s → Ok (loopS f post s) (I xs) := by
    intro post
    induction post with
    | nil => intro pre s e h; rw [List.append_nil] at e; subst e; exact ⟨s, rfl, h⟩
    | cons x post ih =>
      intro pre s e h
      obtain ⟨s', e1, h1⟩ := hs pre x post s e h
      obtain ⟨r, e2, h2⟩ := ih (pre ++ [x]) s' (by rw [e]; simp) h1
      exact ⟨r, by show (f x s).bind _ = _; rw [e1]; exact e2, h2⟩
  exact key xs [] s0 rfl h0
/-- a loop that never leaves -/
theorem Ok.loopN {f : α → S → Option (Ctl S ρ)} {xs : List α} {s0 : S} (I : List α → S → Prop) (h0 : I [] s0) (hs : ∀ pre x post s, xs = pre ++ x :: post → I pre s → Ok (f x s) fun c => ∃ s', c = .nx s' ∧ I (pre ++ [x]) s') : Ok (loopC f xs s0) fun c => ∃ s', c = .nx s' ∧ I xs s' := by
  have key : ∀ (post pre : List α) (s : S), xs = pre ++ post → I pre s → Ok (loopC f post s) fun c => ∃ s', c = .nx s' ∧ I xs s' := by
    intro post
    induction post with
    | nil => intro pre s e h; rw [List.append_nil] at e; subst e; exact ⟨_, rfl, s, rfl, h⟩
    | cons x post ih =>
      intro pre s e h
      obtain ⟨_, e1, s', rfl, h1⟩ := hs pre x post s e h
      obtain ⟨r, e2, h2⟩ := ih (pre ++ [x]) s' (by rw [e]; simp) h1
      exact ⟨r, by show (f x s).bind _ = _; rw [e1]; exact e2, h2⟩
  exact key xs [] s0 rfl h0
/-- a loop that may return: it holds ahead of each item unless it has returned -/
theorem Ok.loopR {f : α → S → Option (Ctl S ρ)} {xs : List α} {s0 : S} (I : List α → S → Prop) (T : ρ → Prop) (h0 : I [] s0) (hs : ∀ pre x post s, xs = pre ++ x :: post → I pre s → Ok (f x s) fun c => (∃ s', c = .nx s' ∧ I (pre ++ [x]) s') ∨ ∃ r, c = .rt r ∧ T r) : Ok (loopC f xs s0) fun c => (∃ s', c = .nx s' ∧ I xs s') ∨ ∃ r, c = .rt r ∧ T r := by
  have key : ∀ (post pre : List α) (s : S), xs = pre ++ post → I pre s → Ok (loopC f post s) fun c => (∃ s', c = .nx s' ∧ I xs s') ∨ ∃ r, c = .rt r ∧ T r := by
    intro post
    induction post with
    | nil => intro pre s e h; rw [List.append_nil] at e; subst e; exact ⟨_, rfl, .inl ⟨s, rfl, h⟩⟩
    | cons x post ih =>
      intro pre s e h
      obtain ⟨_, e1, ⟨s', rfl, h1⟩ | ⟨r, rfl, h1⟩⟩ := hs pre x post s e h
      · obtain ⟨r, e2, h2⟩ := ih (pre ++ [x]) s' (by rw [e]; simp) h1
        exact ⟨r, by show (f x s).bind _ = _; rw [e1]; exact e2, h2⟩
      · exact ⟨.rt r, by show (f x s).bind _ = _; rw [e1]; rfl, .inr ⟨r, rfl, h1⟩⟩
  exact key xs [] s0 rfl h0
/-- a comprehension without a state -/
theorem comp_pure {f : α → Unit → Option (Option β × Unit)} {g : α → Option β} : ∀ {xs : List α}, (∀ x ∈ xs, f x () = some (g x, ())) → comp f xs () = some (xs.filterMap g, ())
  | [], _ => rfl
  | x :: xs, h => by
    show (f x ()).bind _ = _
    rw [h x List.mem_cons_self]
    show ((comp f xs ()).bind fun r => some (match g x with
      | some y => (y :: r.1, r.2)
      | none => r)) = _
    rw [comp_pure fun y hy => h y (List.mem_cons_of_mem _ hy), List.filterMap_cons]
    cases g x <;> rfl
end
theorem filterMap_some {α : Type} : ∀ xs : List α, xs.filterMap (fun x => some x) = xs
  | [] => rfl
  | x :: xs => by rw [List.filterMap_cons, filterMap_some xs]
theorem filterMap_ite {α : Type} {p : α → Bool} : ∀ xs : List α, xs.filterMap (fun x => if p x = true then some x else none) = xs.filter p
  | [] => rfl
  | x :: xs => by
    rw [List.filterMap_cons, List.filter_cons, filterMap_ite xs]
    cases p x <;> rfl
/-! ### texts as rows of numbers -/
def cl (s : Str) : List Nat := s.cps.toList
theorem cl_inj {a b : Str} (h : cl a = cl b) : a = b := by
  obtain ⟨a⟩ := a; obtain ⟨b⟩ := b
  exact congrArg Str.mk (Array.toList_inj.mp h)
theorem cl_len (s : Str) : s.length = (cl s).length := (Array.length_toList).symm
theorem cl_app (a b : Str) : cl (a ++ b) = cl a ++ cl b := Array.toList_append
theorem cl_sg (c : Nat) : cl ⟨#[c]⟩ = [c] := rfl
theorem sgns_cl (s : Str) : sgns s = (cl s).map fun c => ⟨#[c]⟩ := rfl
theorem cl_cut (z : Str) (lo hi : Option Int) : cl (cutS z lo hi) = cut (cl z) lo hi := by
  unfold cl cutS cut
  rw [List.toList_toArray]
  show _ = List.take (HT.sIx z.cps.toList.length z.cps.toList.length hi - HT.sIx z.cps.toList.length 0 lo) (List.drop (HT.sIx z.cps.toList.length 0 lo) z.cps.toList)
  rw [Array.length_toList]
  rfl
theorem sIx_nn {n d : Nat} {k : Int} (h : 0 ≤ k) : HT.sIx n d (some k) = min k.toNat n := by
  obtain ⟨m, rfl⟩ := Int.eq_ofNat_of_zero_le h
  rw [HT.sIx_nat]; rfl
theorem cut_to {α : Type} (xs : List α) {k : Int} (h : 0 ≤ k) : cut xs none (some k) = xs.take k.toNat := by
  unfold cut
  rw [HT.sIx_none, sIx_nn h, List.drop_zero, Nat.sub_zero]
  rcases Nat.le_total k.toNat xs.length with e | e
  · rw [Nat.min_eq_left e]
  · rw [Nat.min_eq_right e, List.take_of_length_le (Nat.le_refl _), List.take_of_length_le e]
theorem cut_from {α : Type} (xs : List α) {k : Int} (h : 0 ≤ k) : cut xs (some k) none = xs.drop k.toNat := by
  unfold cut
  rw [HT.sIx_none, sIx_nn h]
  rcases Nat.le_total k.toNat xs.length with e | e
  · rw [Nat.min_eq_left e, List.take_of_length_le]; rw [List.length_drop]; omega
  · rw [Nat.min_eq_right e, Nat.sub_self, List.take_zero, List.drop_of_length_le e]
theorem cut_mid {α : Type} (xs : List α) {a b : Int} (h : 0 ≤ a) (h2 : a ≤ b) : cut xs (some a) (some b) = (xs.drop a.toNat).take (b.toNat - a.toNat) := by
  unfold cut
  rw [sIx_nn h, sIx_nn (by omega)]
  rcases Nat.le_total a.toNat xs.length with e | e
  · rw [Nat.min_eq_left e]
    rcases Nat.le_total b.toNat xs.length with e2 | e2
    · rw [Nat.min_eq_left e2]
    · rw [Nat.min_eq_right e2, List.take_of_length_le (by rw [List.length_drop]; omega), List.take_of_length_le (by rw [List.length_drop]; omega)]
  · rw [Nat.min_eq_right e, List.drop_of_length_le e, List.drop_of_length_le (Nat.le_refl _)]; simp
theorem atI_nn {α : Type} {xs : List α} {i : Int} (h : 0 ≤ i) (h2 : i < xs.length) : atI xs i = xs[i.toNat]? := by
  unfold atI ixN
  rw [if_pos h, if_pos h2]; rfl
theorem atI_last {α : Type} {xs : List α} {a : α} : atI (xs ++ [a]) (-1) = some a := by
  unfold atI ixN
  rw [if_neg (by decide), if_pos (by simp; omega)]
  show (xs ++ [a])[((-1 : Int) + ((xs ++ [a]).length : Nat)).toNat]? = _
  have e : ((-1 : Int) + ((xs ++ [a]).length : Nat)).toNat = xs.length := by simp; omega
  rw [e]; simp
theorem ixS_ok {s : Str} {i : Int} (h : 0 ≤ i) (h2 : i < s.length) (h3 : s.length ≤ sizeLine) : Ok (ixS s i) fun z => ∃ c, (cl s)[i.toNat]? = some c ∧ z = ⟨#[c]⟩ := by
  unfold ixS
  refine Ok.gd (by unfold fitsS; exact decide_eq_true h3) ?_
  rw [atI_nn h (by rw [Array.length_toList]; exact h2)]
  have hl : i.toNat < (cl s).length := by rw [← cl_len]; omega
  refine Ok.bde (a := (cl s)[i.toNat]) (by show (cl s)[i.toNat]? = _; simp [hl]) ?_
  exact Ok.sm ⟨_, by simp [hl], rfl⟩
theorem sizeLine_big : (1000000 : Nat) ≤ sizeLine := by rw [sizeLine_eq]; decide
theorem fitsS_ok {s : Str} (h : s.length ≤ 1000000) : fitsS s = true := decide_eq_true (Nat.le_trans h sizeLine_big)
theorem fits_ok {α : Type} {s : List α} (h : s.length < 1000000) : fits s = true := decide_eq_true (Nat.lt_of_lt_of_le h sizeLine_big)
theorem fitsE_ok {α : Type} {s : List α} (h : s.length ≤ 1000000) : fitsE s = true := decide_eq_true (Nat.le_trans h sizeLine_big)
theorem fits2_ok {α : Type} {s t : List α} (h : s.length + t.length ≤ 1000000) : fits2 s t = true := decide_eq_true (Nat.le_trans h sizeLine_big)
theorem catOk_ok {s t : Str} (h : s.length + t.length ≤ 1000000) : catOk s t = true := decide_eq_true (Nat.le_trans h sizeLine_big)
theorem rgOk_ok {a b : Int} (h : -1000000 ≤ a) (h2 : a ≤ 1000000) (h3 : -1000000 ≤ b) (h4 : b ≤ 1000000) : rgOk a b = true := by
  unfold rgOk
  rw [decide_eq_true (show -(2 ^ 62) ≤ a by omega), decide_eq_true (show a < 2 ^ 62 by omega), decide_eq_true (show -(2 ^ 62) ≤ b by omega), decide_eq_true (show b < 2 ^ 62 by omega)]; rfl
theorem rgFit_ok {a b : Int} (h : -1000 ≤ a) (h2 : a ≤ 1000) (h3 : -1000 ≤ b) (h4 : b ≤ 1000) : rgFit a b = true := by
  unfold rgFit
  rw [decide_eq_true (show -(2 ^ 62) ≤ a by omega), decide_eq_true (show a < 2 ^ 62 by omega), decide_eq_true (show -(2 ^ 62) ≤ b by omega), decide_eq_true (show b < 2 ^ 62 by omega), decide_eq_true (show (b - a).toNat ≤ 100000 by omega)]; rfl
theorem mulOk_l {a b : Int} (h : -(2 ^ 64) < a) (h2 : a < 2 ^ 64) : mulOk a b = true := by
  unfold mulOk; rw [decide_eq_true h, decide_eq_true h2]; rfl
theorem mulOk_r {a b : Int} (h : -(2 ^ 64) < b) (h2 : b < 2 ^ 64) : mulOk a b = true := by
  unfold mulOk; rw [decide_eq_true h, decide_eq_true h2]; simp
theorem modOk_ok {a : Int} (h : 0 < a) : modOk a = true := decide_eq_true h
theorem divOk_ok {a : Int} (h : 0 < a) (h2 : a < 1073741824) : divOk a = true := by
  unfold divOk; rw [decide_eq_true h, decide_eq_true h2]; rfl
theorem repS_cl {x : Str} {n : Int} (h : 0 ≤ n) : cl (repS x n) = (List.replicate n.toNat (cl x)).flatten := by
  have fold : ∀ (k : Nat) (acc : Array Nat), ((List.replicate k x.cps).foldl (· ++ ·) acc).toList = acc.toList ++ (List.replicate k x.cps.toList).flatten := by
    intro k
    induction k with
    | zero => intro acc; simp
    | succ k ih => intro acc; rw [List.replicate_succ, List.foldl_cons, ih, List.replicate_succ, List.flatten_cons, Array.toList_append, List.append_assoc]
  unfold repS Txt.mul
  by_cases h1 : n < 1
  · rw [if_pos h1]
    have e : n.toNat = 0 := by omega
    rw [e]; rfl
  · rw [if_neg h1]
    by_cases h2 : (n == 1 || x.length == 0) = true
    · rw [if_pos h2]
      rcases Bool.or_eq_true_iff.mp h2 with h3 | h3
      · have e : n = 1 := by simpa using h3
        subst e
        show cl x = _
        simp
      · have e : x.length = 0 := by simpa using h3
        rw [cl_len] at e
        have e2 : cl x = [] := List.eq_nil_of_length_eq_zero e
        rw [e2]
        symm
        rw [List.flatten_eq_nil_iff]
        intro l hl
        exact (List.mem_replicate.mp hl).2
    · rw [if_neg h2]
      show ((List.replicate n.toNat x.cps).foldl (· ++ ·) #[]).toList = _
      rw [fold]
      simp [cl]
theorem repOk_ok {x : Str} {n : Int} (h : 0 ≤ n) (h2 : n ≤ 100) (h3 : x.length ≤ 100) : repOk x n = true := by
  unfold repOk
  have e : x.length * n.toNat ≤ 100000 := Nat.le_trans (Nat.mul_le_mul h3 (show n.toNat ≤ 100 by omega)) (by decide)
  rw [decide_eq_true (show -(2 ^ 62) ≤ n by omega), decide_eq_true (show n < 2 ^ 62 by omega), decide_eq_true e, decide_eq_true (show x.length ≤ 100000 by omega)]; rfl
theorem rng_mem {a b i : Int} : i ∈ rng a b ↔ a ≤ i ∧ i < b := by
  unfold rng
  rw [List.mem_map]
  constructor
  · rintro ⟨j, hj, rfl⟩
    rw [List.mem_range] at hj
    omega
  · intro ⟨h1, h2⟩
    exact ⟨(i - a).toNat, by rw [List.mem_range]; omega, by omega⟩
theorem rng_len (a b : Int) : (rng a b).length = (b - a).toNat := by unfold rng; simp
theorem rng_at {a b : Int} {pre post : List Int} {x : Int} (h : rng a b = pre ++ x :: post) : x = a + pre.length ∧ pre = rng a x ∧ a ≤ x ∧ x < b := by
  have hx : x ∈ rng a b := by rw [h]; simp
  rw [rng_mem] at hx
  have hg : (rng a b)[pre.length]? = some x := by rw [h]; simp
  have hl : pre.length < (b - a).toNat := by
    have := congrArg List.length h
    rw [rng_len] at this
    simp at this
    omega
  have hx2 : x = a + pre.length := by
    unfold rng at hg
    rw [List.getElem?_map, List.getElem?_range hl] at hg
    exact (Option.some.inj hg).symm
  refine ⟨hx2, ?_, hx⟩
  have e : pre = (rng a b).take pre.length := by rw [h]; simp
  rw [e]
  unfold rng
  rw [← List.map_take, List.take_range]
  congr 2
  rw [hx2]; omega
theorem rng_snoc {a b : Int} (h : a ≤ b) : rng a (b + 1) = rng a b ++ [b] := by
  unfold rng
  have e : (b + 1 - a).toNat = (b - a).toNat + 1 := by omega
  rw [e, List.range_succ, List.map_append]
  congr 1
  show [a + ((b - a).toNat : Int)] = [b]
  congr 1
  omega
/-! ### == of data: the sides are small -/
def okS (s : Str) : Prop := PyData.strOk s = true
theorem canAll {α : Type} {A : R α} (D : Dat A) : ∀ {xs : List α}, (∀ x ∈ xs, (D.d x).canLay0 = true) → PyData.canLayAll0 (xs.map D.d) = true
  | [], _ => rfl
  | x :: xs, h => by
    show ((D.d x).canLay0 && PyData.canLayAll0 (xs.map D.d)) = true
    rw [h x List.mem_cons_self, canAll D fun y hy => h y (List.mem_cons_of_mem _ hy)]; rfl
theorem depAll {α : Type} {A : R α} (D : Dat A) {n : Nat} : ∀ {xs : List α}, (∀ x ∈ xs, (D.d x).depth ≤ n) → PyData.depthAll (xs.map D.d) ≤ n
  | [], _ => Nat.zero_le _
  | x :: xs, h => by
    show max (D.d x).depth (PyData.depthAll (xs.map D.d)) ≤ n
    exact Nat.max_le.mpr ⟨h x List.mem_cons_self, depAll D fun y hy => h y (List.mem_cons_of_mem _ hy)⟩
theorem shp_of {α : Type} {A : R α} {D : Dat A} {a : α} (h : (D.d a).canLay0 = true) (h2 : (D.d a).depth ≤ 64) : shp D a = true := by
  show ((D.d a).canLay0 && decide ((D.d a).depth ≤ 64)) = true
  rw [h, decide_eq_true h2]; rfl
theorem shp_lS {xs : List Str} (h : ∀ x ∈ xs, okS x) : shp (dL dS) xs = true := shp_of (canAll dS h) (Nat.succ_le_of_lt (Nat.lt_of_le_of_lt (depAll dS (n := 0) fun _ _ => Nat.le_refl _) (by decide)))
theorem shp_tS {xs : List Str} (h : ∀ x ∈ xs, okS x) : shp (dT dS) xs = true := shp_of (canAll dS h) (Nat.succ_le_of_lt (Nat.lt_of_le_of_lt (depAll dS (n := 0) fun _ _ => Nat.le_refl _) (by decide)))
theorem shp_lI (xs : List Int) : shp (dL dI) xs = true := shp_of (canAll dI fun _ _ => rfl) (Nat.succ_le_of_lt (Nat.lt_of_le_of_lt (depAll dI (n := 0) fun _ _ => Nat.le_refl _) (by decide)))
theorem shp_tI (xs : List Int) : shp (dT dI) xs = true := shp_of (canAll dI fun _ _ => rfl) (Nat.succ_le_of_lt (Nat.lt_of_le_of_lt (depAll dI (n := 0) fun _ _ => Nat.le_refl _) (by decide)))
/-- a loop that picks out of a row: what has been picked so far is known -/
theorem loop_pick {α : Type} {f : α → List α → Option (List α)} {xs : List α} (p : α → Bool) (hs : ∀ pre x post, xs = pre ++ x :: post → f x (pre.filter p) = some (if p x = true then pre.filter p ++ [x] else pre.filter p)) : loopS f xs [] = some (xs.filter p) := by
  refine Ok.eq (Ok.loop (fun pre s => s = pre.filter p) rfl fun pre x post s e h => ?_)
  subst h
  refine ⟨_, hs pre x post e, ?_⟩
  rw [List.filter_append, List.filter_cons]
  cases p x <;> simp
end Gl

namespace Law
open PySem PySem.Spec PyProof.Rows L2 Gl
def m_cells_of_b1  (x23 : Str) (s25 : (List Str)) : Option (List Str) :=
  (if (decide (x23 ∈ (["<digits>", "<word>", "<any>"] : List Str))) = true then (gd (fits s25) <| some ((s25 ++ [x23]))) else (gd (fitsS x23) <| gd (fits2 s25 (sgns x23)) <| some ((s25 ++ (sgns x23)))))
def m_cells_of (a_parts : (List Str)) : Option (List Str) :=
  ((loopS m_cells_of_b1 a_parts (([] : List Str))).bind fun t17 => some t17)
def m_takes (a_cell : Str) (a_sign : Str) : Option Bool :=
  (if (decide (a_cell = ("<any>" : Str))) = true then (some true) else (if (decide (a_cell = ("<digits>" : Str))) = true then (some (inS a_sign ("0123456789" : Str))) else (if (decide (a_cell = ("<word>" : Str))) = true then (some (inS a_sign ("ABCDEFGHIJKLMNOPQRSTUVWXYZabcdefghijklmnopqrstuvwxyz" : Str))) else (some (decide (a_cell = a_sign))))))
def m_closed_b1 (a_cells : (List Str)) (a_positions : (List Int)) (x17 : Int) (s19 : (List Int)) : Option (List Int) :=
  ((if (decide (x17 ∈ a_positions)) = true then some (true) else ((if decide (0 < x17) = true then ((atI a_cells (x17 - 1)).bind fun t69 => some (((decide (t69 = ("<any>" : Str))) && (decide ((x17 - 1) ∈ s19))))) else some (false)).bind fun t63 => some (t63))).bind fun t53 => if t53 = true then (gd (fits s19) <| some ((s19 ++ [x17]))) else (some (s19)))
def m_closed (a_cells : (List Str)) (a_positions : (List Int)) : Option (List Int) :=
  (gd (rgOk 0 (((a_cells).length : Int) + 1)) <| (loopS (m_closed_b1 a_cells a_positions) (rng 0 (((a_cells).length : Int) + 1)) (([] : List Int))).bind fun t11 => some t11)
def m_started (a_cells : (List Str)) : Option (List Int) :=
  ((m_closed (a_cells) ([0])).bind fun t7 => some t7)
def m_moved_b1 (a_cells : (List Str)) (a_sign : Str) (x23 : Int) (s25 : (List Int)) : Option (List Int) :=
  ((((if decide (x23 < ((a_cells).length : Int)) = true then ((atI a_cells x23).bind fun t61 => (m_takes (t61) (a_sign)).bind fun t65 => some (t65)) else some (false)).bind fun t55 => if t55 = true then ((atI a_cells x23).bind fun t80 => (if (decide (t80 = ("<any>" : Str))) = true then (some (x23)) else (some ((x23 + 1)))).bind fun t84 => gd (fits s25) <| some ((s25 ++ [t84]))) else (some (s25)))).bind fun (t39 : (List Int)) => (if decide (0 < x23) = true then ((atI a_cells (x23 - 1)).bind fun t169 => (if (decide (t169 ∈ [("<digits>" : Str), ("<word>" : Str)])) = true then ((atI a_cells (x23 - 1)).bind fun t197 => (m_takes (t197) (a_sign)).bind fun t201 => some (t201)) else some (false)).bind fun t191 => some (t191)) else some (false)).bind fun t163 => if t163 = true then (gd (fits t39) <| some ((t39 ++ [x23]))) else (some (t39)))
def m_moved (a_cells : (List Str)) (a_positions : (List Int)) (a_sign : Str) : Option (List Int) :=
  ((loopS (m_moved_b1 a_cells a_sign) a_positions (([] : List Int))).bind fun t17 => (m_closed (a_cells) (t17)).bind fun t243 => some t243)
def m_is_done (a_cells : (List Str)) (a_positions : (List Int)) : Option Bool :=
  (some (decide (((a_cells).length : Int) ∈ a_positions)))
def m_law_pool (a__law_script : (List Int)) (a__law_k : Int) : Option (Int × Int) :=
  (((gd (shp (dL dI) a__law_script) <| gd (shp (dL dI) ([] : List Int)) <| if (!decide (a__law_script = ([] : List Int))) = true then (gd (modOk ((a__law_script).length : Int)) <| (atI a__law_script (a__law_k % ((a__law_script).length : Int))).bind fun t14 => some (t14)) else (some (0)))).bind fun (t1 : Int) => gd (modOk 2147483629) <| gd (mulOk 104729 a__law_k) <| gd (mulOk (((t1 % 2147483629) + (104729 * a__law_k)) + 11) 48271) <| gd (modOk 2147483647) <| gd (powOk 10 18) <| gd (mulOk t1 (b2I (decide ((10 ^ (18 : Int).toNat) ≤ t1)))) <| some ((t1 * (b2I (decide ((10 ^ (18 : Int).toNat) ≤ t1)))), (((((t1 % 2147483629) + (104729 * a__law_k)) + 11) * 48271) % 2147483647)))
def m_law_take (a__law_pool_here : (Int × Int)) (a__law_many : Int) : Option (Int × (Int × Int)) :=
  (if decide (0 < (a__law_pool_here).1) = true then (gd (modOk a__law_many) <| gd (divOk a__law_many) <| some (((a__law_pool_here).1 % a__law_many), (((a__law_pool_here).1 / a__law_many), (a__law_pool_here).2))) else (gd (mulOk (a__law_pool_here).2 48271) <| gd (modOk 2147483647) <| gd (mulOk (((a__law_pool_here).1, ((((a__law_pool_here).2 * 48271) + 11) % 2147483647))).2 (((a__law_pool_here).1, ((((a__law_pool_here).2 * 48271) + 11) % 2147483647))).2) <| gd (modOk 2147483629) <| gd (divOk 64) <| gd (modOk a__law_many) <| some ((((((((a__law_pool_here).1, ((((a__law_pool_here).2 * 48271) + 11) % 2147483647))).2 * (((a__law_pool_here).1, ((((a__law_pool_here).2 * 48271) + 11) % 2147483647))).2) % 2147483629) / 64) % a__law_many), ((a__law_pool_here).1, ((((a__law_pool_here).2 * 48271) + 11) % 2147483647)))))
def m_law_all_signs  : Option Str :=
  (some (" #-.0123456789:>ABCDEFGHIJKLMNOPQRSTUVWXYZabcdefghijklmnopqrstuvwxyz" : Str))
def m_law_text_b1 (t1 : (Int × (Int × Int))) (x28 : Int) (s30 : ((Int × Int) × Str)) : Option ((Int × Int) × Str) :=
  (if (decide (t1.1 = 0)) = true then ((m_law_all_signs).bind fun t43 => (m_law_take (s30.1) (68)).bind fun t51 => (ixS t43 t51.1).bind fun t61 => gd (catOk s30.2 t61) <| some (t51.2, (s30.2 ++ t61))) else ((m_law_take (s30.1) (4)).bind fun t64 => (ixS ("a1-b" : Str) t64.1).bind fun t74 => gd (catOk s30.2 t74) <| some (t64.2, (s30.2 ++ t74))))
def m_law_text (a__law_pool_here : (Int × Int)) : Option (Str × (Int × Int)) :=
  ((m_law_take (a__law_pool_here) (3)).bind fun t1 => (m_law_take (t1.2) (4)).bind fun t11 => gd (rgOk 0 (1 + t11.1)) <| (loopS (m_law_text_b1 t1) (rng 0 (1 + t11.1)) (t11.2, ("" : Str))).bind fun t22 => some (t22.2, t22.1))
def m_law_rich_b1  (x28 : Int) (s30 : ((Int × Int) × (List Str))) : Option ((Int × Int) × (List Str)) :=
  ((m_law_take (s30.1) (6)).bind fun t47 => gd (shp (dL dS) s30.2) <| gd (shp (dL dS) ([] : List Str)) <| (if (!decide (s30.2 = ([] : List Str))) = true then ((atI s30.2 (-1)).bind fun t81 => some ((!decide (t81 ∈ [("<any>" : Str), ("<digits>" : Str), ("<word>" : Str)])))) else some (false)).bind fun t75 => if ((decide (t47.1 = 0)) && (!decide (("<any>" : Str) ∈ s30.2))) = true then (gd (fits s30.2) <| some (t47.2, (s30.2 ++ [("<any>" : Str)]))) else (if (decide (t47.1 = 1)) = true then (gd (fits s30.2) <| some (t47.2, (s30.2 ++ [("<digits>" : Str)]))) else (if ((decide (t47.1 = 2)) || t75) = true then (gd (fits s30.2) <| some (t47.2, (s30.2 ++ [("<word>" : Str)]))) else ((m_law_text (t47.2)).bind fun t118 => gd (fits s30.2) <| some (t118.2, (s30.2 ++ [t118.1]))))))
def m_law_rich (a__law_pool_here : (Int × Int)) : Option ((List Str) × (Int × Int)) :=
  ((m_law_take (a__law_pool_here) (4)).bind fun t10 => gd (rgOk 0 (1 + t10.1)) <| (loopS m_law_rich_b1 (rng 0 (1 + t10.1)) (t10.2, ([] : List Str))).bind fun t21 => some (t21.2, t21.1))
def m_law_takes (a__law_part : Str) (a__law_sign : Str) : Option Bool :=
  (if (decide (a__law_part = ("<digits>" : Str))) = true then (some (inS a__law_sign ("0123456789" : Str))) else (some ((decide (a__law_part = ("<word>" : Str))) && (inS a__law_sign ("ABCDEFGHIJKLMNOPQRSTUVWXYZabcdefghijklmnopqrstuvwxyz" : Str)))))
def m_law_ends_b1 (a__law_part : Str) (a__law_line_here : Str)  (s35 : ((List Int) × Int)) : Option (Bool × ((List Int) × Int)) :=
  (gd (fitsS a__law_line_here) <| (if decide (s35.2 < ((a__law_line_here).length : Int)) = true then ((ixS a__law_line_here s35.2).bind fun t66 => (m_law_takes (a__law_part) (t66)).bind fun t68 => some (t68)) else some (false)).bind fun t60 => some (t60, (s35.1, s35.2)))
def m_law_ends_b2   (s83 : ((List Int) × Int)) : Option ((List Int) × Int) :=
  (gd (fits s83.1) <| some ((s83.1 ++ [(s83.2 + 1)]), (s83.2 + 1)))
def m_law_ends (a__law_part : Str) (a__law_line_here : Str) (a__law_at : Int) : Option (List Int) :=
  (if (decide (a__law_part = ("<any>" : Str))) = true then (gd (fitsS a__law_line_here) <| gd (rgFit a__law_at (((a__law_line_here).length : Int) + 1)) <| some (rng a__law_at (((a__law_line_here).length : Int) + 1))) else (((if (decide (a__law_part ∈ [("<digits>" : Str), ("<word>" : Str)])) = true then ((whileS (m_law_ends_b1 a__law_part a__law_line_here) m_law_ends_b2 fuel (([] : List Int), a__law_at)).bind fun t30 => some (t30.1)) else (gd (fitsS a__law_part) <| gd (fitsS a__law_line_here) <| if (decide ((cutS a__law_line_here (some a__law_at) (some (a__law_at + ((a__law_part).length : Int)))) = a__law_part)) = true then (gd (fitsS a__law_part) <| gd (fits ([] : List Int)) <| some ((([] : List Int) ++ [(a__law_at + ((a__law_part).length : Int))]))) else (some (([] : List Int)))))).bind fun (t19 : (List Int)) => some t19))
def m_law_fits_b1 (s51 : (List Int)) (x82 : Int) (s84 : Unit) : Option (Option Int × Unit) :=
  (if (!decide (x82 ∈ s51)) = true then (some (some x82, ())) else some (none, ()))
def m_law_fits_b2 (a__law_line_here : Str) (x16 : Str) (x49 : Int) (s51 : (List Int)) : Option (List Int) :=
  ((m_law_ends (x16) (a__law_line_here) (x49)).bind fun t65 => gd (fitsE t65) <| (comp (m_law_fits_b1 s51) t65 ()).bind fun t78 => gd (fits2 s51 t78.1) <| some ((s51 ++ t78.1)))
def m_law_fits_b3 (a__law_line_here : Str) (x16 : Str) (s18 : (List Int)) : Option (List Int) :=
  ((loopS (m_law_fits_b2 a__law_line_here x16) s18 (([] : List Int))).bind fun t44 => some (t44))
def m_law_fits (a__law_parts : (List Str)) (a__law_line_here : Str) : Option Bool :=
  ((loopS (m_law_fits_b3 a__law_line_here) a__law_parts ([0])).bind fun t11 => (if (!decide (a__law_line_here = ("" : Str))) = true then (gd (fitsS a__law_line_here) <| some ((decide (((a__law_line_here).length : Int) ∈ t11)))) else some (false)).bind fun t147 => some t147)
def m_law_line_b1  (x11 : Str) (s13 : ((Int × Int) × Str)) : Option ((Int × Int) × Str) :=
  (if (decide (x11 = ("<digits>" : Str))) = true then ((m_law_take (s13.1) (10)).bind fun t26 => (ixS ("0123456789" : Str) t26.1).bind fun t36 => (m_law_take (t26.2) (3)).bind fun t38 => gd (repOk t36 (1 + t38.1)) <| gd (catOk s13.2 (repS t36 (1 + t38.1))) <| some (t38.2, (s13.2 ++ (repS t36 (1 + t38.1))))) else (if (decide (x11 = ("<word>" : Str))) = true then ((m_law_take (s13.1) (4)).bind fun t51 => (ixS ("aBzb" : Str) t51.1).bind fun t61 => (m_law_take (t51.2) (3)).bind fun t63 => gd (repOk t61 (1 + t63.1)) <| gd (catOk s13.2 (repS t61 (1 + t63.1))) <| some (t63.2, (s13.2 ++ (repS t61 (1 + t63.1))))) else (if (decide (x11 = ("<any>" : Str))) = true then ((m_law_text (s13.1)).bind fun t76 => (m_law_take (t76.2) (3)).bind fun t86 => gd (repOk t76.1 t86.1) <| gd (catOk s13.2 (repS t76.1 t86.1)) <| some (t86.2, (s13.2 ++ (repS t76.1 t86.1)))) else (gd (catOk s13.2 x11) <| some (s13.1, (s13.2 ++ x11))))))
def m_law_line (a__law_pool_here : (Int × Int)) (a__law_parts : (List Str)) : Option (Str × (Int × Int)) :=
  ((loopS m_law_line_b1 a__law_parts (a__law_pool_here, ("" : Str))).bind fun t5 => some (t5.2, t5.1))
def m_law_spoiled (a__law_pool_here : (Int × Int)) (a__law_line_here : Str) : Option (Str × (Int × Int)) :=
  (gd (fitsS a__law_line_here) <| (m_law_take (a__law_pool_here) ((((a__law_line_here).length : Int) + 1))).bind fun t2 => (m_law_all_signs).bind fun t12 => (m_law_take (t2.2) (68)).bind fun t20 => (ixS t12 t20.1).bind fun t30 => (m_law_take (t20.2) (5)).bind fun t32 => if (decide (t32.1 = 0)) = true then (gd (fitsS a__law_line_here) <| gd (catOk (cutS a__law_line_here none (some t2.1)) t30) <| gd (fitsS a__law_line_here) <| gd (catOk ((cutS a__law_line_here none (some t2.1)) ++ t30) (cutS a__law_line_here (some t2.1) none)) <| some ((((cutS a__law_line_here none (some t2.1)) ++ t30) ++ (cutS a__law_line_here (some t2.1) none)), t32.2)) else (if (decide (t32.1 = 1)) = true then (gd (fitsS a__law_line_here) <| gd (fitsS a__law_line_here) <| gd (catOk (cutS a__law_line_here none (some t2.1)) (cutS a__law_line_here (some (t2.1 + 1)) none)) <| some (((cutS a__law_line_here none (some t2.1)) ++ (cutS a__law_line_here (some (t2.1 + 1)) none)), t32.2)) else (if (decide (t32.1 = 2)) = true then (gd (fitsS a__law_line_here) <| gd (catOk (cutS a__law_line_here none (some t2.1)) t30) <| gd (fitsS a__law_line_here) <| gd (catOk ((cutS a__law_line_here none (some t2.1)) ++ t30) (cutS a__law_line_here (some (t2.1 + 1)) none)) <| some ((((cutS a__law_line_here none (some t2.1)) ++ t30) ++ (cutS a__law_line_here (some (t2.1 + 1)) none)), t32.2)) else (some (a__law_line_here, t32.2)))))
def m_law_cells_b1  (x55 : Str) (s57 : Unit) : Option (Option Str × Unit) :=
  (some (some x55, ()))
def m_law_cells_b2  (x19 : Str) (s21 : (List Str)) : Option (List Str) :=
  (if (decide (x19 ∈ [("<any>" : Str), ("<digits>" : Str), ("<word>" : Str)])) = true then (gd (fits s21) <| some ((s21 ++ [x19]))) else (gd (fitsE (sgns x19)) <| (comp m_law_cells_b1 (sgns x19) ()).bind fun t51 => gd (fits2 s21 t51.1) <| some ((s21 ++ t51.1))))
def m_law_cells (a__law_parts : (List Str)) : Option (List Str) :=
  ((loopS m_law_cells_b2 a__law_parts (([] : List Str))).bind fun t13 => some t13)
def m_law_due_b1  (x50 : Str) (s52 : Unit) : Option (Option Str × Unit) :=
  (if (!decide (x50 = ("<any>" : Str))) = true then (some (some x50, ())) else some (none, ()))
def m_law_due_b2 (a__law_cells_here : (List Str)) (a__law_text_here : Str) (x17 : Int) (s19 : (List Int)) : Option (List Int) :=
  (gd (fitsE (cut a__law_cells_here none (some x17))) <| (comp m_law_due_b1 (cut a__law_cells_here none (some x17)) ()).bind fun t46 => (if (decide (a__law_text_here = ("" : Str))) = true then (gd (shp (dL dS) t46.1) <| gd (shp (dL dS) ([] : List Str)) <| some ((decide (t46.1 = ([] : List Str))))) else some (false)).bind fun t96 => (if t96 = true then some (true) else ((m_law_fits ((cut a__law_cells_here none (some x17))) (a__law_text_here)).bind fun t142 => some (t142))).bind fun t130 => if t130 = true then (gd (fits s19) <| some ((s19 ++ [x17]))) else (gd (shp (dL dS) (cut a__law_cells_here (some x17) (some (x17 + 1)))) <| gd (shp (dL dS) [("<any>" : Str)]) <| (if (decide ((cut a__law_cells_here (some x17) (some (x17 + 1))) = [("<any>" : Str)])) = true then ((m_law_fits ((cut a__law_cells_here none (some (x17 + 1)))) (a__law_text_here)).bind fun t203 => some (t203)) else some (false)).bind fun t191 => if t191 = true then (gd (fits s19) <| some ((s19 ++ [x17]))) else (some (s19))))
def m_law_due (a__law_cells_here : (List Str)) (a__law_text_here : Str) : Option (List Int) :=
  (gd (rgOk 0 (((a__law_cells_here).length : Int) + 1)) <| (loopS (m_law_due_b2 a__law_cells_here a__law_text_here) (rng 0 (((a__law_cells_here).length : Int) + 1)) (([] : List Int))).bind fun t11 => some t11)
def m_law_is_b1  (x13 : Int) (s15 : Unit) : Option (Option Int × Unit) :=
  (if false = true then (some (some x13, ())) else some (none, ()))
def m_law_is (a__law_found : (List Int)) (a__law_due_here : (List Int)) : Option Bool :=
  (gd (shp (dT dI) a__law_found) <| gd (shp (dT dI) a__law_due_here) <| if (!decide (a__law_found = a__law_due_here)) = true then (some false) else (gd (fitsE a__law_found) <| (comp m_law_is_b1 a__law_found ()).bind fun t9 => gd (shp (dL dI) t9.1) <| gd (shp (dL dI) ([] : List Int)) <| some (decide (t9.1 = ([] : List Int)))))
def m_law_b1 (t70 : ((Int × Int) × Str)) (t124 : (List Str)) (x176 : Int) (s178 : (List Int)) : Option (Ctl (List Int) Bool) :=
  (((if decide (0 < x176) = true then ((ixS t70.2 (x176 - 1)).bind fun t196 => (m_moved (t124) (s178) (t196)).bind fun t198 => some (t198)) else (some (s178)))).bind fun (t192 : (List Int)) => gd (fitsS t70.2) <| (m_law_due (t124) ((cutS t70.2 none (some x176)))).bind fun t215 => (m_law_is (t192) (t215)).bind fun t223 => (if (!t223) = true then some (true) else ((m_is_done (t124) (t192)).bind fun t245 => some ((!decide (t245 = (decide (((t124).length : Int) ∈ t215))))))).bind fun t239 => if t239 = true then (some (.rt false)) else (some (.nx (t192))))
def m_law_b2 (a__law_script : (List Int)) (x7 : Int) (s9 : Unit) : Option (Ctl Unit Bool) :=
  ((m_law_pool (a__law_script) (x7)).bind fun t28 => (m_law_rich (t28)).bind fun t39 => (m_law_line (t39.2) (t39.1)).bind fun t49 => (m_law_spoiled (t49.2) (t49.1)).bind fun t59 => gd (fitsS t59.1) <| (((m_law_take (t59.2) (4)).bind fun t74 => if (decide (t74.1 = 0)) = true then ((m_law_text (t74.2)).bind fun t85 => (m_law_text (t85.2)).bind fun t95 => gd (catOk t85.1 t95.1) <| some (t95.2, (t85.1 ++ t95.1))) else (some (t74.2, (cutS t59.1 none (some 8)))))).bind fun (t70 : ((Int × Int) × Str)) => (m_cells_of (t39.1)).bind fun t124 => (m_law_cells (t39.1)).bind fun t132 => gd (shp (dL dS) t124) <| gd (shp (dL dS) t132) <| (if (!decide (t124 = t132)) = true then some (true) else (gd (shp (dL dS) t39.1) <| gd (shp (dL dS) t39.1) <| some ((!decide (t39.1 = t39.1))))).bind fun t144 => if t144 = true then (some (.rt false)) else ((m_started (t124)).bind fun t161 => gd (fitsS t70.2) <| gd (rgOk 0 (((t70.2).length : Int) + 1)) <| (loopC (m_law_b1 t70 t124) (rng 0 (((t70.2).length : Int) + 1)) (t161)).bind fun t171 => aftC t171 fun s266 => (m_law_cells (t39.1)).bind fun t275 => gd (shp (dL dS) t124) <| gd (shp (dL dS) t275) <| (if (!decide (t124 = t275)) = true then some (true) else ((m_cells_of (t39.1)).bind fun t313 => gd (shp (dL dS) t313) <| gd (shp (dL dS) t124) <| some ((!decide (t313 = t124))))).bind fun t301 => if t301 = true then (some (.rt false)) else (some (.nx ()))))
def m_law (a__law_script : (List Int)) : Option Bool :=
  (gd (rgOk 0 (maxI 1 (minI 24 ((a__law_script).length : Int)))) <| (loopC (m_law_b2 a__law_script) (rng 0 (maxI 1 (minI 24 ((a__law_script).length : Int)))) ()).bind fun t2 => aft t2 fun s334 => some true)
def top (i : Nat) : Stmt := PySem.Challenge.pw_gluedlines_k03_cells_and_positions.main.body.getD i (.Pass ⟨0, 0, 0, 0⟩)
abbrev s_cells_of : Stmt := top 7
abbrev s_takes : Stmt := top 8
abbrev s_closed : Stmt := top 9
abbrev s_started : Stmt := top 10
abbrev s_moved : Stmt := top 11
abbrev s_is_done : Stmt := top 12
abbrev s_law_pool : Stmt := top 14
abbrev s_law_take : Stmt := top 15
abbrev s_law_all_signs : Stmt := top 16
abbrev s_law_text : Stmt := top 17
abbrev s_law_rich : Stmt := top 18
abbrev s_law_takes : Stmt := top 19
abbrev s_law_ends : Stmt := top 20
abbrev s_law_fits : Stmt := top 21
abbrev s_law_line : Stmt := top 22
abbrev s_law_spoiled : Stmt := top 23
abbrev s_law_cells : Stmt := top 24
abbrev s_law_due : Stmt := top 25
abbrev s_law_is : Stmt := top 26
abbrev s_law : Stmt := top 27
structure Tx (K : PySem.W.Frag) (mg : Str → Option Value) : Prop where
  F_cells_of : FnD' K ("cells_of", none) "cells_of" "cells_of" s_cells_of
  g_cells_of : mg "cells_of" = some (.ref (He.ga K "cells_of"))
  F_takes : FnD' K ("takes", none) "takes" "takes" s_takes
  g_takes : mg "takes" = some (.ref (He.ga K "takes"))
  F_closed : FnD' K ("closed", none) "closed" "closed" s_closed
  g_closed : mg "closed" = some (.ref (He.ga K "closed"))
  F_started : FnD' K ("started", none) "started" "started" s_started
  g_started : mg "started" = some (.ref (He.ga K "started"))
  F_moved : FnD' K ("moved", none) "moved" "moved" s_moved
  g_moved : mg "moved" = some (.ref (He.ga K "moved"))
  F_is_done : FnD' K ("is_done", none) "is_done" "is_done" s_is_done
  g_is_done : mg "is_done" = some (.ref (He.ga K "is_done"))
  F__law_pool : FnD' K ("_law_pool", none) "_law_pool" "_law_pool" s_law_pool
  g__law_pool : mg "_law_pool" = some (.ref (He.ga K "_law_pool"))
  F__law_take : FnD' K ("_law_take", none) "_law_take" "_law_take" s_law_take
  g__law_take : mg "_law_take" = some (.ref (He.ga K "_law_take"))
  F__law_all_signs : FnD' K ("_law_all_signs", none) "_law_all_signs" "_law_all_signs" s_law_all_signs
  g__law_all_signs : mg "_law_all_signs" = some (.ref (He.ga K "_law_all_signs"))
  F__law_text : FnD' K ("_law_text", none) "_law_text" "_law_text" s_law_text
  g__law_text : mg "_law_text" = some (.ref (He.ga K "_law_text"))
  F__law_rich : FnD' K ("_law_rich", none) "_law_rich" "_law_rich" s_law_rich
  g__law_rich : mg "_law_rich" = some (.ref (He.ga K "_law_rich"))
  F__law_takes : FnD' K ("_law_takes", none) "_law_takes" "_law_takes" s_law_takes
  g__law_takes : mg "_law_takes" = some (.ref (He.ga K "_law_takes"))
  F__law_ends : FnD' K ("_law_ends", none) "_law_ends" "_law_ends" s_law_ends
  g__law_ends : mg "_law_ends" = some (.ref (He.ga K "_law_ends"))
  F__law_fits : FnD' K ("_law_fits", none) "_law_fits" "_law_fits" s_law_fits
  g__law_fits : mg "_law_fits" = some (.ref (He.ga K "_law_fits"))
  F__law_line : FnD' K ("_law_line", none) "_law_line" "_law_line" s_law_line
  g__law_line : mg "_law_line" = some (.ref (He.ga K "_law_line"))
  F__law_spoiled : FnD' K ("_law_spoiled", none) "_law_spoiled" "_law_spoiled" s_law_spoiled
  g__law_spoiled : mg "_law_spoiled" = some (.ref (He.ga K "_law_spoiled"))
  F__law_cells : FnD' K ("_law_cells", none) "_law_cells" "_law_cells" s_law_cells
  g__law_cells : mg "_law_cells" = some (.ref (He.ga K "_law_cells"))
  F__law_due : FnD' K ("_law_due", none) "_law_due" "_law_due" s_law_due
  g__law_due : mg "_law_due" = some (.ref (He.ga K "_law_due"))
  F__law_is : FnD' K ("_law_is", none) "_law_is" "_law_is" s_law_is
  g__law_is : mg "_law_is" = some (.ref (He.ga K "_law_is"))
  F_law : FnD' K ("law", none) "law" "law" s_law
  g_law : mg "law" = some (.ref (He.ga K "law"))
  k_ANY_CELL : ∃ t, mg "ANY_CELL" = some (.str "<any>" t)
  k_DIGITS_CELL : ∃ t, mg "DIGITS_CELL" = some (.str "<digits>" t)
  k_DIGIT_SIGNS : ∃ t, mg "DIGIT_SIGNS" = some (.str "0123456789" t)
  g_FREE_CELLS : mg "FREE_CELLS" = some (.ref (He.ga K "FREE_CELLS"))
  q_FREE_CELLS : ∀ F : Hp, (qT qS).r K F (.ref (He.ga K "FREE_CELLS")) (["<digits>", "<word>", "<any>"] : List Str)
  k_LETTER_SIGNS : ∃ t, mg "LETTER_SIGNS" = some (.str "ABCDEFGHIJKLMNOPQRSTUVWXYZabcdefghijklmnopqrstuvwxyz" t)
  k_WORD_CELL : ∃ t, mg "WORD_CELL" = some (.str "<word>" t)
  n_bool : mg "bool" = none
  n_int : mg "int" = none
  n_isinstance : mg "isinstance" = none
  n_len : mg "len" = none
  n_list : mg "list" = none
  n_max : mg "max" = none
  n_min : mg "min" = none
  n_range : mg "range" = none
  n_tuple : mg "tuple" = none
section
variable {P : Program} {w : World} {K : PySem.W.Frag} {mg : Str → Option Value} {base : Heap}
def sp_cells_of (K : PySem.W.Frag) : Sp := fun vs H Q _ => ∃ (F : Hp) (v_parts : V) (a_parts : (List Str)) (r : (List Str)), vs = [v_parts] ∧ Same F H ∧ (qQ qS).r K F v_parts a_parts ∧ m_cells_of a_parts = some r ∧ ∀ v F' H', Sx P0 F H F' H' → (qL qS).r K F' v r → Q v H'
theorem sc_cells_of : FnScope ["parts", "cells", "part"] ["parts"] (defScope s_cells_of) := ⟨rfl, rfl, rfl, by decide +kernel, rfl, by decide +kernel, by decide +kernel⟩
theorem bn_cells_of (T : Tx K mg) : Binds K (fdOf K ("cells_of", none)) ["parts"] [] := FunD.bindsN T.F_cells_of fun _ _ _ _ _ _ us hl => match us, hl with | [_], _ => rfl
theorem ok_cells_of (T : Tx K mg) : FnOk P w K mg base CX0 1 (He.ga K "cells_of") (fdOf K ("cells_of", none)) ["parts"] (sp_cells_of K) := by
  refine FunD.ok T.F_cells_of sc_cells_of (fun vs H0 Q E h => ?_) (fun cdv A outer s H0 vs Q E hr h => ?_)
  · obtain ⟨_, _, _, _, rfl, _⟩ := h
    rfl
  · obtain ⟨F0, v_parts, a_parts, r, rfl, hE, f_parts, hm, hQ⟩ := h
    refine ⟨_, PSs.nox ((pss_cons (ps_set (i := 1) sc_cells_of.nd rfl (by first | exact Or.inl rfl | exact Or.inr rfl) (pe_lst pa_nil)) (pss_cons (ps_for PassesOwn.never rfl (pi_seq (pv 0)) (pg_name (i := 2) sc_cells_of.nd rfl (by first | exact Or.inl rfl | exact Or.inr rfl)) (pss_one (ps_if (pt_cmpR (r := rIn K false) op_in_seq (pv 2) (pe_glob (v := V.ref (He.ga K "FREE_CELLS")) (by rfl) T.g_FREE_CELLS rfl) rfl) (pss_one (ps_expr (pe_bm PySem.F.plainAttrs_list PySem.F.slot_list_append PySem.F.type_list_append mt_append (pv 1) (pa_cons (pv 2) pa_nil)))) (pss_one (ps_expr (pe_bm PySem.F.plainAttrs_list PySem.F.slot_list_extend PySem.F.type_list_extend mt_extend (pv 1) (pa_cons (pe_callTy (cr_listS rfl) (by rfl) T.n_list (by decide +kernel) (pa_cons (pv 2) pa_nil)) pa_nil))))))) (pss_one (ps_ret (pv 1)))))), ?_⟩
    have S : Sx P0 F0 H0 F0 H0 := Sx.refl0 hE
    unfold m_cells_of at hm
    refine rd_seq ?_
    refine rd_asg ?_
    refine rd_lst ?_
    refine rd_nil ?_
    refine rd_lK rfl ?_
    refine al S (fun p1 H2 np3 c4 w5 => ?_)
    have z7 := S.free0 np3
    have S8 := S.call0 c4
    have f_parts := (qQ qS).mono c4.le f_parts
    refine rd_gn ?_
    refine rd_seq ?_
    refine rd_for ?_
    refine rd_wSeq S8 f_parts (by intro _ k; exact rd_v rfl k) (fun J9 n10 G11 it12 fd13 ty14 hg15 => ?_)
    have r16 : Row qS K F0 [] ([] : List Str) := .nil
    obtain ⟨t17, e18, hm⟩ := bd_some hm
    refine rd_forS fd13 ty14 e18 (fun (s19 : (List Str)) σ H => ∃ (F : Hp) (o2 : Option V) (vs0 : List V), σ = [some v_parts, some (V.ref p1), o2] ∧ Sx (fun a => a = p1) F0 H2 F H ∧ Ow (fun a => a = p1) H2 F H p1 (.lst vs0) ∧ Row qS K F vs0 s19) ?_ ?_ ?_ ?_
    · rintro _ _ _ ⟨_, _, _, _, S20, _, _⟩
      exact (hg15 _ _ S20.le S20.sub)
    · skip
      have S21 : Sx (fun a => a = p1) _ _ _ _ := Sx.refl S8.sub (fun a z => by rw [z, w5.at_]; exact (fun h => nomatch h))
      have w22 : Ow (fun a => a = p1) H2 _ _ _ _ := ⟨w5.fr, w5.at_, .inr (rfl)⟩
      exact ⟨F0, _, _, rfl, S21, w22, r16⟩
    · skip
      rintro x23 v24 s25 c29 σ26 H27 f28 ⟨F30, o32, v33, rfl, S31, w34, r35⟩ hm38
      have f_parts := (qQ qS).mono S31.le f_parts
      unfold m_cells_of_b1 at hm38
      cases (show v24 = (V.str (x23)) from f28)
      have f39 : (qT qS).r K F30 (.ref (He.ga K "FREE_CELLS")) (["<digits>", "<word>", "<any>"] : List Str) := T.q_FREE_CELLS _
      refine rd_gn ?_
      refine rd_ifS ?_
      refine rd_test ?_
      refine rd_op ?_
      refine rd_v rfl ?_
      refine rd_c ?_
      refine rd_inS (S31.t f39).q ?_
      refine rd_b ?_
      refine if_b hm38 (fun b40 hm38 => ?_) (fun b40 hm38 => ?_)
      · skip
        obtain ⟨g41, hm38⟩ := gd_some hm38
        refine rd_drop ?_
        refine rd_bm ?_
        refine rd_v rfl ?_
        refine rd_ty w34.ty ?_
        refine rd_cons ?_
        refine rd_v rfl ?_
        refine rd_nil ?_
        refine ap S31 w34 r35 g41 (fun H42 c43 w44 => ?_)
        have r45 := r35.snoc (show qS.r K F30 _ x23 from rfl)
        have S46 := S31.call1 c43 w34
        have f_parts := (qQ qS).mono c43.le f_parts
        have r45 := Row.mono c43.le r45
        cases hm38
        exact ⟨F30, _, _, rfl, S46, w44, r45⟩
      · skip
        obtain ⟨g47, hm38⟩ := gd_some hm38
        refine rd_drop ?_
        refine rd_bm ?_
        refine rd_v rfl ?_
        refine rd_ty w34.ty ?_
        refine rd_cons ?_
        refine rd_cb ?_
        refine rd_cons ?_
        refine rd_v rfl ?_
        refine rd_nil ?_
        refine rd_listS (K := K) (F := F30) g47 ?_
        refine alL' S31 (fun v48 F49 H50 c51 f52 => ?_)
        have S53 := S31.call0 c51
        have f_parts := (qQ qS).mono c51.le f_parts
        have r35 := Row.mono c51.le r35
        have w34 := w34.call0 c51
        obtain ⟨g54, hm38⟩ := gd_some hm38
        refine rd_nil ?_
        refine ex' S53 w34 r35 (S53.l f52) g54 (fun us55 H56 c57 w58 r59 => ?_)
        have S60 := S53.call1 c57 w34
        have f_parts := (qQ qS).mono c57.le f_parts
        have r59 := Row.mono c57.le r59
        cases hm38
        exact ⟨F49, _, _, rfl, S60, w58, r59⟩
    · skip
      rintro σ61 H62 ⟨F63, o65, v66, rfl, S64, w67, r68⟩
      have S69 := S8.call1 S64 w5
      have f_parts := (qQ qS).mono S64.le f_parts
      have w70 : Ow P0 H0 _ _ _ _ := ⟨w67.fr, w67.at_, w5.mine⟩
      obtain ⟨F71, S72, le73, f74, _, eq75⟩ := fz S69 w70 z7 r68
      have f_parts := (qQ qS).mono le73 f_parts
      cases hm
      refine rd_ret ?_
      refine rd_v rfl ?_
      exact hQ _ _ _ S72 f74
def sp_takes (K : PySem.W.Frag) : Sp := fun vs H Q _ => ∃ (F : Hp) (a_cell : Str) (a_sign : Str) (r : Bool), vs = [(V.str (a_cell)), (V.str (a_sign))] ∧ Same F H ∧ m_takes a_cell a_sign = some r ∧ ∀ v F' H', Sx P0 F H F' H' → qB.r K F' v r → Q v H'
theorem sc_takes : FnScope ["cell", "sign"] ["cell", "sign"] (defScope s_takes) := ⟨rfl, rfl, rfl, by decide +kernel, rfl, by decide +kernel, by decide +kernel⟩
theorem bn_takes (T : Tx K mg) : Binds K (fdOf K ("takes", none)) ["cell", "sign"] [] := FunD.bindsN T.F_takes fun _ _ _ _ _ _ us hl => match us, hl with | [_, _], _ => rfl
theorem ok_takes (T : Tx K mg) : FnOk P w K mg base CX0 1 (He.ga K "takes") (fdOf K ("takes", none)) ["cell", "sign"] (sp_takes K) := by
  refine FunD.ok T.F_takes sc_takes (fun vs H0 Q E h => ?_) (fun cdv A outer s H0 vs Q E hr h => ?_)
  · obtain ⟨_, _, _, _, rfl, _⟩ := h
    rfl
  · obtain ⟨F0, a_cell, a_sign, r, rfl, hE, hm, hQ⟩ := h
    refine ⟨_, PSs.nox ((pss_cons (ps_if (pt_cmpR op_eqS (pv 0) (pe_glob (v := V.str "<any>") (by rfl) (T.k_ANY_CELL.choose_spec) ⟨_, rfl⟩) (nomark _)) (pss_one (ps_ret pe_bl)) pss_nil) (pss_cons (ps_if (pt_cmpR op_eqS (pv 0) (pe_glob (v := V.str "<digits>") (by rfl) (T.k_DIGITS_CELL.choose_spec) ⟨_, rfl⟩) (nomark _)) (pss_one (ps_ret (pe_cmpR op_inS (pv 1) (pe_glob (v := V.str "0123456789") (by rfl) (T.k_DIGIT_SIGNS.choose_spec) ⟨_, rfl⟩) rfl))) pss_nil) (pss_cons (ps_if (pt_cmpR op_eqS (pv 0) (pe_glob (v := V.str "<word>") (by rfl) (T.k_WORD_CELL.choose_spec) ⟨_, rfl⟩) (nomark _)) (pss_one (ps_ret (pe_cmpR op_inS (pv 1) (pe_glob (v := V.str "ABCDEFGHIJKLMNOPQRSTUVWXYZabcdefghijklmnopqrstuvwxyz") (by rfl) (T.k_LETTER_SIGNS.choose_spec) ⟨_, rfl⟩) rfl))) pss_nil) (pss_one (ps_ret (pe_cmpR op_eqS (pv 0) (pv 1) (nomark _)))))))), ?_⟩
    have S : Sx P0 F0 H0 F0 H0 := Sx.refl0 hE
    unfold m_takes at hm
    refine rd_seq ?_
    refine rd_ifS ?_
    refine rd_test ?_
    refine rd_op ?_
    refine rd_v rfl ?_
    refine rd_c ?_
    refine rd_S0 ?_
    refine rd_b ?_
    refine if_b hm (fun b1 hm => ?_) (fun b1 hm => ?_)
    · skip
      cases hm
      refine rd_ret ?_
      refine rd_c ?_
      exact hQ _ _ _ S rfl
    · skip
      refine rd_next ?_
      refine rd_seq ?_
      refine rd_ifS ?_
      refine rd_test ?_
      refine rd_op ?_
      refine rd_v rfl ?_
      refine rd_c ?_
      refine rd_S0 ?_
      refine rd_b ?_
      refine if_b hm (fun b2 hm => ?_) (fun b2 hm => ?_)
      · skip
        cases hm
        refine rd_ret ?_
        refine rd_op ?_
        refine rd_v rfl ?_
        refine rd_c ?_
        refine rd_inSS ?_
        exact hQ _ _ _ S rfl
      · skip
        refine rd_next ?_
        refine rd_seq ?_
        refine rd_ifS ?_
        refine rd_test ?_
        refine rd_op ?_
        refine rd_v rfl ?_
        refine rd_c ?_
        refine rd_S0 ?_
        refine rd_b ?_
        refine if_b hm (fun b3 hm => ?_) (fun b3 hm => ?_)
        · skip
          cases hm
          refine rd_ret ?_
          refine rd_op ?_
          refine rd_v rfl ?_
          refine rd_c ?_
          refine rd_inSS ?_
          exact hQ _ _ _ S rfl
        · skip
          cases hm
          refine rd_next ?_
          refine rd_ret ?_
          refine rd_op ?_
          refine rd_v rfl ?_
          refine rd_v rfl ?_
          refine rd_S0 ?_
          exact hQ _ _ _ S rfl
def sp_closed (K : PySem.W.Frag) : Sp := fun vs H Q _ => ∃ (F : Hp) (v_cells : V) (a_cells : (List Str)) (v_positions : V) (a_positions : (List Int)) (r : (List Int)), vs = [v_cells, v_positions] ∧ Same F H ∧ (qL qS).r K F v_cells a_cells ∧ (qQ qI).r K F v_positions a_positions ∧ m_closed a_cells a_positions = some r ∧ ∀ v F' H', Sx P0 F H F' H' → (qT qI).r K F' v r → Q v H'
theorem sc_closed : FnScope ["cells", "positions", "found", "at"] ["cells", "positions"] (defScope s_closed) := ⟨rfl, rfl, rfl, by decide +kernel, rfl, by decide +kernel, by decide +kernel⟩
theorem bn_closed (T : Tx K mg) : Binds K (fdOf K ("closed", none)) ["cells", "positions"] [] := FunD.bindsN T.F_closed fun _ _ _ _ _ _ us hl => match us, hl with | [_, _], _ => rfl
theorem ok_closed (T : Tx K mg) : FnOk P w K mg base CX0 1 (He.ga K "closed") (fdOf K ("closed", none)) ["cells", "positions"] (sp_closed K) := by
  refine FunD.ok T.F_closed sc_closed (fun vs H0 Q E h => ?_) (fun cdv A outer s H0 vs Q E hr h => ?_)
  · obtain ⟨_, _, _, _, _, _, rfl, _⟩ := h
    rfl
  · obtain ⟨F0, v_cells, a_cells, v_positions, a_positions, r, rfl, hE, f_cells, f_positions, hm, hQ⟩ := h
    refine ⟨_, PSs.nox ((pss_cons (ps_set (i := 2) sc_closed.nd rfl (by first | exact Or.inl rfl | exact Or.inr rfl) (pe_lst pa_nil)) (pss_cons (ps_for PassesOwn.never rfl (pi_range1 (by rfl) T.n_range (pa_cons (pe_op op_add (pe_callB (r := rLenQ K) cr_lenQ (by rfl) T.n_len (by decide +kernel) (pa_cons (pv 0) pa_nil)) pe_int) pa_nil)) (pg_name (i := 3) sc_closed.nd rfl (by first | exact Or.inl rfl | exact Or.inr rfl)) (pss_one (ps_if (PW.pt (pw_or (pt_cmpR (r := rIn K false) op_in_seq (pv 3) (pv 1) rfl) (pw_or1 (PW.pt (pw_and (pt_cmpR op_gt (pv 3) pe_int (nomark _)) (pw_and (pt_cmpR op_eqS (pe_ix (r := rIxL K) ix_list (pv 0) (pe_op op_sub (pv 3) pe_int) (fun _ _ => rfl)) (pe_glob (v := V.str "<any>") (by rfl) (T.k_ANY_CELL.choose_spec) ⟨_, rfl⟩) (nomark _)) (pw_and1 (pt_cmpR (r := rIn K false) op_in_seq (pe_op op_sub (pv 3) pe_int) (pv 2) rfl)))))))) (pss_one (ps_expr (pe_bm PySem.F.plainAttrs_list PySem.F.slot_list_append PySem.F.type_list_append mt_append (pv 2) (pa_cons (pv 3) pa_nil)))) pss_nil))) (pss_one (ps_ret (pe_tupleOf (by rfl) T.n_tuple (pv 2))))))), ?_⟩
    have S : Sx P0 F0 H0 F0 H0 := Sx.refl0 hE
    unfold m_closed at hm
    refine rd_seq ?_
    refine rd_asg ?_
    refine rd_lst ?_
    refine rd_nil ?_
    refine rd_lK rfl ?_
    refine al S (fun p1 H2 np3 c4 w5 => ?_)
    have z7 := S.free0 np3
    have S8 := S.call0 c4
    have f_cells := (qL qS).mono c4.le f_cells
    have f_positions := (qQ qI).mono c4.le f_positions
    obtain ⟨g9, hm⟩ := gd_some hm
    refine rd_gn ?_
    refine rd_seq ?_
    refine rd_for ?_
    refine rd_iR1 ?_
    refine rd_cons ?_
    refine rd_op ?_
    refine rd_cb ?_
    refine rd_cons ?_
    refine rd_v rfl ?_
    refine rd_nil ?_
    refine rd_lenQ (S8.l f_cells).r.q ?_
    refine rd_c ?_
    refine rd_I0 ?_
    refine rd_nil ?_
    refine rd_r1 g9 ?_
    have r10 : Row qI K F0 [] ([] : List Int) := .nil
    obtain ⟨t11, e12, hm⟩ := bd_some hm
    refine rd_forS feedsRg (typedR (K := K) (F := F0)) e12 (fun (s13 : (List Int)) σ H => ∃ (F : Hp) (o3 : Option V) (vs0 : List V), σ = [some v_cells, some v_positions, some (V.ref p1), o3] ∧ Sx (fun a => a = p1) F0 H2 F H ∧ Ow (fun a => a = p1) H2 F H p1 (.lst vs0) ∧ Row qI K F vs0 s13) ?_ ?_ ?_ ?_
    · intro _ _ _ _; trivial
    · skip
      have S15 : Sx (fun a => a = p1) _ _ _ _ := Sx.refl S8.sub (fun a z => by rw [z, w5.at_]; exact (fun h => nomatch h))
      have w16 : Ow (fun a => a = p1) H2 _ _ _ _ := ⟨w5.fr, w5.at_, .inr (rfl)⟩
      exact ⟨F0, _, _, rfl, S15, w16, r10⟩
    · skip
      rintro x17 v18 s19 c23 σ20 H21 f22 ⟨F24, o26, v27, rfl, S25, w28, r29⟩ hm32
      have f_cells := (qL qS).mono S25.le f_cells
      have f_positions := (qQ qI).mono S25.le f_positions
      unfold m_closed_b1 at hm32
      cases (show v18 = (V.int (x17)) from f22)
      obtain ⟨t53, e54, hm32⟩ := bd_some hm32
      refine rd_gn ?_
      refine rd_ifS ?_
      refine rd_or ?_
      refine rd_test ?_
      refine rd_op ?_
      refine rd_v rfl ?_
      refine rd_v rfl ?_
      refine rd_inI (S25.q f_positions) ?_
      refine rd_b ?_
      refine or_j (fun c H' => c = t53 ∧ ∃ F', Sx P0 F24 H21 F' H') ?_ ?_ ?_
      · intro b55 Q56 q57
        have e54 := if_f e54 b55
        have S58 := Sx.refl0 S25.sub
        obtain ⟨t63, e64, e54⟩ := bd_some e54
        refine rd_and ?_
        refine rd_test ?_
        refine rd_op ?_
        refine rd_v rfl ?_
        refine rd_c ?_
        refine rd_I0 ?_
        refine rd_b ?_
        refine and_j (fun c H' => c = t63 ∧ ∃ F', Sx P0 F24 H21 F' H') ?_ ?_ ?_
        · intro b65 Q66 q67
          have e64 := if_t e64 b65
          have S68 := Sx.refl0 S58.sub
          obtain ⟨t69, e70, e64⟩ := bd_some e64
          refine rd_and ?_
          refine rd_test ?_
          refine rd_op ?_
          refine rd_op ?_
          refine rd_v rfl ?_
          refine rd_op ?_
          refine rd_v rfl ?_
          refine rd_c ?_
          refine rd_I0 ?_
          refine rd_ixL (S68.l f_cells).r e70 (fun u71 f72 => ?_)
          cases (show u71 = (V.str (t69)) from f72)
          cases e64
          refine rd_c ?_
          refine rd_S0 ?_
          refine rd_b ?_
          refine and_p (by intro _ Q' q; refine rd_test ?_; refine rd_op ?_; refine rd_op ?_; refine rd_v rfl ?_; refine rd_c ?_; refine rd_I0 ?_; refine rd_v rfl ?_; refine rd_inI (w28.l r29).r.q ?_; refine rd_b ?_; exact q) ?_
          exact q67 _ _ ⟨rfl, F24, S68⟩
        · intro b65
          have e64 := if_f e64 b65
          cases e64
          have S73 := Sx.refl0 S58.sub
          exact ⟨rfl, F24, S73⟩
        rintro b77 H75 ⟨rfl, F74, c76⟩
        have S78 := S58.call0 c76
        have f_cells := (qL qS).mono c76.le f_cells
        have f_positions := (qQ qI).mono c76.le f_positions
        have r29 := Row.mono c76.le r29
        have w28 := w28.call0 c76
        cases e54
        exact q57 _ _ ⟨rfl, F74, S78⟩
      · intro b55
        have e54 := if_t e54 b55
        cases e54
        have S79 := Sx.refl0 S25.sub
        exact ⟨rfl, F24, S79⟩
      rintro b83 H81 ⟨rfl, F80, c82⟩
      have S84 := S25.call0 c82
      have f_cells := (qL qS).mono c82.le f_cells
      have f_positions := (qQ qI).mono c82.le f_positions
      have r29 := Row.mono c82.le r29
      have w28 := w28.call0 c82
      refine if_b hm32 (fun b85 hm32 => ?_) (fun b85 hm32 => ?_)
      · skip
        obtain ⟨g86, hm32⟩ := gd_some hm32
        refine rd_drop ?_
        refine rd_bm ?_
        refine rd_v rfl ?_
        refine rd_ty w28.ty ?_
        refine rd_cons ?_
        refine rd_v rfl ?_
        refine rd_nil ?_
        refine ap S84 w28 r29 g86 (fun H87 c88 w89 => ?_)
        have r90 := r29.snoc (show qI.r K F80 _ x17 from rfl)
        have S91 := S84.call1 c88 w28
        have f_cells := (qL qS).mono c88.le f_cells
        have f_positions := (qQ qI).mono c88.le f_positions
        have r90 := Row.mono c88.le r90
        cases hm32
        exact ⟨F80, _, _, rfl, S91, w89, r90⟩
      · skip
        cases hm32
        refine rd_next ?_
        exact ⟨F80, _, _, rfl, S84, w28, r29⟩
    · skip
      rintro σ92 H93 ⟨F94, o96, v97, rfl, S95, w98, r99⟩
      have S100 := S8.call1 S95 w5
      have f_cells := (qL qS).mono S95.le f_cells
      have f_positions := (qQ qI).mono S95.le f_positions
      have w101 : Ow P0 H0 _ _ _ _ := ⟨w98.fr, w98.at_, w5.mine⟩
      refine rd_ret ?_
      refine rd_thn ?_
      refine rd_v rfl ?_
      refine rd_tuple (w101.l r99).r ?_
      refine alT' S100 (fun v102 F103 H104 c105 f106 => ?_)
      have S107 := S100.call0 c105
      have f_cells := (qL qS).mono c105.le f_cells
      have f_positions := (qQ qI).mono c105.le f_positions
      have r99 := Row.mono c105.le r99
      have w101 := w101.call0 c105
      cases hm
      exact hQ _ _ _ S107 f106
def sp_started (K : PySem.W.Frag) : Sp := fun vs H Q _ => ∃ (F : Hp) (v_cells : V) (a_cells : (List Str)) (r : (List Int)), vs = [v_cells] ∧ Same F H ∧ (qL qS).r K F v_cells a_cells ∧ m_started a_cells = some r ∧ ∀ v F' H', Sx P0 F H F' H' → (qT qI).r K F' v r → Q v H'
theorem sc_started : FnScope ["cells"] ["cells"] (defScope s_started) := ⟨rfl, rfl, rfl, by decide +kernel, rfl, by decide +kernel, by decide +kernel⟩
theorem bn_started (T : Tx K mg) : Binds K (fdOf K ("started", none)) ["cells"] [] := FunD.bindsN T.F_started fun _ _ _ _ _ _ us hl => match us, hl with | [_], _ => rfl
theorem ok_started (T : Tx K mg) : FnOk P w K mg base CX0 2 (He.ga K "started") (fdOf K ("started", none)) ["cells"] (sp_started K) := by
  refine FunD.ok T.F_started sc_started (fun vs H0 Q E h => ?_) (fun cdv A outer s H0 vs Q E hr h => ?_)
  · obtain ⟨_, _, _, _, rfl, _⟩ := h
    rfl
  · obtain ⟨F0, v_cells, a_cells, r, rfl, hE, f_cells, hm, hQ⟩ := h
    refine ⟨_, PSs.nox ((pss_one (ps_ret (pe_call (ok_closed T) (hr.mono (by decide)) (by rfl) T.g_closed T.F_closed.kp (bn_closed T) .nil pass0 (pa_cons (pv 0) (pa_cons (pe_lst (pa_cons pe_int pa_nil)) pa_nil)))))), ?_⟩
    have S : Sx P0 F0 H0 F0 H0 := Sx.refl0 hE
    unfold m_started at hm
    refine rd_ret ?_
    refine rd_call ?_
    refine rd_cons ?_
    refine rd_v rfl ?_
    refine rd_cons ?_
    refine rd_lst ?_
    refine rd_cons ?_
    refine rd_c ?_
    refine rd_nil ?_
    refine rd_lK rfl ?_
    refine alL (K := K) (A := qI) (xs := [0]) S (.cons rfl .nil) (fun v1 F2 H3 c4 f5 => ?_)
    have S6 := S.call0 c4
    have f_cells := (qL qS).mono c4.le f_cells
    obtain ⟨t7, e8, hm⟩ := bd_some hm
    refine rd_nil ?_
    refine ⟨F2, _, _, _, _, t7, rfl, S6.sub, f_cells, (.inl f5), e8, fun v12 F9 H10 c11 f13 => ?_⟩
    have S14 := S6.call0 c11
    have f_cells := (qL qS).mono c11.le f_cells
    cases hm
    exact hQ _ _ _ S14 f13
def sp_moved (K : PySem.W.Frag) : Sp := fun vs H Q _ => ∃ (F : Hp) (v_cells : V) (a_cells : (List Str)) (v_positions : V) (a_positions : (List Int)) (a_sign : Str) (r : (List Int)), vs = [v_cells, v_positions, (V.str (a_sign))] ∧ Same F H ∧ (qL qS).r K F v_cells a_cells ∧ (qQ qI).r K F v_positions a_positions ∧ m_moved a_cells a_positions a_sign = some r ∧ ∀ v F' H', Sx P0 F H F' H' → (qT qI).r K F' v r → Q v H'
theorem sc_moved : FnScope ["cells", "positions", "sign", "found", "at"] ["cells", "positions", "sign"] (defScope s_moved) := ⟨rfl, rfl, rfl, by decide +kernel, rfl, by decide +kernel, by decide +kernel⟩
theorem bn_moved (T : Tx K mg) : Binds K (fdOf K ("moved", none)) ["cells", "positions", "sign"] [] := FunD.bindsN T.F_moved fun _ _ _ _ _ _ us hl => match us, hl with | [_, _, _], _ => rfl
theorem ok_moved (T : Tx K mg) : FnOk P w K mg base CX0 2 (He.ga K "moved") (fdOf K ("moved", none)) ["cells", "positions", "sign"] (sp_moved K) := by
  refine FunD.ok T.F_moved sc_moved (fun vs H0 Q E h => ?_) (fun cdv A outer s H0 vs Q E hr h => ?_)
  · obtain ⟨_, _, _, _, _, _, _, rfl, _⟩ := h
    rfl
  · obtain ⟨F0, v_cells, a_cells, v_positions, a_positions, a_sign, r, rfl, hE, f_cells, f_positions, hm, hQ⟩ := h
    refine ⟨_, PSs.nox ((pss_cons (ps_set (i := 3) sc_moved.nd rfl (by first | exact Or.inl rfl | exact Or.inr rfl) (pe_lst pa_nil)) (pss_cons (ps_for PassesOwn.never rfl (pi_seq (pv 1)) (pg_name (i := 4) sc_moved.nd rfl (by first | exact Or.inl rfl | exact Or.inr rfl)) (C8.pss_cut (ps_if (PW.pt (pw_and (pt_cmpR op_lt (pv 4) (pe_callB (r := rLenQ K) cr_lenQ (by rfl) T.n_len (by decide +kernel) (pa_cons (pv 0) pa_nil)) (nomark _)) (pw_and1 (pt_val (pe_call (ok_takes T) (hr.mono (by decide)) (by rfl) T.g_takes T.F_takes.kp (bn_takes T) .nil pass0 (pa_cons (pe_ix (r := rIxL K) ix_list (pv 0) (pv 4) (fun _ _ => rfl)) (pa_cons (pv 2) pa_nil))))))) (pss_one (ps_expr (pe_bm PySem.F.plainAttrs_list PySem.F.slot_list_append PySem.F.type_list_append mt_append (pv 3) (pa_cons (pe_ifExp (pt_cmpR op_eqS (pe_ix (r := rIxL K) ix_list (pv 0) (pv 4) (fun _ _ => rfl)) (pe_glob (v := V.str "<any>") (by rfl) (T.k_ANY_CELL.choose_spec) ⟨_, rfl⟩) (nomark _)) (pv 4) (pe_op op_add (pv 4) pe_int)) pa_nil)))) pss_nil) (pss_one (ps_if (PW.pt (pw_and (pt_cmpR op_gt (pv 4) pe_int (nomark _)) (pw_and (pt_cmpR (r := rIn K false) op_in_seq (pe_ix (r := rIxL K) ix_list (pv 0) (pe_op op_sub (pv 4) pe_int) (fun _ _ => rfl)) (pe_tup (pa_cons (pe_glob (v := V.str "<digits>") (by rfl) (T.k_DIGITS_CELL.choose_spec) ⟨_, rfl⟩) (pa_cons (pe_glob (v := V.str "<word>") (by rfl) (T.k_WORD_CELL.choose_spec) ⟨_, rfl⟩) pa_nil))) rfl) (pw_and1 (pt_val (pe_call (ok_takes T) (hr.mono (by decide)) (by rfl) T.g_takes T.F_takes.kp (bn_takes T) .nil pass0 (pa_cons (pe_ix (r := rIxL K) ix_list (pv 0) (pe_op op_sub (pv 4) pe_int) (fun _ _ => rfl)) (pa_cons (pv 2) pa_nil)))))))) (pss_one (ps_expr (pe_bm PySem.F.plainAttrs_list PySem.F.slot_list_append PySem.F.type_list_append mt_append (pv 3) (pa_cons (pv 4) pa_nil)))) pss_nil)))) (pss_one (ps_ret (pe_call (ok_closed T) (hr.mono (by decide)) (by rfl) T.g_closed T.F_closed.kp (bn_closed T) .nil pass0 (pa_cons (pv 0) (pa_cons (pv 3) pa_nil)))))))), ?_⟩
    have S : Sx P0 F0 H0 F0 H0 := Sx.refl0 hE
    unfold m_moved at hm
    refine rd_seq ?_
    refine rd_asg ?_
    refine rd_lst ?_
    refine rd_nil ?_
    refine rd_lK rfl ?_
    refine al S (fun p1 H2 np3 c4 w5 => ?_)
    have z7 := S.free0 np3
    have S8 := S.call0 c4
    have f_cells := (qL qS).mono c4.le f_cells
    have f_positions := (qQ qI).mono c4.le f_positions
    refine rd_gn ?_
    refine rd_seq ?_
    refine rd_for ?_
    refine rd_wSeq S8 f_positions (by intro _ k; exact rd_v rfl k) (fun J9 n10 G11 it12 fd13 ty14 hg15 => ?_)
    have r16 : Row qI K F0 [] ([] : List Int) := .nil
    obtain ⟨t17, e18, hm⟩ := bd_some hm
    refine rd_forS fd13 ty14 e18 (fun (s19 : (List Int)) σ H => ∃ (F : Hp) (o4 : Option V) (vs0 : List V), σ = [some v_cells, some v_positions, some (V.str (a_sign)), some (V.ref p1), o4] ∧ Sx (fun a => a = p1) F0 H2 F H ∧ Ow (fun a => a = p1) H2 F H p1 (.lst vs0) ∧ Row qI K F vs0 s19) ?_ ?_ ?_ ?_
    · rintro _ _ _ ⟨_, _, _, _, S20, _, _⟩
      exact (hg15 _ _ S20.le S20.sub)
    · skip
      have S21 : Sx (fun a => a = p1) _ _ _ _ := Sx.refl S8.sub (fun a z => by rw [z, w5.at_]; exact (fun h => nomatch h))
      have w22 : Ow (fun a => a = p1) H2 _ _ _ _ := ⟨w5.fr, w5.at_, .inr (rfl)⟩
      exact ⟨F0, _, _, rfl, S21, w22, r16⟩
    · skip
      rintro x23 v24 s25 c29 σ26 H27 f28 ⟨F30, o32, v33, rfl, S31, w34, r35⟩ hm38
      have f_cells := (qL qS).mono S31.le f_cells
      have f_positions := (qQ qI).mono S31.le f_positions
      unfold m_moved_b1 at hm38
      cases (show v24 = (V.int (x23)) from f28)
      obtain ⟨t39, e40, hm38⟩ := bd_some hm38
      refine rd_gn ?_
      refine rd_cut (fun σ' H' => ∃ (F : Hp) (vs0 : List V), σ' = [some v_cells, some v_positions, some (V.str (a_sign)), some (V.ref p1), some (V.int (x23))] ∧ Sx (fun a => a = p1) F30 H27 F H' ∧ Ow (fun a => a = p1) H27 F H' p1 (.lst vs0) ∧ Row qI K F vs0 t39) ?_ ?_
      · skip
        have S41 : Sx (fun a => a = p1) _ _ _ _ := Sx.refl S31.sub (fun a z => by rw [z, w34.at_]; exact (fun h => nomatch h))
        have w42 : Ow (fun a => a = p1) H27 _ _ _ _ := ⟨w34.fr, w34.at_, .inr (rfl)⟩
        obtain ⟨t55, e56, e40⟩ := bd_some e40
        refine rd_ifS ?_
        refine rd_and ?_
        refine rd_test ?_
        refine rd_op ?_
        refine rd_v rfl ?_
        refine rd_cb ?_
        refine rd_cons ?_
        refine rd_v rfl ?_
        refine rd_nil ?_
        refine rd_lenQ (S41.l f_cells).r.q ?_
        refine rd_I0 ?_
        refine rd_b ?_
        refine and_j (fun c H' => c = t55 ∧ ∃ F', Sx P0 F30 H27 F' H') ?_ ?_ ?_
        · intro b57 Q58 q59
          have e56 := if_t e56 b57
          have S60 := Sx.refl0 S41.sub
          obtain ⟨t61, e62, e56⟩ := bd_some e56
          refine rd_tB ?_
          refine rd_call ?_
          refine rd_cons ?_
          refine rd_op ?_
          refine rd_v rfl ?_
          refine rd_v rfl ?_
          refine rd_ixL (S60.l f_cells).r e62 (fun u63 f64 => ?_)
          cases (show u63 = (V.str (t61)) from f64)
          obtain ⟨t65, e66, e56⟩ := bd_some e56
          refine rd_cons ?_
          refine rd_v rfl ?_
          refine rd_nil ?_
          refine ⟨F30, _, _, t65, rfl, S60.sub, e66, fun v70 F67 H68 c69 f71 => ?_⟩
          have S72 := S60.call0 c69
          have f_cells := (qL qS).mono c69.le f_cells
          have f_positions := (qQ qI).mono c69.le f_positions
          have r35 := Row.mono c69.le r35
          have w42 := w42.call0 c69
          cases (show v70 = (V.bl (t65)) from f71)
          cases e56
          refine rd_b ?_
          exact q59 _ _ ⟨rfl, F67, S72⟩
        · intro b57
          have e56 := if_f e56 b57
          cases e56
          have S73 := Sx.refl0 S41.sub
          exact ⟨rfl, F30, S73⟩
        rintro b77 H75 ⟨rfl, F74, c76⟩
        have S78 := S41.call0 c76
        have f_cells := (qL qS).mono c76.le f_cells
        have f_positions := (qQ qI).mono c76.le f_positions
        have r35 := Row.mono c76.le r35
        have w42 := w42.call0 c76
        refine if_b e40 (fun b79 e40 => ?_) (fun b79 e40 => ?_)
        · skip
          obtain ⟨t80, e81, e40⟩ := bd_some e40
          refine rd_drop ?_
          refine rd_bm ?_
          refine rd_v rfl ?_
          refine rd_ty w42.ty ?_
          refine rd_cons ?_
          refine rd_ifE ?_
          refine rd_test ?_
          refine rd_op ?_
          refine rd_op ?_
          refine rd_v rfl ?_
          refine rd_v rfl ?_
          refine rd_ixL (S78.l f_cells).r e81 (fun u82 f83 => ?_)
          cases (show u82 = (V.str (t80)) from f83)
          obtain ⟨t84, e85, e40⟩ := bd_some e40
          refine rd_c ?_
          refine rd_S0 ?_
          refine rd_b ?_
          refine ifE_j (fun c H' => ∃ F', c = (V.int (t84)) ∧ Sx P0 F74 H75 F' H') ?_ ?_ ?_
          · intro b86 Q87 q88
            have hm89 := if_t e85 b86
            have S90 := Sx.refl0 S78.sub
            cases hm89
            refine rd_v rfl ?_
            exact q88 _ _ ⟨F74, rfl, S90⟩
          · intro b91 Q92 q93
            have hm94 := if_f e85 b91
            have S95 := Sx.refl0 S78.sub
            cases hm94
            refine rd_op ?_
            refine rd_v rfl ?_
            refine rd_c ?_
            refine rd_I0 ?_
            exact q93 _ _ ⟨F74, rfl, S95⟩
          rintro v99 H97 ⟨F96, f100, c98⟩
          have S101 := S78.call0 c98
          have f_cells := (qL qS).mono c98.le f_cells
          have f_positions := (qQ qI).mono c98.le f_positions
          have r35 := Row.mono c98.le r35
          have w42 := w42.call0 c98
          cases (show v99 = (V.int (t84)) from f100)
          obtain ⟨g102, e40⟩ := gd_some e40
          refine rd_nil ?_
          refine ap S101 w42 r35 g102 (fun H103 c104 w105 => ?_)
          have r106 := r35.snoc (show qI.r K F96 _ t84 from rfl)
          have S107 := S101.call1 c104 w42
          have f_cells := (qL qS).mono c104.le f_cells
          have f_positions := (qQ qI).mono c104.le f_positions
          have r106 := Row.mono c104.le r106
          cases e40
          exact ⟨F96, _, rfl, S107, w105, r106⟩
        · skip
          cases e40
          refine rd_next ?_
          exact ⟨F74, _, rfl, S78, w42, r35⟩
      · skip
        rintro σ109 H108 ⟨F110, v112, rfl, S111, w113, r114⟩
        have S115 := S31.call1 S111 w34
        have f_cells := (qL qS).mono S111.le f_cells
        have f_positions := (qQ qI).mono S111.le f_positions
        have w116 : Ow (fun a => a = p1) H2 _ _ _ _ := ⟨w113.fr, w113.at_, w34.mine⟩
        obtain ⟨t163, e164, hm38⟩ := bd_some hm38
        refine rd_ifS ?_
        refine rd_and ?_
        refine rd_test ?_
        refine rd_op ?_
        refine rd_v rfl ?_
        refine rd_c ?_
        refine rd_I0 ?_
        refine rd_b ?_
        refine and_j (fun c H' => c = t163 ∧ ∃ F', Sx P0 F110 H108 F' H') ?_ ?_ ?_
        · intro b165 Q166 q167
          have e164 := if_t e164 b165
          have S168 := Sx.refl0 S115.sub
          obtain ⟨t169, e170, e164⟩ := bd_some e164
          refine rd_and ?_
          refine rd_test ?_
          refine rd_op ?_
          refine rd_op ?_
          refine rd_v rfl ?_
          refine rd_op ?_
          refine rd_v rfl ?_
          refine rd_c ?_
          refine rd_I0 ?_
          refine rd_ixL (S168.l f_cells).r e170 (fun u171 f172 => ?_)
          cases (show u171 = (V.str (t169)) from f172)
          refine rd_tup ?_
          refine rd_cons ?_
          refine rd_c ?_
          refine rd_cons ?_
          refine rd_c ?_
          refine rd_nil ?_
          refine rd_uK rfl ?_
          refine alT (K := K) (A := qS) (xs := [("<digits>" : Str), ("<word>" : Str)]) S168 (.cons rfl (.cons rfl .nil)) (fun v173 F174 H175 c176 f177 => ?_)
          have S178 := S168.call0 c176
          have f_cells := (qL qS).mono c176.le f_cells
          have f_positions := (qQ qI).mono c176.le f_positions
          have r114 := Row.mono c176.le r114
          have w116 := w116.call0 c176
          obtain ⟨t191, e192, e164⟩ := bd_some e164
          refine rd_inS (S178.t f177).q ?_
          refine rd_b ?_
          refine and_j (fun c H' => c = t191 ∧ ∃ F', Sx P0 F174 H175 F' H') ?_ ?_ ?_
          · intro b193 Q194 q195
            have e192 := if_t e192 b193
            have S196 := Sx.refl0 S178.sub
            obtain ⟨t197, e198, e192⟩ := bd_some e192
            refine rd_tB ?_
            refine rd_call ?_
            refine rd_cons ?_
            refine rd_op ?_
            refine rd_v rfl ?_
            refine rd_op ?_
            refine rd_v rfl ?_
            refine rd_c ?_
            refine rd_I0 ?_
            refine rd_ixL (S196.l f_cells).r e198 (fun u199 f200 => ?_)
            cases (show u199 = (V.str (t197)) from f200)
            obtain ⟨t201, e202, e192⟩ := bd_some e192
            refine rd_cons ?_
            refine rd_v rfl ?_
            refine rd_nil ?_
            refine ⟨F174, _, _, t201, rfl, S196.sub, e202, fun v206 F203 H204 c205 f207 => ?_⟩
            have S208 := S196.call0 c205
            have f_cells := (qL qS).mono c205.le f_cells
            have f_positions := (qQ qI).mono c205.le f_positions
            have r114 := Row.mono c205.le r114
            have w116 := w116.call0 c205
            cases (show v206 = (V.bl (t201)) from f207)
            cases e192
            refine rd_b ?_
            exact q195 _ _ ⟨rfl, F203, S208⟩
          · intro b193
            have e192 := if_f e192 b193
            cases e192
            have S209 := Sx.refl0 S178.sub
            exact ⟨rfl, F174, S209⟩
          rintro b213 H211 ⟨rfl, F210, c212⟩
          have S214 := S178.call0 c212
          have f_cells := (qL qS).mono c212.le f_cells
          have f_positions := (qQ qI).mono c212.le f_positions
          have r114 := Row.mono c212.le r114
          have w116 := w116.call0 c212
          cases e164
          exact q167 _ _ ⟨rfl, F210, S214⟩
        · intro b165
          have e164 := if_f e164 b165
          cases e164
          have S215 := Sx.refl0 S115.sub
          exact ⟨rfl, F110, S215⟩
        rintro b219 H217 ⟨rfl, F216, c218⟩
        have S220 := S115.call0 c218
        have f_cells := (qL qS).mono c218.le f_cells
        have f_positions := (qQ qI).mono c218.le f_positions
        have r114 := Row.mono c218.le r114
        have w116 := w116.call0 c218
        refine if_b hm38 (fun b221 hm38 => ?_) (fun b221 hm38 => ?_)
        · skip
          obtain ⟨g222, hm38⟩ := gd_some hm38
          refine rd_drop ?_
          refine rd_bm ?_
          refine rd_v rfl ?_
          refine rd_ty w116.ty ?_
          refine rd_cons ?_
          refine rd_v rfl ?_
          refine rd_nil ?_
          refine ap S220 w116 r114 g222 (fun H223 c224 w225 => ?_)
          have r226 := r114.snoc (show qI.r K F216 _ x23 from rfl)
          have S227 := S220.call1 c224 w116
          have f_cells := (qL qS).mono c224.le f_cells
          have f_positions := (qQ qI).mono c224.le f_positions
          have r226 := Row.mono c224.le r226
          cases hm38
          exact ⟨F216, _, _, rfl, S227, w225, r226⟩
        · skip
          cases hm38
          refine rd_next ?_
          exact ⟨F216, _, _, rfl, S220, w116, r114⟩
    · skip
      rintro σ228 H229 ⟨F230, o232, v233, rfl, S231, w234, r235⟩
      have S236 := S8.call1 S231 w5
      have f_cells := (qL qS).mono S231.le f_cells
      have f_positions := (qQ qI).mono S231.le f_positions
      have w237 : Ow P0 H0 _ _ _ _ := ⟨w234.fr, w234.at_, w5.mine⟩
      obtain ⟨F238, S239, le240, f241, _, eq242⟩ := fz S236 w237 z7 r235
      have f_cells := (qL qS).mono le240 f_cells
      have f_positions := (qQ qI).mono le240 f_positions
      obtain ⟨t243, e244, hm⟩ := bd_some hm
      refine rd_ret ?_
      refine rd_call ?_
      refine rd_cons ?_
      refine rd_v rfl ?_
      refine rd_cons ?_
      refine rd_v rfl ?_
      refine rd_nil ?_
      refine ⟨F238, _, _, _, _, t243, rfl, S239.sub, f_cells, (.inl f241), e244, fun v248 F245 H246 c247 f249 => ?_⟩
      have S250 := S239.call0 c247
      have f_cells := (qL qS).mono c247.le f_cells
      have f_positions := (qQ qI).mono c247.le f_positions
      have f241 := (qL qI).mono c247.le f241
      cases hm
      exact hQ _ _ _ S250 f249
def sp_is_done (K : PySem.W.Frag) : Sp := fun vs H Q _ => ∃ (F : Hp) (v_cells : V) (a_cells : (List Str)) (v_positions : V) (a_positions : (List Int)) (r : Bool), vs = [v_cells, v_positions] ∧ Same F H ∧ (qL qS).r K F v_cells a_cells ∧ (qQ qI).r K F v_positions a_positions ∧ m_is_done a_cells a_positions = some r ∧ ∀ v F' H', Sx P0 F H F' H' → qB.r K F' v r → Q v H'
theorem sc_is_done : FnScope ["cells", "positions"] ["cells", "positions"] (defScope s_is_done) := ⟨rfl, rfl, rfl, by decide +kernel, rfl, by decide +kernel, by decide +kernel⟩
theorem bn_is_done (T : Tx K mg) : Binds K (fdOf K ("is_done", none)) ["cells", "positions"] [] := FunD.bindsN T.F_is_done fun _ _ _ _ _ _ us hl => match us, hl with | [_, _], _ => rfl
theorem ok_is_done (T : Tx K mg) : FnOk P w K mg base CX0 1 (He.ga K "is_done") (fdOf K ("is_done", none)) ["cells", "positions"] (sp_is_done K) := by
  refine FunD.ok T.F_is_done sc_is_done (fun vs H0 Q E h => ?_) (fun cdv A outer s H0 vs Q E hr h => ?_)
  · obtain ⟨_, _, _, _, _, _, rfl, _⟩ := h
    rfl
  · obtain ⟨F0, v_cells, a_cells, v_positions, a_positions, r, rfl, hE, f_cells, f_positions, hm, hQ⟩ := h
    refine ⟨_, PSs.nox ((pss_one (ps_ret (pe_cmpR (r := rIn K false) op_in_seq (pe_callB (r := rLenQ K) cr_lenQ (by rfl) T.n_len (by decide +kernel) (pa_cons (pv 0) pa_nil)) (pv 1) rfl)))), ?_⟩
    have S : Sx P0 F0 H0 F0 H0 := Sx.refl0 hE
    unfold m_is_done at hm
    cases hm
    refine rd_ret ?_
    refine rd_op ?_
    refine rd_cb ?_
    refine rd_cons ?_
    refine rd_v rfl ?_
    refine rd_nil ?_
    refine rd_lenQ (S.l f_cells).r.q ?_
    refine rd_v rfl ?_
    refine rd_inI (S.q f_positions) ?_
    exact hQ _ _ _ S rfl
def sp_law_pool (K : PySem.W.Frag) : Sp := fun vs H Q _ => ∃ (F : Hp) (v__law_script : V) (a__law_script : List Int) (a__law_k : Int) (r : (Int × Int)), vs = [v__law_script, (V.int (a__law_k))] ∧ Same F H ∧ qC.r K F v__law_script a__law_script ∧ m_law_pool a__law_script a__law_k = some r ∧ ∀ p F' H', H p = none → Sx P0 F H F' H' → Ow (fun a => a = p) H F' H' p (.lst [.int r.1, .int r.2]) → Q (.ref p) H'
theorem sc_law_pool : FnScope ["_law_script", "_law_k", "_law_cell", "_law_seed"] ["_law_script", "_law_k"] (defScope s_law_pool) := ⟨rfl, rfl, rfl, by decide +kernel, rfl, by decide +kernel, by decide +kernel⟩
theorem bn_law_pool (T : Tx K mg) : Binds K (fdOf K ("_law_pool", none)) ["_law_script", "_law_k"] [] := FunD.bindsN T.F__law_pool fun _ _ _ _ _ _ us hl => match us, hl with | [_, _], _ => rfl
theorem ok_law_pool (T : Tx K mg) : FnOk P w K mg base CX0 1 (He.ga K "_law_pool") (fdOf K ("_law_pool", none)) ["_law_script", "_law_k"] (sp_law_pool K) := by
  refine FunD.ok T.F__law_pool sc_law_pool (fun vs H0 Q E h => ?_) (fun cdv A outer s H0 vs Q E hr h => ?_)
  · obtain ⟨_, _, _, _, _, rfl, _⟩ := h
    rfl
  · obtain ⟨F0, v__law_script, a__law_script, a__law_k, r, rfl, hE, f__law_script, hm, hQ⟩ := h
    refine ⟨_, PSs.nox ((pss_cons (ps_set (i := 2) sc_law_pool.nd rfl (by first | exact Or.inl rfl | exact Or.inr rfl) pe_int) (C8.pss_cut (ps_if (pt_cmpR (r := rNeD K) (op_neD hr.units) (pv 0) (pe_lst pa_nil) (nomark _)) (pss_one (ps_set (i := 2) sc_law_pool.nd rfl (by first | exact Or.inl rfl | exact Or.inr rfl) (pe_ix (r := rIxL K) ix_list (pv 0) (pe_op op_mod (pe_callTy cr_int (by rfl) T.n_int (by decide +kernel) (pa_cons (pv 1) pa_nil)) (pe_callB (r := rLenQ K) cr_lenQ (by rfl) T.n_len (by decide +kernel) (pa_cons (pv 0) pa_nil))) (fun _ _ => rfl)))) pss_nil) (pss_cons (ps_set (i := 3) sc_law_pool.nd rfl (by first | exact Or.inl rfl | exact Or.inr rfl) (pe_op op_mod (pe_op op_mul (pe_callTy cr_int (by rfl) T.n_int (by decide +kernel) (pa_cons (pe_op op_add (pe_op op_add (pe_op op_mod (pe_callTy cr_int (by rfl) T.n_int (by decide +kernel) (pa_cons (pv 2) pa_nil)) pe_int) (pe_op op_mul pe_int (pv 1))) pe_int) pa_nil)) pe_int) pe_int)) (pss_one (ps_ret (pe_lst (pa_cons (pe_op op_mul (pv 2) (pe_callTy cr_int (by rfl) T.n_int (by decide +kernel) (pa_cons (pe_cmpR op_ge (pv 2) (pe_op op_pow pe_int pe_int) (nomark _)) pa_nil))) (pa_cons (pv 3) pa_nil))))))))), ?_⟩
    have S : Sx P0 F0 H0 F0 H0 := Sx.refl0 hE
    unfold m_law_pool at hm
    obtain ⟨t1, e2, hm⟩ := bd_some hm
    refine rd_seq ?_
    refine rd_asg ?_
    refine rd_c ?_
    refine rd_gn ?_
    refine rd_cut (fun σ' H' => ∃ (F : Hp) (o3 : Option V), σ' = [some v__law_script, some (V.int (a__law_k)), some (V.int (t1)), o3] ∧ Sx P0 F0 H0 F H') ?_ ?_
    · skip
      have S3 := Sx.refl0 S.sub
      refine rd_ifS ?_
      refine rd_test ?_
      refine rd_op ?_
      refine rd_v rfl ?_
      refine rd_lst ?_
      refine rd_nil ?_
      refine rd_lK rfl ?_
      refine alL (K := K) (A := qI) (xs := ([] : List Int)) S3 .nil (fun v4 F5 H6 c7 f8 => ?_)
      have S9 := S3.call0 c7
      have f__law_script := qC.mono c7.le f__law_script
      obtain ⟨g10, e2⟩ := gd_some e2
      obtain ⟨g11, e2⟩ := gd_some e2
      refine rd_neD (D := (dL dI)) (S9.cd f__law_script) (S9.d (dL dI) f8) g10 g11 ?_
      refine rd_b ?_
      refine if_b e2 (fun b12 e2 => ?_) (fun b12 e2 => ?_)
      · skip
        obtain ⟨g13, e2⟩ := gd_some e2
        obtain ⟨t14, e15, e2⟩ := bd_some e2
        refine rd_asg ?_
        refine rd_op ?_
        refine rd_v rfl ?_
        refine rd_op ?_
        refine rd_cb ?_
        refine rd_cons ?_
        refine rd_v rfl ?_
        refine rd_nil ?_
        refine rd_intI ?_
        refine rd_cb ?_
        refine rd_cons ?_
        refine rd_v rfl ?_
        refine rd_nil ?_
        refine rd_lenQ (S9.c f__law_script).q ?_
        refine rd_I (modOk_of g13) ?_
        refine rd_ixL (S9.c f__law_script) e15 (fun u16 f17 => ?_)
        cases (show u16 = (V.int (t14)) from f17)
        cases e2
        refine rd_gn ?_
        exact ⟨F5, _, rfl, S9⟩
      · skip
        cases e2
        refine rd_next ?_
        exact ⟨F5, _, rfl, S9⟩
    · skip
      rintro σ19 H18 ⟨F20, o22, rfl, S21⟩
      have S23 := S.call0 S21
      have f__law_script := qC.mono S21.le f__law_script
      obtain ⟨g24, hm⟩ := gd_some hm
      obtain ⟨g25, hm⟩ := gd_some hm
      obtain ⟨g26, hm⟩ := gd_some hm
      obtain ⟨g27, hm⟩ := gd_some hm
      obtain ⟨g28, hm⟩ := gd_some hm
      obtain ⟨g29, hm⟩ := gd_some hm
      refine rd_seq ?_
      refine rd_asg ?_
      refine rd_op ?_
      refine rd_op ?_
      refine rd_cb ?_
      refine rd_cons ?_
      refine rd_op ?_
      refine rd_op ?_
      refine rd_op ?_
      refine rd_cb ?_
      refine rd_cons ?_
      refine rd_v rfl ?_
      refine rd_nil ?_
      refine rd_intI ?_
      refine rd_c ?_
      refine rd_I (modOk_of g24) ?_
      refine rd_op ?_
      refine rd_c ?_
      refine rd_v rfl ?_
      refine rd_I (mulOk_of g25) ?_
      refine rd_I0 ?_
      refine rd_c ?_
      refine rd_I0 ?_
      refine rd_nil ?_
      refine rd_intI ?_
      refine rd_c ?_
      refine rd_I (mulOk_of g26) ?_
      refine rd_c ?_
      refine rd_I (modOk_of g27) ?_
      refine rd_gn ?_
      refine rd_ret ?_
      refine rd_lst ?_
      refine rd_cons ?_
      refine rd_op ?_
      refine rd_v rfl ?_
      refine rd_cb ?_
      refine rd_cons ?_
      refine rd_op ?_
      refine rd_v rfl ?_
      refine rd_op ?_
      refine rd_c ?_
      refine rd_c ?_
      refine rd_I (powOk_of g28) ?_
      refine rd_I0 ?_
      refine rd_nil ?_
      refine rd_intB ?_
      refine rd_I (mulOk_of g29) ?_
      refine rd_cons ?_
      refine rd_v rfl ?_
      refine rd_nil ?_
      refine rd_lK rfl ?_
      refine al S23 (fun p30 H31 np32 c33 w34 => ?_)
      have z35 := S23.free0 np32
      have S36 := S23.call0 c33
      have f__law_script := qC.mono c33.le f__law_script
      cases hm
      exact hQ _ _ _ z35 S36 ⟨w34.fr, w34.at_, .inr rfl⟩
def sp_law_take (K : PySem.W.Frag) : Sp := fun vs H Q _ => ∃ (F : Hp) (p__law_pool_here : Addr) (a__law_pool_here : Int × Int) (a__law_many : Int) (r : (Int × (Int × Int))), vs = [.ref p__law_pool_here, (V.int (a__law_many))] ∧ Same F H ∧ Ow (fun a => a = p__law_pool_here) H F H p__law_pool_here (.lst [.int a__law_pool_here.1, .int a__law_pool_here.2]) ∧ m_law_take a__law_pool_here a__law_many = some r ∧ ∀ v F' H', Sx (fun a => a = p__law_pool_here) F H F' H' → Ow (fun a => a = p__law_pool_here) H F' H' p__law_pool_here (.lst [.int r.2.1, .int r.2.2]) → qI.r K F' v r.1 → Q v H'
theorem sc_law_take : FnScope ["_law_pool_here", "_law_many", "_law_digit"] ["_law_pool_here", "_law_many"] (defScope s_law_take) := ⟨rfl, rfl, rfl, by decide +kernel, rfl, by decide +kernel, by decide +kernel⟩
theorem bn_law_take (T : Tx K mg) : Binds K (fdOf K ("_law_take", none)) ["_law_pool_here", "_law_many"] [] := FunD.bindsN T.F__law_take fun _ _ _ _ _ _ us hl => match us, hl with | [_, _], _ => rfl
theorem ok_law_take (T : Tx K mg) : FnOk P w K mg base CX0 1 (He.ga K "_law_take") (fdOf K ("_law_take", none)) ["_law_pool_here", "_law_many"] (sp_law_take K) := by
  refine FunD.ok T.F__law_take sc_law_take (fun vs H0 Q E h => ?_) (fun cdv A outer s H0 vs Q E hr h => ?_)
  · obtain ⟨_, _, _, _, _, rfl, _⟩ := h
    rfl
  · obtain ⟨F0, p__law_pool_here, a__law_pool_here, a__law_many, r, rfl, hE, w__law_pool_here, hm, hQ⟩ := h
    refine ⟨_, PSs.nox ((pss_cons (ps_if (pt_cmpR op_gt (pe_ix (r := rIxL K) ix_list (pv 0) pe_int (fun _ _ => rfl)) pe_int (nomark _)) (pss_cons (ps_set (i := 2) sc_law_take.nd rfl (by first | exact Or.inl rfl | exact Or.inr rfl) (pe_op op_mod (pe_callTy cr_int (by rfl) T.n_int (by decide +kernel) (pa_cons (pe_ix (r := rIxL K) ix_list (pv 0) pe_int (fun _ _ => rfl)) pa_nil)) (pv 1))) (pss_cons (ps_asg (pe_op op_fdiv (pe_ix (r := rIxL K) ix_list (pv 0) pe_int (fun _ _ => rfl)) (pv 1)) (pg_sub (pv 0) pe_int set_list)) (pss_one (ps_ret (pv 2))))) pss_nil) (pss_cons (ps_asg (pe_op op_mod (pe_callTy cr_int (by rfl) T.n_int (by decide +kernel) (pa_cons (pe_op op_add (pe_op op_mul (pe_ix (r := rIxL K) ix_list (pv 0) pe_int (fun _ _ => rfl)) pe_int) pe_int) pa_nil)) pe_int) (pg_sub (pv 0) pe_int set_list)) (pss_one (ps_ret (pe_op op_mod (pe_callTy cr_int (by rfl) T.n_int (by decide +kernel) (pa_cons (pe_op op_fdiv (pe_op op_mod (pe_callTy cr_int (by rfl) T.n_int (by decide +kernel) (pa_cons (pe_op op_mul (pe_ix (r := rIxL K) ix_list (pv 0) pe_int (fun _ _ => rfl)) (pe_ix (r := rIxL K) ix_list (pv 0) pe_int (fun _ _ => rfl))) pa_nil)) pe_int) pe_int) pa_nil)) (pv 1))))))), ?_⟩
    have S : Sx (fun a => a = p__law_pool_here) F0 H0 F0 H0 := Sx.refl hE (live1 w__law_pool_here)
    unfold m_law_take at hm
    refine rd_seq ?_
    refine rd_ifS ?_
    refine rd_test ?_
    refine rd_op ?_
    refine rd_op ?_
    refine rd_v rfl ?_
    refine rd_c ?_
    refine pool0 w__law_pool_here ?_
    refine rd_c ?_
    refine rd_I0 ?_
    refine rd_b ?_
    refine if_b hm (fun b1 hm => ?_) (fun b1 hm => ?_)
    · skip
      obtain ⟨g2, hm⟩ := gd_some hm
      obtain ⟨g3, hm⟩ := gd_some hm
      refine rd_seq ?_
      refine rd_asg ?_
      refine rd_op ?_
      refine rd_cb ?_
      refine rd_cons ?_
      refine rd_op ?_
      refine rd_v rfl ?_
      refine rd_c ?_
      refine pool0 w__law_pool_here ?_
      refine rd_nil ?_
      refine rd_intI ?_
      refine rd_v rfl ?_
      refine rd_I (modOk_of g2) ?_
      refine rd_gn ?_
      refine rd_seq ?_
      refine rd_asg ?_
      refine rd_op ?_
      refine rd_op ?_
      refine rd_v rfl ?_
      refine rd_c ?_
      refine pool0 w__law_pool_here ?_
      refine rd_v rfl ?_
      refine rd_I (divOk_of g3) ?_
      refine rd_gsub ?_
      refine rd_v rfl ?_
      refine rd_c ?_
      refine pset0 S w__law_pool_here (fun H4 c5 w6 => ?_)
      have S7 := S.call1 c5 w__law_pool_here
      cases hm
      refine rd_ret ?_
      refine rd_v rfl ?_
      exact hQ _ _ _ S7 w6 rfl
    · skip
      obtain ⟨g8, hm⟩ := gd_some hm
      obtain ⟨g9, hm⟩ := gd_some hm
      refine rd_next ?_
      refine rd_seq ?_
      refine rd_asg ?_
      refine rd_op ?_
      refine rd_cb ?_
      refine rd_cons ?_
      refine rd_op ?_
      refine rd_op ?_
      refine rd_op ?_
      refine rd_v rfl ?_
      refine rd_c ?_
      refine pool1 w__law_pool_here ?_
      refine rd_c ?_
      refine rd_I (mulOk_of g8) ?_
      refine rd_c ?_
      refine rd_I0 ?_
      refine rd_nil ?_
      refine rd_intI ?_
      refine rd_c ?_
      refine rd_I (modOk_of g9) ?_
      refine rd_gsub ?_
      refine rd_v rfl ?_
      refine rd_c ?_
      refine pset1 S w__law_pool_here (fun H10 c11 w12 => ?_)
      have S13 := S.call1 c11 w__law_pool_here
      obtain ⟨g14, hm⟩ := gd_some hm
      obtain ⟨g15, hm⟩ := gd_some hm
      obtain ⟨g16, hm⟩ := gd_some hm
      obtain ⟨g17, hm⟩ := gd_some hm
      cases hm
      refine rd_ret ?_
      refine rd_op ?_
      refine rd_cb ?_
      refine rd_cons ?_
      refine rd_op ?_
      refine rd_op ?_
      refine rd_cb ?_
      refine rd_cons ?_
      refine rd_op ?_
      refine rd_op ?_
      refine rd_v rfl ?_
      refine rd_c ?_
      refine pool1 w12 ?_
      refine rd_op ?_
      refine rd_v rfl ?_
      refine rd_c ?_
      refine pool1 w12 ?_
      refine rd_I (mulOk_of g14) ?_
      refine rd_nil ?_
      refine rd_intI ?_
      refine rd_c ?_
      refine rd_I (modOk_of g15) ?_
      refine rd_c ?_
      refine rd_I (divOk_of g16) ?_
      refine rd_nil ?_
      refine rd_intI ?_
      refine rd_v rfl ?_
      refine rd_I (modOk_of g17) ?_
      exact hQ _ _ _ S13 w12 rfl
def sp_law_all_signs (K : PySem.W.Frag) : Sp := fun vs H Q _ => ∃ (F : Hp)  (r : Str), vs = [] ∧ Same F H ∧ m_law_all_signs = some r ∧ ∀ v F' H', Sx P0 F H F' H' → qS.r K F' v r → Q v H'
theorem sc_law_all_signs : FnScope [] [] (defScope s_law_all_signs) := ⟨rfl, rfl, rfl, by decide +kernel, rfl, by decide +kernel, by decide +kernel⟩
theorem bn_law_all_signs (T : Tx K mg) : Binds K (fdOf K ("_law_all_signs", none)) [] [] := FunD.bindsN T.F__law_all_signs fun _ _ _ _ _ _ us hl => match us, hl with | [], _ => rfl
theorem ok_law_all_signs (T : Tx K mg) : FnOk P w K mg base CX0 1 (He.ga K "_law_all_signs") (fdOf K ("_law_all_signs", none)) [] (sp_law_all_signs K) := by
  refine FunD.ok T.F__law_all_signs sc_law_all_signs (fun vs H0 Q E h => ?_) (fun cdv A outer s H0 vs Q E hr h => ?_)
  · obtain ⟨_, _, rfl, _⟩ := h
    rfl
  · obtain ⟨F0, r, rfl, hE, hm, hQ⟩ := h
    refine ⟨_, PSs.nox ((pss_one (ps_ret pe_str))), ?_⟩
    have S : Sx P0 F0 H0 F0 H0 := Sx.refl0 hE
    unfold m_law_all_signs at hm
    cases hm
    refine rd_ret ?_
    refine rd_c ?_
    exact hQ _ _ _ S rfl
def sp_law_text (K : PySem.W.Frag) : Sp := fun vs H Q _ => ∃ (F : Hp) (p__law_pool_here : Addr) (a__law_pool_here : Int × Int) (r : (Str × (Int × Int))), vs = [.ref p__law_pool_here] ∧ Same F H ∧ Ow (fun a => a = p__law_pool_here) H F H p__law_pool_here (.lst [.int a__law_pool_here.1, .int a__law_pool_here.2]) ∧ m_law_text a__law_pool_here = some r ∧ ∀ v F' H', Sx (fun a => a = p__law_pool_here) F H F' H' → Ow (fun a => a = p__law_pool_here) H F' H' p__law_pool_here (.lst [.int r.2.1, .int r.2.2]) → qS.r K F' v r.1 → Q v H'
theorem sc_law_text : FnScope ["_law_pool_here", "_law_text_here", "_law_style", "_law_k"] ["_law_pool_here"] (defScope s_law_text) := ⟨rfl, rfl, rfl, by decide +kernel, rfl, by decide +kernel, by decide +kernel⟩
theorem bn_law_text (T : Tx K mg) : Binds K (fdOf K ("_law_text", none)) ["_law_pool_here"] [] := FunD.bindsN T.F__law_text fun _ _ _ _ _ _ us hl => match us, hl with | [_], _ => rfl
theorem ok_law_text (T : Tx K mg) : FnOk P w K mg base CX0 2 (He.ga K "_law_text") (fdOf K ("_law_text", none)) ["_law_pool_here"] (sp_law_text K) := by
  refine FunD.ok T.F__law_text sc_law_text (fun vs H0 Q E h => ?_) (fun cdv A outer s H0 vs Q E hr h => ?_)
  · obtain ⟨_, _, _, _, rfl, _⟩ := h
    rfl
  · obtain ⟨F0, p__law_pool_here, a__law_pool_here, r, rfl, hE, w__law_pool_here, hm, hQ⟩ := h
    refine ⟨_, PSs.nox ((pss_cons (ps_set (i := 1) sc_law_text.nd rfl (by first | exact Or.inl rfl | exact Or.inr rfl) pe_str) (pss_cons (ps_set (i := 2) sc_law_text.nd rfl (by first | exact Or.inl rfl | exact Or.inr rfl) (pe_call (ok_law_take T) (hr.mono (by decide)) (by rfl) T.g__law_take T.F__law_take.kp (bn_law_take T) .nil pass0 (pa_cons (pv 0) (pa_cons pe_int pa_nil)))) (pss_cons (ps_for PassesOwn.never rfl (pi_range1 (by rfl) T.n_range (pa_cons (pe_op op_add pe_int (pe_call (ok_law_take T) (hr.mono (by decide)) (by rfl) T.g__law_take T.F__law_take.kp (bn_law_take T) .nil pass0 (pa_cons (pv 0) (pa_cons pe_int pa_nil)))) pa_nil)) (pg_name (i := 3) sc_law_text.nd rfl (by first | exact Or.inl rfl | exact Or.inr rfl)) (pss_one (ps_if (pt_cmpR op_eqI (pv 2) pe_int (nomark _)) (pss_one (ps_set (i := 1) sc_law_text.nd rfl (by first | exact Or.inl rfl | exact Or.inr rfl) (pe_op op_catS (pv 1) (pe_ix ix_str (pe_call0 (ok_law_all_signs T) (hr.mono (by decide)) (by rfl) T.g__law_all_signs T.F__law_all_signs.kp (bn_law_all_signs T) .nil pass0) (pe_call (ok_law_take T) (hr.mono (by decide)) (by rfl) T.g__law_take T.F__law_take.kp (bn_law_take T) .nil pass0 (pa_cons (pv 0) (pa_cons pe_int pa_nil))) (fun _ _ => rfl))))) (pss_one (ps_set (i := 1) sc_law_text.nd rfl (by first | exact Or.inl rfl | exact Or.inr rfl) (pe_op op_catS (pv 1) (pe_ix ix_str pe_str (pe_call (ok_law_take T) (hr.mono (by decide)) (by rfl) T.g__law_take T.F__law_take.kp (bn_law_take T) .nil pass0 (pa_cons (pv 0) (pa_cons pe_int pa_nil))) (fun _ _ => rfl)))))))) (pss_one (ps_ret (pv 1))))))), ?_⟩
    have S : Sx (fun a => a = p__law_pool_here) F0 H0 F0 H0 := Sx.refl hE (live1 w__law_pool_here)
    unfold m_law_text at hm
    obtain ⟨t1, e2, hm⟩ := bd_some hm
    refine rd_seq ?_
    refine rd_asg ?_
    refine rd_c ?_
    refine rd_gn ?_
    refine rd_seq ?_
    refine rd_asg ?_
    refine rd_call ?_
    refine rd_cons ?_
    refine rd_v rfl ?_
    refine rd_cons ?_
    refine rd_c ?_
    refine rd_nil ?_
    refine ⟨F0, _, _, _, t1, rfl, S.sub, w__law_pool_here.arg, e2, fun v6 F3 H4 c5 w8 f7 => ?_⟩
    have S9 := S.call1 c5 w__law_pool_here
    have w10 := w__law_pool_here.back w8
    cases (show v6 = (V.int (t1.1)) from f7)
    obtain ⟨t11, e12, hm⟩ := bd_some hm
    refine rd_gn ?_
    refine rd_seq ?_
    refine rd_for ?_
    refine rd_iR1 ?_
    refine rd_cons ?_
    refine rd_op ?_
    refine rd_c ?_
    refine rd_call ?_
    refine rd_cons ?_
    refine rd_v rfl ?_
    refine rd_cons ?_
    refine rd_c ?_
    refine rd_nil ?_
    refine ⟨F3, _, _, _, t11, rfl, S9.sub, w10.arg, e12, fun v16 F13 H14 c15 w18 f17 => ?_⟩
    have S19 := S9.call1 c15 w10
    have w20 := w10.back w18
    cases (show v16 = (V.int (t11.1)) from f17)
    obtain ⟨g21, hm⟩ := gd_some hm
    refine rd_I0 ?_
    refine rd_nil ?_
    refine rd_r1 g21 ?_
    obtain ⟨t22, e23, hm⟩ := bd_some hm
    refine rd_forS feedsRg (typedR (K := K) (F := F13)) e23 (fun (s24 : ((Int × Int) × Str)) σ H => ∃ (F : Hp) (o3 : Option V), σ = [some (V.ref p__law_pool_here), some (V.str (s24.2)), some (V.int (t1.1)), o3] ∧ Sx (fun a => a = p__law_pool_here) F13 H14 F H ∧ Ow (fun a => a = p__law_pool_here) H14 F H p__law_pool_here (.lst [V.int s24.1.1, V.int s24.1.2])) ?_ ?_ ?_ ?_
    · intro _ _ _ _; trivial
    · skip
      have S26 : Sx (fun a => a = p__law_pool_here) _ _ _ _ := Sx.refl S19.sub (fun a z => by rw [z, w20.at_]; exact (fun h => nomatch h))
      have w27 : Ow (fun a => a = p__law_pool_here) H14 _ _ _ _ := ⟨w20.fr, w20.at_, .inr (rfl)⟩
      exact ⟨F13, _, rfl, S26, w27⟩
    · skip
      rintro x28 v29 s30 c34 σ31 H32 f33 ⟨F35, o37, rfl, S36, w38⟩ hm41
      unfold m_law_text_b1 at hm41
      cases (show v29 = (V.int (x28)) from f33)
      refine rd_gn ?_
      refine rd_ifS ?_
      refine rd_test ?_
      refine rd_op ?_
      refine rd_v rfl ?_
      refine rd_c ?_
      refine rd_I0 ?_
      refine rd_b ?_
      refine if_b hm41 (fun b42 hm41 => ?_) (fun b42 hm41 => ?_)
      · skip
        obtain ⟨t43, e44, hm41⟩ := bd_some hm41
        refine rd_asg ?_
        refine rd_op ?_
        refine rd_v rfl ?_
        refine rd_op ?_
        refine rd_call ?_
        refine rd_nil ?_
        refine ⟨F35, t43, rfl, S36.sub, e44, fun v48 F45 H46 c47 f49 => ?_⟩
        have S50 := S36.call0 c47
        have w38 := w38.call0 c47
        cases (show v48 = (V.str (t43)) from f49)
        obtain ⟨t51, e52, hm41⟩ := bd_some hm41
        refine rd_call ?_
        refine rd_cons ?_
        refine rd_v rfl ?_
        refine rd_cons ?_
        refine rd_c ?_
        refine rd_nil ?_
        refine ⟨F45, _, _, _, t51, rfl, S50.sub, w38.arg, e52, fun v56 F53 H54 c55 w58 f57 => ?_⟩
        have S59 := S50.call1 c55 w38
        have w60 := w38.back w58
        cases (show v56 = (V.int (t51.1)) from f57)
        obtain ⟨t61, e62, hm41⟩ := bd_some hm41
        obtain ⟨g63, hm41⟩ := gd_some hm41
        cases hm41
        refine rd_ixS e62 ?_
        refine rd_catS g63 ?_
        refine rd_gn ?_
        exact ⟨F53, _, rfl, S59, w60⟩
      · skip
        obtain ⟨t64, e65, hm41⟩ := bd_some hm41
        refine rd_asg ?_
        refine rd_op ?_
        refine rd_v rfl ?_
        refine rd_op ?_
        refine rd_c ?_
        refine rd_call ?_
        refine rd_cons ?_
        refine rd_v rfl ?_
        refine rd_cons ?_
        refine rd_c ?_
        refine rd_nil ?_
        refine ⟨F35, _, _, _, t64, rfl, S36.sub, w38.arg, e65, fun v69 F66 H67 c68 w71 f70 => ?_⟩
        have S72 := S36.call1 c68 w38
        have w73 := w38.back w71
        cases (show v69 = (V.int (t64.1)) from f70)
        obtain ⟨t74, e75, hm41⟩ := bd_some hm41
        obtain ⟨g76, hm41⟩ := gd_some hm41
        cases hm41
        refine rd_ixS e75 ?_
        refine rd_catS g76 ?_
        refine rd_gn ?_
        exact ⟨F66, _, rfl, S72, w73⟩
    · skip
      rintro σ77 H78 ⟨F79, o81, rfl, S80, w82⟩
      have S83 := S19.call1 S80 w20
      have w84 : Ow (fun a => a = p__law_pool_here) H0 _ _ _ _ := ⟨w82.fr, w82.at_, w20.mine⟩
      cases hm
      refine rd_ret ?_
      refine rd_v rfl ?_
      exact hQ _ _ _ S83 w84 rfl
def sp_law_rich (K : PySem.W.Frag) : Sp := fun vs H Q _ => ∃ (F : Hp) (p__law_pool_here : Addr) (a__law_pool_here : Int × Int) (r : ((List Str) × (Int × Int))), vs = [.ref p__law_pool_here] ∧ Same F H ∧ Ow (fun a => a = p__law_pool_here) H F H p__law_pool_here (.lst [.int a__law_pool_here.1, .int a__law_pool_here.2]) ∧ m_law_rich a__law_pool_here = some r ∧ ∀ v F' H', Sx (fun a => a = p__law_pool_here) F H F' H' → Ow (fun a => a = p__law_pool_here) H F' H' p__law_pool_here (.lst [.int r.2.1, .int r.2.2]) → (qL qS).r K F' v r.1 → Q v H'
theorem sc_law_rich : FnScope ["_law_pool_here", "_law_parts", "_law_k", "_law_kind", "_law_fixed"] ["_law_pool_here"] (defScope s_law_rich) := ⟨rfl, rfl, rfl, by decide +kernel, rfl, by decide +kernel, by decide +kernel⟩
theorem bn_law_rich (T : Tx K mg) : Binds K (fdOf K ("_law_rich", none)) ["_law_pool_here"] [] := FunD.bindsN T.F__law_rich fun _ _ _ _ _ _ us hl => match us, hl with | [_], _ => rfl
theorem ok_law_rich (T : Tx K mg) : FnOk P w K mg base CX0 3 (He.ga K "_law_rich") (fdOf K ("_law_rich", none)) ["_law_pool_here"] (sp_law_rich K) := by
  refine FunD.ok T.F__law_rich sc_law_rich (fun vs H0 Q E h => ?_) (fun cdv A outer s H0 vs Q E hr h => ?_)
  · obtain ⟨_, _, _, _, rfl, _⟩ := h
    rfl
  · obtain ⟨F0, p__law_pool_here, a__law_pool_here, r, rfl, hE, w__law_pool_here, hm, hQ⟩ := h
    refine ⟨_, PSs.nox ((pss_cons (ps_set (i := 1) sc_law_rich.nd rfl (by first | exact Or.inl rfl | exact Or.inr rfl) (pe_lst pa_nil)) (pss_cons (ps_for PassesOwn.never rfl (pi_range1 (by rfl) T.n_range (pa_cons (pe_op op_add pe_int (pe_call (ok_law_take T) (hr.mono (by decide)) (by rfl) T.g__law_take T.F__law_take.kp (bn_law_take T) .nil pass0 (pa_cons (pv 0) (pa_cons pe_int pa_nil)))) pa_nil)) (pg_name (i := 2) sc_law_rich.nd rfl (by first | exact Or.inl rfl | exact Or.inr rfl)) (pss_cons (ps_set (i := 3) sc_law_rich.nd rfl (by first | exact Or.inl rfl | exact Or.inr rfl) (pe_call (ok_law_take T) (hr.mono (by decide)) (by rfl) T.g__law_take T.F__law_take.kp (bn_law_take T) .nil pass0 (pa_cons (pv 0) (pa_cons pe_int pa_nil)))) (pss_cons (ps_set (i := 4) sc_law_rich.nd rfl (by first | exact Or.inl rfl | exact Or.inr rfl) (pe_and (pe_cmpR (r := rNeD K) (op_neD hr.units) (pv 1) (pe_lst pa_nil) (nomark _)) (pe_one (pe_cmpR (r := rIn K true) op_notIn_seq (pe_ix (r := rIxL K) ix_list (pv 1) (pe_un un_neg pe_int) (fun _ _ => rfl)) (pe_tup (pa_cons pe_str (pa_cons pe_str (pa_cons pe_str pa_nil)))) rfl)))) (pss_one (ps_if (PW.pt (pw_and (pt_cmpR op_eqI (pv 3) pe_int (nomark _)) (pw_and1 (pt_cmpR (r := rIn K true) op_notIn_seq pe_str (pv 1) rfl)))) (pss_one (ps_expr (pe_bm PySem.F.plainAttrs_list PySem.F.slot_list_append PySem.F.type_list_append mt_append (pv 1) (pa_cons pe_str pa_nil)))) (pss_one (ps_if (pt_cmpR op_eqI (pv 3) pe_int (nomark _)) (pss_one (ps_expr (pe_bm PySem.F.plainAttrs_list PySem.F.slot_list_append PySem.F.type_list_append mt_append (pv 1) (pa_cons pe_str pa_nil)))) (pss_one (ps_if (PW.pt (pw_or (pt_cmpR op_eqI (pv 3) pe_int (nomark _)) (pw_or1 (pt_val (pv 4))))) (pss_one (ps_expr (pe_bm PySem.F.plainAttrs_list PySem.F.slot_list_append PySem.F.type_list_append mt_append (pv 1) (pa_cons pe_str pa_nil)))) (pss_one (ps_expr (pe_bm PySem.F.plainAttrs_list PySem.F.slot_list_append PySem.F.type_list_append mt_append (pv 1) (pa_cons (pe_call (ok_law_text T) (hr.mono (by decide)) (by rfl) T.g__law_text T.F__law_text.kp (bn_law_text T) .nil pass0 (pa_cons (pv 0) pa_nil)) pa_nil))))))))))))) (pss_one (ps_ret (pv 1)))))), ?_⟩
    have S : Sx (fun a => a = p__law_pool_here) F0 H0 F0 H0 := Sx.refl hE (live1 w__law_pool_here)
    unfold m_law_rich at hm
    refine rd_seq ?_
    refine rd_asg ?_
    refine rd_lst ?_
    refine rd_nil ?_
    refine rd_lK rfl ?_
    refine al S (fun p1 H2 np3 c4 w5 => ?_)
    have r6 : Row qS K F0 [] ([] : List Str) := .nil
    have ne7 : p__law_pool_here ≠ p1 := w__law_pool_here.ne np3
    have z8 := S.free0 np3
    have S9 := S.call0 c4
    have w__law_pool_here := w__law_pool_here.call0 c4
    obtain ⟨t10, e11, hm⟩ := bd_some hm
    refine rd_gn ?_
    refine rd_seq ?_
    refine rd_for ?_
    refine rd_iR1 ?_
    refine rd_cons ?_
    refine rd_op ?_
    refine rd_c ?_
    refine rd_call ?_
    refine rd_cons ?_
    refine rd_v rfl ?_
    refine rd_cons ?_
    refine rd_c ?_
    refine rd_nil ?_
    refine ⟨F0, _, _, _, t10, rfl, S9.sub, w__law_pool_here.arg, e11, fun v15 F12 H13 c14 w17 f16 => ?_⟩
    have S18 := S9.call1 c14 w__law_pool_here
    have r6 := Row.mono c14.le r6
    have w5 := w5.call c14 (by intro z; exact (Ne.symm ne7) z)
    have w19 := w__law_pool_here.back w17
    cases (show v15 = (V.int (t10.1)) from f16)
    obtain ⟨g20, hm⟩ := gd_some hm
    refine rd_I0 ?_
    refine rd_nil ?_
    refine rd_r1 g20 ?_
    obtain ⟨t21, e22, hm⟩ := bd_some hm
    refine rd_forS feedsRg (typedR (K := K) (F := F12)) e22 (fun (s23 : ((Int × Int) × (List Str))) σ H => ∃ (F : Hp) (o2 : Option V) (o3 : Option V) (o4 : Option V) (vs1 : List V), σ = [some (V.ref p__law_pool_here), some (V.ref p1), o2, o3, o4] ∧ Sx (fun a => a = p__law_pool_here ∨ a = p1) F12 H13 F H ∧ Ow (fun a => a = p__law_pool_here ∨ a = p1) H13 F H p__law_pool_here (.lst [V.int s23.1.1, V.int s23.1.2]) ∧ Ow (fun a => a = p__law_pool_here ∨ a = p1) H13 F H p1 (.lst vs1) ∧ Row qS K F vs1 s23.2) ?_ ?_ ?_ ?_
    · intro _ _ _ _; trivial
    · skip
      have S25 : Sx (fun a => a = p__law_pool_here ∨ a = p1) _ _ _ _ := Sx.refl S18.sub (by
          rintro a (rfl | rfl)
          · rw [w19.at_]; exact (fun h => nomatch h)
          · rw [w5.at_]; exact (fun h => nomatch h))
      have w26 : Ow (fun a => a = p__law_pool_here ∨ a = p1) H13 _ _ _ _ := ⟨w19.fr, w19.at_, .inr (Or.inl rfl)⟩
      have w27 : Ow (fun a => a = p__law_pool_here ∨ a = p1) H13 _ _ _ _ := ⟨w5.fr, w5.at_, .inr (Or.inr (rfl))⟩
      exact ⟨F12, _, _, _, _, rfl, S25, w26, w27, r6⟩
    · skip
      rintro x28 v29 s30 c34 σ31 H32 f33 ⟨F35, o37, o38, o39, v40, rfl, S36, w41, w42, r43⟩ hm46
      unfold m_law_rich_b1 at hm46
      cases (show v29 = (V.int (x28)) from f33)
      obtain ⟨t47, e48, hm46⟩ := bd_some hm46
      refine rd_gn ?_
      refine rd_seq ?_
      refine rd_asg ?_
      refine rd_call ?_
      refine rd_cons ?_
      refine rd_v rfl ?_
      refine rd_cons ?_
      refine rd_c ?_
      refine rd_nil ?_
      refine ⟨F35, _, _, _, t47, rfl, S36.sub, w41.arg, e48, fun v52 F49 H50 c51 w54 f53 => ?_⟩
      have S55 := S36.call1 c51 w41
      have r43 := Row.mono c51.le r43
      have w42 := w42.call c51 (by intro z; exact (Ne.symm ne7) z)
      have w56 := w41.back w54
      cases (show v52 = (V.int (t47.1)) from f53)
      refine rd_gn ?_
      refine rd_seq ?_
      refine rd_asg ?_
      refine rd_andV ?_
      refine rd_op ?_
      refine rd_v rfl ?_
      refine rd_lst ?_
      refine rd_nil ?_
      refine rd_lK rfl ?_
      refine alL (K := K) (A := qS) (xs := ([] : List Str)) S55 .nil (fun v57 F58 H59 c60 f61 => ?_)
      have S62 := S55.call0 c60
      have w56 := w56.call0 c60
      have r43 := Row.mono c60.le r43
      have w42 := w42.call0 c60
      obtain ⟨g63, hm46⟩ := gd_some hm46
      obtain ⟨g64, hm46⟩ := gd_some hm46
      obtain ⟨t75, e76, hm46⟩ := bd_some hm46
      refine rd_neD (D := (dL dS)) (w42.d S62 dS r43) (S62.d (dL dS) f61) g63 g64 ?_
      refine rd_b ?_
      refine andV_j (fun c H' => c = V.bl t75 ∧ ∃ F', Sx P0 F58 H59 F' H') ?_ ?_ ?_
      · intro b77 Q78 q79
        have e76 := if_t e76 b77
        have S80 := Sx.refl0 S62.sub
        obtain ⟨t81, e82, e76⟩ := bd_some e76
        refine rd_op ?_
        refine rd_op ?_
        refine rd_v rfl ?_
        refine rd_un ?_
        refine rd_c ?_
        refine rd_U ?_
        refine rd_ixL (w42.l r43).r e82 (fun u83 f84 => ?_)
        cases (show u83 = (V.str (t81)) from f84)
        refine rd_tup ?_
        refine rd_cons ?_
        refine rd_c ?_
        refine rd_cons ?_
        refine rd_c ?_
        refine rd_cons ?_
        refine rd_c ?_
        refine rd_nil ?_
        refine rd_uK rfl ?_
        refine alT (K := K) (A := qS) (xs := [("<any>" : Str), ("<digits>" : Str), ("<word>" : Str)]) S80 (.cons rfl (.cons rfl (.cons rfl .nil))) (fun v85 F86 H87 c88 f89 => ?_)
        have S90 := S80.call0 c88
        have w56 := w56.call0 c88
        have r43 := Row.mono c88.le r43
        have w42 := w42.call0 c88
        cases e76
        refine rd_niS (S90.t f89).q ?_
        exact q79 _ _ ⟨rfl, F86, S90⟩
      · intro b77
        have e76 := if_f e76 b77
        cases e76
        have S91 := Sx.refl0 S62.sub
        exact ⟨rfl, F58, S91⟩
      rintro b95 H93 ⟨rfl, F92, c94⟩
      have S96 := S62.call0 c94
      have w56 := w56.call0 c94
      have r43 := Row.mono c94.le r43
      have w42 := w42.call0 c94
      refine rd_gn ?_
      refine rd_ifS ?_
      refine rd_and ?_
      refine rd_test ?_
      refine rd_op ?_
      refine rd_v rfl ?_
      refine rd_c ?_
      refine rd_I0 ?_
      refine rd_b ?_
      refine and_p (by intro _ Q' q; refine rd_test ?_; refine rd_op ?_; refine rd_c ?_; refine rd_v rfl ?_; refine rd_niS (w42.l r43).r.q ?_; refine rd_b ?_; exact q) ?_
      refine if_b hm46 (fun b97 hm46 => ?_) (fun b97 hm46 => ?_)
      · skip
        obtain ⟨g98, hm46⟩ := gd_some hm46
        refine rd_drop ?_
        refine rd_bm ?_
        refine rd_v rfl ?_
        refine rd_ty w42.ty ?_
        refine rd_cons ?_
        refine rd_c ?_
        refine rd_nil ?_
        refine ap S96 w42 r43 g98 (fun H99 c100 w101 => ?_)
        have r102 := r43.snoc (show qS.r K F92 _ ("<any>" : Str) from rfl)
        have S103 := S96.call1 c100 w42
        have w56 := w56.call c100 (by intro z; exact ne7 z)
        have r102 := Row.mono c100.le r102
        cases hm46
        exact ⟨F92, _, _, _, _, rfl, S103, w56, w101, r102⟩
      · skip
        refine rd_ifS ?_
        refine rd_test ?_
        refine rd_op ?_
        refine rd_v rfl ?_
        refine rd_c ?_
        refine rd_I0 ?_
        refine rd_b ?_
        refine if_b hm46 (fun b104 hm46 => ?_) (fun b104 hm46 => ?_)
        · skip
          obtain ⟨g105, hm46⟩ := gd_some hm46
          refine rd_drop ?_
          refine rd_bm ?_
          refine rd_v rfl ?_
          refine rd_ty w42.ty ?_
          refine rd_cons ?_
          refine rd_c ?_
          refine rd_nil ?_
          refine ap S96 w42 r43 g105 (fun H106 c107 w108 => ?_)
          have r109 := r43.snoc (show qS.r K F92 _ ("<digits>" : Str) from rfl)
          have S110 := S96.call1 c107 w42
          have w56 := w56.call c107 (by intro z; exact ne7 z)
          have r109 := Row.mono c107.le r109
          cases hm46
          exact ⟨F92, _, _, _, _, rfl, S110, w56, w108, r109⟩
        · skip
          refine rd_ifS ?_
          refine rd_or ?_
          refine rd_test ?_
          refine rd_op ?_
          refine rd_v rfl ?_
          refine rd_c ?_
          refine rd_I0 ?_
          refine rd_b ?_
          refine or_p (by intro _ Q' q; refine rd_tB ?_; refine rd_v rfl ?_; refine rd_b ?_; exact q) ?_
          refine if_b hm46 (fun b111 hm46 => ?_) (fun b111 hm46 => ?_)
          · skip
            obtain ⟨g112, hm46⟩ := gd_some hm46
            refine rd_drop ?_
            refine rd_bm ?_
            refine rd_v rfl ?_
            refine rd_ty w42.ty ?_
            refine rd_cons ?_
            refine rd_c ?_
            refine rd_nil ?_
            refine ap S96 w42 r43 g112 (fun H113 c114 w115 => ?_)
            have r116 := r43.snoc (show qS.r K F92 _ ("<word>" : Str) from rfl)
            have S117 := S96.call1 c114 w42
            have w56 := w56.call c114 (by intro z; exact ne7 z)
            have r116 := Row.mono c114.le r116
            cases hm46
            exact ⟨F92, _, _, _, _, rfl, S117, w56, w115, r116⟩
          · skip
            obtain ⟨t118, e119, hm46⟩ := bd_some hm46
            refine rd_drop ?_
            refine rd_bm ?_
            refine rd_v rfl ?_
            refine rd_ty w42.ty ?_
            refine rd_cons ?_
            refine rd_call ?_
            refine rd_cons ?_
            refine rd_v rfl ?_
            refine rd_nil ?_
            refine ⟨F92, _, _, t118, rfl, S96.sub, w56.arg, e119, fun v123 F120 H121 c122 w125 f124 => ?_⟩
            have S126 := S96.call1 c122 w56
            have r43 := Row.mono c122.le r43
            have w42 := w42.call c122 (by intro z; exact (Ne.symm ne7) z)
            have w127 := w56.back w125
            cases (show v123 = (V.str (t118.1)) from f124)
            obtain ⟨g128, hm46⟩ := gd_some hm46
            refine rd_nil ?_
            refine ap S126 w42 r43 g128 (fun H129 c130 w131 => ?_)
            have r132 := r43.snoc (show qS.r K F120 _ t118.1 from rfl)
            have S133 := S126.call1 c130 w42
            have w127 := w127.call c130 (by intro z; exact ne7 z)
            have r132 := Row.mono c130.le r132
            cases hm46
            exact ⟨F120, _, _, _, _, rfl, S133, w127, w131, r132⟩
    · skip
      rintro σ134 H135 ⟨F136, o138, o139, o140, v141, rfl, S137, w142, w143, r144⟩
      have S145 := S18.call S137 (by
          rintro a (rfl | rfl)
          · exact w19.mine.symm
          · exact w5.mine.symm)
      have w146 : Ow (fun a => a = p__law_pool_here) H0 _ _ _ _ := ⟨w142.fr, w142.at_, w19.mine⟩
      have w147 : Ow (fun a => a = p__law_pool_here) H0 _ _ _ _ := ⟨w143.fr, w143.at_, w5.mine⟩
      obtain ⟨F148, S149, le150, f151, _, eq152⟩ := fz S145 w147 z8 r144
      have w146 := w146.fzO ne7 eq152
      cases hm
      refine rd_ret ?_
      refine rd_v rfl ?_
      exact hQ _ _ _ S149 w146 f151
def sp_law_takes (K : PySem.W.Frag) : Sp := fun vs H Q _ => ∃ (F : Hp) (a__law_part : Str) (a__law_sign : Str) (r : Bool), vs = [(V.str (a__law_part)), (V.str (a__law_sign))] ∧ Same F H ∧ m_law_takes a__law_part a__law_sign = some r ∧ ∀ v F' H', Sx P0 F H F' H' → qB.r K F' v r → Q v H'
theorem sc_law_takes : FnScope ["_law_part", "_law_sign"] ["_law_part", "_law_sign"] (defScope s_law_takes) := ⟨rfl, rfl, rfl, by decide +kernel, rfl, by decide +kernel, by decide +kernel⟩
theorem bn_law_takes (T : Tx K mg) : Binds K (fdOf K ("_law_takes", none)) ["_law_part", "_law_sign"] [] := FunD.bindsN T.F__law_takes fun _ _ _ _ _ _ us hl => match us, hl with | [_, _], _ => rfl
theorem ok_law_takes (T : Tx K mg) : FnOk P w K mg base CX0 1 (He.ga K "_law_takes") (fdOf K ("_law_takes", none)) ["_law_part", "_law_sign"] (sp_law_takes K) := by
  refine FunD.ok T.F__law_takes sc_law_takes (fun vs H0 Q E h => ?_) (fun cdv A outer s H0 vs Q E hr h => ?_)
  · obtain ⟨_, _, _, _, rfl, _⟩ := h
    rfl
  · obtain ⟨F0, a__law_part, a__law_sign, r, rfl, hE, hm, hQ⟩ := h
    refine ⟨_, PSs.nox ((pss_cons (ps_if (pt_cmpR op_eqS (pv 0) pe_str (nomark _)) (pss_one (ps_ret (pe_cmpR op_inS (pv 1) pe_str rfl))) pss_nil) (pss_one (ps_ret (pe_and (pe_cmpR op_eqS (pv 0) pe_str (nomark _)) (pe_one (pe_cmpR op_inS (pv 1) pe_str rfl))))))), ?_⟩
    have S : Sx P0 F0 H0 F0 H0 := Sx.refl0 hE
    unfold m_law_takes at hm
    refine rd_seq ?_
    refine rd_ifS ?_
    refine rd_test ?_
    refine rd_op ?_
    refine rd_v rfl ?_
    refine rd_c ?_
    refine rd_S0 ?_
    refine rd_b ?_
    refine if_b hm (fun b1 hm => ?_) (fun b1 hm => ?_)
    · skip
      cases hm
      refine rd_ret ?_
      refine rd_op ?_
      refine rd_v rfl ?_
      refine rd_c ?_
      refine rd_inSS ?_
      exact hQ _ _ _ S rfl
    · skip
      cases hm
      refine rd_next ?_
      refine rd_ret ?_
      refine rd_andV ?_
      refine rd_op ?_
      refine rd_v rfl ?_
      refine rd_c ?_
      refine rd_S0 ?_
      refine rd_b ?_
      refine andV_p (by intro _ Q' q; refine rd_op ?_; refine rd_v rfl ?_; refine rd_c ?_; refine rd_inSS ?_; exact q) ?_
      exact hQ _ _ _ S rfl
def sp_law_ends (K : PySem.W.Frag) : Sp := fun vs H Q _ => ∃ (F : Hp) (a__law_part : Str) (a__law_line_here : Str) (a__law_at : Int) (r : (List Int)), vs = [(V.str (a__law_part)), (V.str (a__law_line_here)), (V.int (a__law_at))] ∧ Same F H ∧ m_law_ends a__law_part a__law_line_here a__law_at = some r ∧ ∀ v F' H', Sx P0 F H F' H' → (qL qI).r K F' v r → Q v H'
theorem sc_law_ends : FnScope ["_law_part", "_law_line_here", "_law_at", "_law_found", "_law_end"] ["_law_part", "_law_line_here", "_law_at"] (defScope s_law_ends) := ⟨rfl, rfl, rfl, by decide +kernel, rfl, by decide +kernel, by decide +kernel⟩
theorem bn_law_ends (T : Tx K mg) : Binds K (fdOf K ("_law_ends", none)) ["_law_part", "_law_line_here", "_law_at"] [] := FunD.bindsN T.F__law_ends fun _ _ _ _ _ _ us hl => match us, hl with | [_, _, _], _ => rfl
theorem ok_law_ends (T : Tx K mg) : FnOk P w K mg base CX0 2 (He.ga K "_law_ends") (fdOf K ("_law_ends", none)) ["_law_part", "_law_line_here", "_law_at"] (sp_law_ends K) := by
  refine FunD.ok T.F__law_ends sc_law_ends (fun vs H0 Q E h => ?_) (fun cdv A outer s H0 vs Q E hr h => ?_)
  · obtain ⟨_, _, _, _, _, rfl, _⟩ := h
    rfl
  · obtain ⟨F0, a__law_part, a__law_line_here, a__law_at, r, rfl, hE, hm, hQ⟩ := h
    refine ⟨_, PSs.nox ((pss_cons (ps_if (pt_cmpR op_eqS (pv 0) pe_str (nomark _)) (pss_one (ps_ret (pe_listRg rfl (by rfl) T.n_list (prg_2 (by rfl) T.n_range (pv 2) (pe_op op_add (pe_callB cr_lenS (by rfl) T.n_len (by decide +kernel) (pa_cons (pv 1) pa_nil)) pe_int))))) pss_nil) (pss_cons (ps_set (i := 3) sc_law_ends.nd rfl (by first | exact Or.inl rfl | exact Or.inr rfl) (pe_lst pa_nil)) (C8.pss_cut (ps_if (pt_cmpR (r := rIn K false) op_in_seq (pv 0) (pe_tup (pa_cons pe_str (pa_cons pe_str pa_nil))) rfl) (pss_cons (ps_set (i := 4) sc_law_ends.nd rfl (by first | exact Or.inl rfl | exact Or.inr rfl) (pv 2)) (pss_one (ps_while PassesOwn.never (PW.pt (pw_and (pt_cmpR op_lt (pv 4) (pe_callB cr_lenS (by rfl) T.n_len (by decide +kernel) (pa_cons (pv 1) pa_nil)) (nomark _)) (pw_and1 (pt_val (pe_call (ok_law_takes T) (hr.mono (by decide)) (by rfl) T.g__law_takes T.F__law_takes.kp (bn_law_takes T) .nil pass0 (pa_cons (pv 0) (pa_cons (pe_ix ix_str (pv 1) (pv 4) (fun _ _ => rfl)) pa_nil))))))) (pss_cons (ps_set (i := 4) sc_law_ends.nd rfl (by first | exact Or.inl rfl | exact Or.inr rfl) (pe_op op_add (pv 4) pe_int)) (pss_one (ps_expr (pe_bm PySem.F.plainAttrs_list PySem.F.slot_list_append PySem.F.type_list_append mt_append (pv 3) (pa_cons (pv 4) pa_nil)))))))) (pss_one (ps_if (pt_cmpR op_eqS (pe_slice sl_str (pv 1) (po_some (pv 2)) (po_some (pe_op op_add (pv 2) (pe_callB cr_lenS (by rfl) T.n_len (by decide +kernel) (pa_cons (pv 0) pa_nil))))) (pv 0) (nomark _)) (pss_one (ps_expr (pe_bm PySem.F.plainAttrs_list PySem.F.slot_list_append PySem.F.type_list_append mt_append (pv 3) (pa_cons (pe_op op_add (pv 2) (pe_callB cr_lenS (by rfl) T.n_len (by decide +kernel) (pa_cons (pv 0) pa_nil))) pa_nil)))) pss_nil))) (pss_one (ps_ret (pv 3))))))), ?_⟩
    have S : Sx P0 F0 H0 F0 H0 := Sx.refl0 hE
    unfold m_law_ends at hm
    refine rd_seq ?_
    refine rd_ifS ?_
    refine rd_test ?_
    refine rd_op ?_
    refine rd_v rfl ?_
    refine rd_c ?_
    refine rd_S0 ?_
    refine rd_b ?_
    refine if_b hm (fun b1 hm => ?_) (fun b1 hm => ?_)
    · skip
      obtain ⟨g2, hm⟩ := gd_some hm
      obtain ⟨g3, hm⟩ := gd_some hm
      refine rd_ret ?_
      refine rd_lrg ?_
      refine rd_g2 ?_
      refine rd_v rfl ?_
      refine rd_op ?_
      refine rd_cb ?_
      refine rd_cons ?_
      refine rd_v rfl ?_
      refine rd_nil ?_
      refine rd_lenS g2 ?_
      refine rd_c ?_
      refine rd_I0 ?_
      refine rd_g2i ?_
      refine rd_lrgE (K := K) (F := F0) g3 ?_
      refine alL' S (fun v4 F5 H6 c7 f8 => ?_)
      have S9 := S.call0 c7
      cases hm
      exact hQ _ _ _ S9 f8
    · skip
      refine rd_next ?_
      refine rd_seq ?_
      refine rd_asg ?_
      refine rd_lst ?_
      refine rd_nil ?_
      refine rd_lK rfl ?_
      refine al S (fun p10 H11 np12 c13 w14 => ?_)
      have z16 := S.free0 np12
      have S17 := S.call0 c13
      have r18 : Row qI K F0 [] ([] : List Int) := .nil
      obtain ⟨t19, e20, hm⟩ := bd_some hm
      refine rd_gn ?_
      refine rd_cut (fun σ' H' => ∃ (F : Hp) (o4 : Option V) (vs0 : List V), σ' = [some (V.str (a__law_part)), some (V.str (a__law_line_here)), some (V.int (a__law_at)), some (V.ref p10), o4] ∧ Sx (fun a => a = p10) F0 H11 F H' ∧ Ow (fun a => a = p10) H11 F H' p10 (.lst vs0) ∧ Row qI K F vs0 t19) ?_ ?_
      · skip
        have S21 : Sx (fun a => a = p10) _ _ _ _ := Sx.refl S17.sub (fun a z => by rw [z, w14.at_]; exact (fun h => nomatch h))
        have w22 : Ow (fun a => a = p10) H11 _ _ _ _ := ⟨w14.fr, w14.at_, .inr (rfl)⟩
        refine rd_ifS ?_
        refine rd_test ?_
        refine rd_op ?_
        refine rd_v rfl ?_
        refine rd_tup ?_
        refine rd_cons ?_
        refine rd_c ?_
        refine rd_cons ?_
        refine rd_c ?_
        refine rd_nil ?_
        refine rd_uK rfl ?_
        refine alT (K := K) (A := qS) (xs := [("<digits>" : Str), ("<word>" : Str)]) S21 (.cons rfl (.cons rfl .nil)) (fun v23 F24 H25 c26 f27 => ?_)
        have S28 := S21.call0 c26
        have r18 := Row.mono c26.le r18
        have w22 := w22.call0 c26
        refine rd_inS (S28.t f27).q ?_
        refine rd_b ?_
        refine if_b e20 (fun b29 e20 => ?_) (fun b29 e20 => ?_)
        · skip
          obtain ⟨t30, e31, e20⟩ := bd_some e20
          refine rd_seq ?_
          refine rd_asg ?_
          refine rd_v rfl ?_
          refine rd_gn ?_
          refine rd_whileS e31 (fun (s32 : ((List Int) × Int)) σ H => ∃ (F : Hp) (vs0 : List V), σ = [some (V.str (a__law_part)), some (V.str (a__law_line_here)), some (V.int (a__law_at)), some (V.ref p10), some (V.int (s32.2))] ∧ Sx (fun a => a = p10) F24 H25 F H ∧ Ow (fun a => a = p10) H25 F H p10 (.lst vs0) ∧ Row qI K F vs0 s32.1) ?_ ?_ ?_ ?_
          · skip
            have S33 : Sx (fun a => a = p10) _ _ _ _ := Sx.refl S28.sub (fun a z => by rw [z, w22.at_]; exact (fun h => nomatch h))
            have w34 : Ow (fun a => a = p10) H25 _ _ _ _ := ⟨w22.fr, w22.at_, .inr (rfl)⟩
            exact ⟨F24, _, rfl, S33, w34, r18⟩
          · skip
            rintro s35 b36 σ37 H38 T39 E40 ⟨F44, v46, rfl, S45, w47, r48⟩ hm43 hT41 hE42
            unfold m_law_ends_b1 at hm43
            obtain ⟨g49, hm43⟩ := gd_some hm43
            obtain ⟨t60, e61, hm43⟩ := bd_some hm43
            refine rd_and ?_
            refine rd_test ?_
            refine rd_op ?_
            refine rd_v rfl ?_
            refine rd_cb ?_
            refine rd_cons ?_
            refine rd_v rfl ?_
            refine rd_nil ?_
            refine rd_lenS g49 ?_
            refine rd_I0 ?_
            refine rd_b ?_
            refine and_j (fun c H' => c = t60 ∧ ∃ F', Sx P0 F44 H38 F' H') ?_ ?_ ?_
            · intro b62 Q63 q64
              have e61 := if_t e61 b62
              have S65 := Sx.refl0 S45.sub
              obtain ⟨t66, e67, e61⟩ := bd_some e61
              obtain ⟨t68, e69, e61⟩ := bd_some e61
              refine rd_tB ?_
              refine rd_call ?_
              refine rd_cons ?_
              refine rd_v rfl ?_
              refine rd_cons ?_
              refine rd_op ?_
              refine rd_v rfl ?_
              refine rd_v rfl ?_
              refine rd_ixS e67 ?_
              refine rd_nil ?_
              refine ⟨F44, _, _, t68, rfl, S65.sub, e69, fun v73 F70 H71 c72 f74 => ?_⟩
              have S75 := S65.call0 c72
              have r48 := Row.mono c72.le r48
              have w47 := w47.call0 c72
              cases (show v73 = (V.bl (t68)) from f74)
              cases e61
              refine rd_b ?_
              exact q64 _ _ ⟨rfl, F70, S75⟩
            · intro b62
              have e61 := if_f e61 b62
              cases e61
              have S76 := Sx.refl0 S45.sub
              exact ⟨rfl, F44, S76⟩
            rintro b80 H78 ⟨rfl, F77, c79⟩
            have S81 := S45.call0 c79
            have r48 := Row.mono c79.le r48
            have w47 := w47.call0 c79
            refine if_j (fun b82 => ?_) (fun b82 => ?_)
            · cases hm43; exact hT41 _ _ b82 ⟨F77, _, rfl, S81, w47, r48⟩
            · cases hm43; exact hE42 _ _ b82 ⟨F77, _, rfl, S81, w47, r48⟩
          · skip
            rintro s83 s84 σ85 H86 ⟨F88, v90, rfl, S89, w91, r92⟩ hm87
            unfold m_law_ends_b2 at hm87
            obtain ⟨g93, hm87⟩ := gd_some hm87
            refine rd_seq ?_
            refine rd_asg ?_
            refine rd_op ?_
            refine rd_v rfl ?_
            refine rd_c ?_
            refine rd_I0 ?_
            refine rd_gn ?_
            refine rd_drop ?_
            refine rd_bm ?_
            refine rd_v rfl ?_
            refine rd_ty w91.ty ?_
            refine rd_cons ?_
            refine rd_v rfl ?_
            refine rd_nil ?_
            refine ap S89 w91 r92 g93 (fun H94 c95 w96 => ?_)
            have r97 := r92.snoc (show qI.r K F88 _ (s83.2 + 1) from rfl)
            have S98 := S89.call1 c95 w91
            have r97 := Row.mono c95.le r97
            cases hm87
            exact ⟨F88, _, rfl, S98, w96, r97⟩
          · skip
            rintro σ99 H100 ⟨F101, v103, rfl, S102, w104, r105⟩
            have S106 := S28.call1 S102 w22
            have w107 : Ow (fun a => a = p10) H11 _ _ _ _ := ⟨w104.fr, w104.at_, w22.mine⟩
            cases e20
            exact ⟨F101, _, _, rfl, S106, w107, r105⟩
        · skip
          obtain ⟨g108, e20⟩ := gd_some e20
          obtain ⟨g109, e20⟩ := gd_some e20
          refine rd_ifS ?_
          refine rd_test ?_
          refine rd_op ?_
          refine rd_sl ?_
          refine rd_v rfl ?_
          refine rd_pt ?_
          refine rd_v rfl ?_
          refine rd_i ?_
          refine rd_pt ?_
          refine rd_op ?_
          refine rd_v rfl ?_
          refine rd_cb ?_
          refine rd_cons ?_
          refine rd_v rfl ?_
          refine rd_nil ?_
          refine rd_lenS g108 ?_
          refine rd_I0 ?_
          refine rd_i ?_
          refine rd_slS g109 ?_
          refine rd_v rfl ?_
          refine rd_S0 ?_
          refine rd_b ?_
          refine if_b e20 (fun b110 e20 => ?_) (fun b110 e20 => ?_)
          · skip
            obtain ⟨g111, e20⟩ := gd_some e20
            obtain ⟨g112, e20⟩ := gd_some e20
            refine rd_drop ?_
            refine rd_bm ?_
            refine rd_v rfl ?_
            refine rd_ty w22.ty ?_
            refine rd_cons ?_
            refine rd_op ?_
            refine rd_v rfl ?_
            refine rd_cb ?_
            refine rd_cons ?_
            refine rd_v rfl ?_
            refine rd_nil ?_
            refine rd_lenS g111 ?_
            refine rd_I0 ?_
            refine rd_nil ?_
            refine ap S28 w22 r18 g112 (fun H113 c114 w115 => ?_)
            have r116 := r18.snoc (show qI.r K F24 _ (a__law_at + ((a__law_part).length : Int)) from rfl)
            have S117 := S28.call1 c114 w22
            have r116 := Row.mono c114.le r116
            cases e20
            exact ⟨F24, _, _, rfl, S117, w115, r116⟩
          · skip
            cases e20
            refine rd_next ?_
            exact ⟨F24, _, _, rfl, S28, w22, r18⟩
      · skip
        rintro σ119 H118 ⟨F120, o122, v123, rfl, S121, w124, r125⟩
        have S126 := S17.call1 S121 w14
        have w127 : Ow P0 H0 _ _ _ _ := ⟨w124.fr, w124.at_, w14.mine⟩
        obtain ⟨F128, S129, le130, f131, _, eq132⟩ := fz S126 w127 z16 r125
        cases hm
        refine rd_ret ?_
        refine rd_v rfl ?_
        exact hQ _ _ _ S129 f131
def sp_law_fits (K : PySem.W.Frag) : Sp := fun vs H Q _ => ∃ (F : Hp) (v__law_parts : V) (a__law_parts : (List Str)) (a__law_line_here : Str) (r : Bool), vs = [v__law_parts, (V.str (a__law_line_here))] ∧ Same F H ∧ (qL qS).r K F v__law_parts a__law_parts ∧ m_law_fits a__law_parts a__law_line_here = some r ∧ ∀ v F' H', Sx P0 F H F' H' → qB.r K F' v r → Q v H'
theorem sc_law_fits : FnScope ["_law_parts", "_law_line_here", "_law_places", "_law_part", "_law_more", "_law_at", "_law_end"] ["_law_parts", "_law_line_here"] (defScope s_law_fits) := ⟨rfl, rfl, rfl, by decide +kernel, rfl, by decide +kernel, by decide +kernel⟩
theorem bn_law_fits (T : Tx K mg) : Binds K (fdOf K ("_law_fits", none)) ["_law_parts", "_law_line_here"] [] := FunD.bindsN T.F__law_fits fun _ _ _ _ _ _ us hl => match us, hl with | [_, _], _ => rfl
theorem ok_law_fits (T : Tx K mg) : FnOk P w K mg base CX0 3 (He.ga K "_law_fits") (fdOf K ("_law_fits", none)) ["_law_parts", "_law_line_here"] (sp_law_fits K) := by
  refine FunD.ok T.F__law_fits sc_law_fits (fun vs H0 Q E h => ?_) (fun cdv A outer s H0 vs Q E hr h => ?_)
  · obtain ⟨_, _, _, _, _, rfl, _⟩ := h
    rfl
  · obtain ⟨F0, v__law_parts, a__law_parts, a__law_line_here, r, rfl, hE, f__law_parts, hm, hQ⟩ := h
    refine ⟨_, PSs.nox ((pss_cons (ps_set (i := 2) sc_law_fits.nd rfl (by first | exact Or.inl rfl | exact Or.inr rfl) (pe_lst (pa_cons pe_int pa_nil))) (pss_cons (ps_for PassesOwn.never rfl (pi_list (pv 0)) (pg_name (i := 3) sc_law_fits.nd rfl (by first | exact Or.inl rfl | exact Or.inr rfl)) (pss_cons (ps_set (i := 4) sc_law_fits.nd rfl (by first | exact Or.inl rfl | exact Or.inr rfl) (pe_lst pa_nil)) (pss_cons (ps_for PassesOwn.never rfl (pi_list (pv 2)) (pg_name (i := 5) sc_law_fits.nd rfl (by first | exact Or.inl rfl | exact Or.inr rfl)) (pss_one (ps_set (i := 4) sc_law_fits.nd rfl (by first | exact Or.inl rfl | exact Or.inr rfl) (pe_op op_cat (pv 4) (pe_lc (own := [("_law_end", 6)]) rfl sc_law_fits.nd (pi_list (pe_call (ok_law_ends T) (hr.mono (by decide)) (by rfl) T.g__law_ends T.F__law_ends.kp (bn_law_ends T) .nil pass0 (pa_cons (pv 3) (pa_cons (pv 1) (pa_cons (pv 5) pa_nil))))) (blkOk_by (N := ["_law_parts", "_law_line_here", "_law_places", "_law_part", "_law_more", "_law_at", "_law_end"]) (sc := defScope s_law_fits) (by decide +kernel)) (fun _ _ _ _ _ => pg_name (i := 6) sc_law_fits.nd rfl (Or.inl rfl)) (fun _ _ _ _ _ => (pts_one (pt_cmpR (r := rIn K true) op_notIn_seq (pv 6) (pv 4) rfl))) (fun _ _ _ _ _ => (pv 6))))))) (pss_one (ps_set (i := 2) sc_law_fits.nd rfl (by first | exact Or.inl rfl | exact Or.inr rfl) (pv 4)))))) (pss_one (ps_ret (pe_and (pe_cmpR op_neS (pv 1) pe_str (nomark _)) (pe_one (pe_cmpR (r := rIn K false) op_in_seq (pe_callB cr_lenS (by rfl) T.n_len (by decide +kernel) (pa_cons (pv 1) pa_nil)) (pv 2) rfl)))))))), ?_⟩
    have S : Sx P0 F0 H0 F0 H0 := Sx.refl0 hE
    unfold m_law_fits at hm
    refine rd_seq ?_
    refine rd_asg ?_
    refine rd_lst ?_
    refine rd_cons ?_
    refine rd_c ?_
    refine rd_nil ?_
    refine rd_lK rfl ?_
    refine alL (K := K) (A := qI) (xs := [0]) S (.cons rfl .nil) (fun v1 F2 H3 c4 f5 => ?_)
    have S6 := S.call0 c4
    have f__law_parts := (qL qS).mono c4.le f__law_parts
    refine rd_gn ?_
    refine rd_seq ?_
    refine rd_for ?_
    refine rd_iL ?_
    refine rd_v rfl ?_
    refine rd_wLF S6 (f__law_parts) (fun p7 vs8 hq9 row10 => ?_)
    obtain ⟨t11, e12, hm⟩ := bd_some hm
    refine rd_forS feedsL (typedRow row10) e12 (fun (s13 : (List Int)) σ H => ∃ (F : Hp) (x0 : V) (o3 : Option V) (o4 : Option V) (o5 : Option V) (o6 : Option V), σ = [some v__law_parts, some (V.str (a__law_line_here)), some x0, o3, o4, o5, o6] ∧ Sx P0 F2 H3 F H ∧ (qL qI).r K F x0 s13) ?_ ?_ ?_ ?_
    · rintro _ _ _ ⟨_, _, _, _, _, _, _, S14, _⟩
      exact (Same.seq S14.sub (Same.seq S14.le hq9))
    · skip
      have S15 := Sx.refl0 S6.sub
      exact ⟨F2, _, _, _, _, _, rfl, S15, f5⟩
    · skip
      rintro x16 v17 s18 c22 σ19 H20 f21 ⟨F23, x25, o26, o27, o28, o29, rfl, S24, f30⟩ hm33
      have f__law_parts := (qL qS).mono S24.le f__law_parts
      unfold m_law_fits_b3 at hm33
      cases (show v17 = (V.str (x16)) from f21)
      refine rd_gn ?_
      refine rd_seq ?_
      refine rd_asg ?_
      refine rd_lst ?_
      refine rd_nil ?_
      refine rd_lK rfl ?_
      refine alL (K := K) (A := qI) (xs := ([] : List Int)) S24 .nil (fun v34 F35 H36 c37 f38 => ?_)
      have S39 := S24.call0 c37
      have f__law_parts := (qL qS).mono c37.le f__law_parts
      have f30 := (qL qI).mono c37.le f30
      refine rd_gn ?_
      refine rd_seq ?_
      refine rd_for ?_
      refine rd_iL ?_
      refine rd_v rfl ?_
      refine rd_wLF S39 (f30) (fun p40 vs41 hq42 row43 => ?_)
      obtain ⟨t44, e45, hm33⟩ := bd_some hm33
      refine rd_forS feedsL (typedRow row43) e45 (fun (s46 : (List Int)) σ H => ∃ (F : Hp) (x0 : V) (o5 : Option V) (o6 : Option V), σ = [some v__law_parts, some (V.str (a__law_line_here)), some x25, some (V.str (x16)), some x0, o5, o6] ∧ Sx P0 F35 H36 F H ∧ (qL qI).r K F x0 s46) ?_ ?_ ?_ ?_
      · rintro _ _ _ ⟨_, _, _, _, _, S47, _⟩
        exact (Same.seq S47.sub (Same.seq S47.le hq42))
      · skip
        have S48 := Sx.refl0 S39.sub
        exact ⟨F35, _, _, _, rfl, S48, f38⟩
      · skip
        rintro x49 v50 s51 c55 σ52 H53 f54 ⟨F56, x58, o59, o60, rfl, S57, f61⟩ hm64
        have f__law_parts := (qL qS).mono S57.le f__law_parts
        have f30 := (qL qI).mono S57.le f30
        unfold m_law_fits_b2 at hm64
        cases (show v50 = (V.int (x49)) from f54)
        obtain ⟨t65, e66, hm64⟩ := bd_some hm64
        refine rd_gn ?_
        refine rd_asg ?_
        refine rd_op ?_
        refine rd_v rfl ?_
        refine rd_lc ?_
        refine rd_iL ?_
        refine rd_call ?_
        refine rd_cons ?_
        refine rd_v rfl ?_
        refine rd_cons ?_
        refine rd_v rfl ?_
        refine rd_cons ?_
        refine rd_v rfl ?_
        refine rd_nil ?_
        refine ⟨F56, _, _, _, t65, rfl, S57.sub, e66, fun v70 F67 H68 c69 f71 => ?_⟩
        have S72 := S57.call0 c69
        have f__law_parts := (qL qS).mono c69.le f__law_parts
        have f30 := (qL qI).mono c69.le f30
        have f61 := (qL qI).mono c69.le f61
        refine rd_wLF S72 (f71) (fun p73 vs74 hq75 row76 => ?_)
        obtain ⟨g77, hm64⟩ := gd_some hm64
        obtain ⟨t78, e79, hm64⟩ := bd_some hm64
        refine rd_comp (B := qI) feedsL (typedRow row76) e79 g77 (Pc := P0) (fun _ z => z.elim) S72.sub (fun (s80 : Unit) F H => True) ?_ ?_ ?_ ?_ ?_ ?_
        · intro _ _ _ S81 _
          exact (Same.seq S81.sub (Same.seq S81.le hq75))
        · trivial
        · intros; trivial
        · intros; trivial
        · skip
          intro x82 v83 s84 o85 F86 H87 d88 acc89 f90 S91 w92 w93 n94 hm95 E96 N97 hN98 hE99
          have f__law_parts := (qL qS).mono S91.le f__law_parts
          have f30 := (qL qI).mono S91.le f30
          have f61 := (qL qI).mono S91.le f61
          have S100 := Sx.refl0 S91.sub
          unfold m_law_fits_b1 at hm95
          cases (show v83 = (V.int (x82)) from f90)
          refine rd_gn ?_
          refine rd_wp rfl ?_
          refine rd_test ?_
          refine rd_op ?_
          refine rd_v rfl ?_
          refine rd_v rfl ?_
          refine rd_niI (S100.l f61).r.q ?_
          refine rd_b ?_
          refine if_b hm95 (fun b101 hm95 => ?_) (fun b101 hm95 => ?_)
          · skip
            cases hm95
            refine rd_v rfl ?_
            exact hN98 _ _ _ _ rfl S100 rfl trivial
          · skip
            cases hm95
            exact hE99 _ _ rfl S100 trivial
        intro p102 us103 F104 H105 n106 c107 w108 w109 r110
        have z111 := S72.free0 n106
        have S112 := S72.call0 c107
        have f__law_parts := (qL qS).mono c107.le f__law_parts
        have f30 := (qL qI).mono c107.le f30
        have f61 := (qL qI).mono c107.le f61
        have w113 : Ow P0 H36 _ _ _ _ := ⟨w109.fr, w109.at_, .inl z111⟩
        obtain ⟨F114, S115, le116, f117, _, eq118⟩ := fz S112 w113 z111 r110
        have f__law_parts := (qL qS).mono le116 f__law_parts
        have f30 := (qL qI).mono le116 f30
        have f61 := (qL qI).mono le116 f61
        obtain ⟨g119, hm64⟩ := gd_some hm64
        refine rd_cat (S115.l f61) (S115.l f117) g119 ?_
        refine alL' S115 (fun v120 F121 H122 c123 f124 => ?_)
        have S125 := S115.call0 c123
        have f__law_parts := (qL qS).mono c123.le f__law_parts
        have f30 := (qL qI).mono c123.le f30
        have f61 := (qL qI).mono c123.le f61
        cases hm64
        refine rd_gn ?_
        exact ⟨F121, _, _, _, rfl, S125, f124⟩
      · skip
        rintro σ126 H127 ⟨F128, x130, o131, o132, rfl, S129, f133⟩
        have S134 := S39.call0 S129
        have f__law_parts := (qL qS).mono S129.le f__law_parts
        have f30 := (qL qI).mono S129.le f30
        cases hm33
        refine rd_asg ?_
        refine rd_v rfl ?_
        refine rd_gn ?_
        exact ⟨F128, _, _, _, _, _, rfl, S134, f133⟩
    · skip
      rintro σ135 H136 ⟨F137, x139, o140, o141, o142, o143, rfl, S138, f144⟩
      have S145 := S6.call0 S138
      have f__law_parts := (qL qS).mono S138.le f__law_parts
      obtain ⟨t147, e148, hm⟩ := bd_some hm
      refine rd_ret ?_
      refine rd_andV ?_
      refine rd_op ?_
      refine rd_v rfl ?_
      refine rd_c ?_
      refine rd_S0 ?_
      refine rd_b ?_
      refine andV_j (fun c H' => c = V.bl t147 ∧ ∃ F', Sx P0 F137 H136 F' H') ?_ ?_ ?_
      · intro b149 Q150 q151
        have e148 := if_t e148 b149
        have S152 := Sx.refl0 S145.sub
        obtain ⟨g153, e148⟩ := gd_some e148
        cases e148
        refine rd_op ?_
        refine rd_cb ?_
        refine rd_cons ?_
        refine rd_v rfl ?_
        refine rd_nil ?_
        refine rd_lenS g153 ?_
        refine rd_v rfl ?_
        refine rd_inI (S152.l f144).r.q ?_
        exact q151 _ _ ⟨rfl, F137, S152⟩
      · intro b149
        have e148 := if_f e148 b149
        cases e148
        have S154 := Sx.refl0 S145.sub
        exact ⟨rfl, F137, S154⟩
      rintro b158 H156 ⟨rfl, F155, c157⟩
      have S159 := S145.call0 c157
      have f__law_parts := (qL qS).mono c157.le f__law_parts
      have f144 := (qL qI).mono c157.le f144
      cases hm
      exact hQ _ _ _ S159 rfl
def sp_law_line (K : PySem.W.Frag) : Sp := fun vs H Q _ => ∃ (F : Hp) (p__law_pool_here : Addr) (a__law_pool_here : Int × Int) (v__law_parts : V) (a__law_parts : (List Str)) (r : (Str × (Int × Int))), vs = [.ref p__law_pool_here, v__law_parts] ∧ Same F H ∧ Ow (fun a => a = p__law_pool_here) H F H p__law_pool_here (.lst [.int a__law_pool_here.1, .int a__law_pool_here.2]) ∧ (qL qS).r K F v__law_parts a__law_parts ∧ m_law_line a__law_pool_here a__law_parts = some r ∧ ∀ v F' H', Sx (fun a => a = p__law_pool_here) F H F' H' → Ow (fun a => a = p__law_pool_here) H F' H' p__law_pool_here (.lst [.int r.2.1, .int r.2.2]) → qS.r K F' v r.1 → Q v H'
theorem sc_law_line : FnScope ["_law_pool_here", "_law_parts", "_law_line_here", "_law_part"] ["_law_pool_here", "_law_parts"] (defScope s_law_line) := ⟨rfl, rfl, rfl, by decide +kernel, rfl, by decide +kernel, by decide +kernel⟩
theorem bn_law_line (T : Tx K mg) : Binds K (fdOf K ("_law_line", none)) ["_law_pool_here", "_law_parts"] [] := FunD.bindsN T.F__law_line fun _ _ _ _ _ _ us hl => match us, hl with | [_, _], _ => rfl
theorem ok_law_line (T : Tx K mg) : FnOk P w K mg base CX0 3 (He.ga K "_law_line") (fdOf K ("_law_line", none)) ["_law_pool_here", "_law_parts"] (sp_law_line K) := by
  refine FunD.ok T.F__law_line sc_law_line (fun vs H0 Q E h => ?_) (fun cdv A outer s H0 vs Q E hr h => ?_)
  · obtain ⟨_, _, _, _, _, _, rfl, _⟩ := h
    rfl
  · obtain ⟨F0, p__law_pool_here, a__law_pool_here, v__law_parts, a__law_parts, r, rfl, hE, w__law_pool_here, f__law_parts, hm, hQ⟩ := h
    refine ⟨_, PSs.nox ((pss_cons (ps_set (i := 2) sc_law_line.nd rfl (by first | exact Or.inl rfl | exact Or.inr rfl) pe_str) (pss_cons (ps_for PassesOwn.never rfl (pi_list (pv 1)) (pg_name (i := 3) sc_law_line.nd rfl (by first | exact Or.inl rfl | exact Or.inr rfl)) (pss_one (ps_if (pt_cmpR op_eqS (pv 3) pe_str (nomark _)) (pss_one (ps_set (i := 2) sc_law_line.nd rfl (by first | exact Or.inl rfl | exact Or.inr rfl) (pe_op op_catS (pv 2) (pe_op op_repS (pe_ix ix_str pe_str (pe_call (ok_law_take T) (hr.mono (by decide)) (by rfl) T.g__law_take T.F__law_take.kp (bn_law_take T) .nil pass0 (pa_cons (pv 0) (pa_cons pe_int pa_nil))) (fun _ _ => rfl)) (pe_op op_add pe_int (pe_call (ok_law_take T) (hr.mono (by decide)) (by rfl) T.g__law_take T.F__law_take.kp (bn_law_take T) .nil pass0 (pa_cons (pv 0) (pa_cons pe_int pa_nil)))))))) (pss_one (ps_if (pt_cmpR op_eqS (pv 3) pe_str (nomark _)) (pss_one (ps_set (i := 2) sc_law_line.nd rfl (by first | exact Or.inl rfl | exact Or.inr rfl) (pe_op op_catS (pv 2) (pe_op op_repS (pe_ix ix_str pe_str (pe_call (ok_law_take T) (hr.mono (by decide)) (by rfl) T.g__law_take T.F__law_take.kp (bn_law_take T) .nil pass0 (pa_cons (pv 0) (pa_cons pe_int pa_nil))) (fun _ _ => rfl)) (pe_op op_add pe_int (pe_call (ok_law_take T) (hr.mono (by decide)) (by rfl) T.g__law_take T.F__law_take.kp (bn_law_take T) .nil pass0 (pa_cons (pv 0) (pa_cons pe_int pa_nil)))))))) (pss_one (ps_if (pt_cmpR op_eqS (pv 3) pe_str (nomark _)) (pss_one (ps_set (i := 2) sc_law_line.nd rfl (by first | exact Or.inl rfl | exact Or.inr rfl) (pe_op op_catS (pv 2) (pe_op op_repS (pe_call (ok_law_text T) (hr.mono (by decide)) (by rfl) T.g__law_text T.F__law_text.kp (bn_law_text T) .nil pass0 (pa_cons (pv 0) pa_nil)) (pe_call (ok_law_take T) (hr.mono (by decide)) (by rfl) T.g__law_take T.F__law_take.kp (bn_law_take T) .nil pass0 (pa_cons (pv 0) (pa_cons pe_int pa_nil))))))) (pss_one (ps_set (i := 2) sc_law_line.nd rfl (by first | exact Or.inl rfl | exact Or.inr rfl) (pe_op op_catS (pv 2) (pv 3))))))))))) (pss_one (ps_ret (pv 2)))))), ?_⟩
    have S : Sx (fun a => a = p__law_pool_here) F0 H0 F0 H0 := Sx.refl hE (live1 w__law_pool_here)
    unfold m_law_line at hm
    refine rd_seq ?_
    refine rd_asg ?_
    refine rd_c ?_
    refine rd_gn ?_
    refine rd_seq ?_
    refine rd_for ?_
    refine rd_iL ?_
    refine rd_v rfl ?_
    refine rd_wLF S (f__law_parts) (fun p1 vs2 hq3 row4 => ?_)
    obtain ⟨t5, e6, hm⟩ := bd_some hm
    refine rd_forS feedsL (typedRow row4) e6 (fun (s7 : ((Int × Int) × Str)) σ H => ∃ (F : Hp) (o3 : Option V), σ = [some (V.ref p__law_pool_here), some v__law_parts, some (V.str (s7.2)), o3] ∧ Sx (fun a => a = p__law_pool_here) F0 H0 F H ∧ Ow (fun a => a = p__law_pool_here) H0 F H p__law_pool_here (.lst [V.int s7.1.1, V.int s7.1.2])) ?_ ?_ ?_ ?_
    · rintro _ _ _ ⟨_, _, _, S8, _⟩
      exact (Same.seq S8.sub (Same.seq S8.le hq3))
    · skip
      have S9 : Sx (fun a => a = p__law_pool_here) _ _ _ _ := Sx.refl S.sub (fun a z => by rw [z, w__law_pool_here.at_]; exact (fun h => nomatch h))
      have w10 : Ow (fun a => a = p__law_pool_here) H0 _ _ _ _ := ⟨w__law_pool_here.fr, w__law_pool_here.at_, .inr (rfl)⟩
      exact ⟨F0, _, rfl, S9, w10⟩
    · skip
      rintro x11 v12 s13 c17 σ14 H15 f16 ⟨F18, o20, rfl, S19, w21⟩ hm24
      have f__law_parts := (qL qS).mono S19.le f__law_parts
      unfold m_law_line_b1 at hm24
      cases (show v12 = (V.str (x11)) from f16)
      refine rd_gn ?_
      refine rd_ifS ?_
      refine rd_test ?_
      refine rd_op ?_
      refine rd_v rfl ?_
      refine rd_c ?_
      refine rd_S0 ?_
      refine rd_b ?_
      refine if_b hm24 (fun b25 hm24 => ?_) (fun b25 hm24 => ?_)
      · skip
        obtain ⟨t26, e27, hm24⟩ := bd_some hm24
        refine rd_asg ?_
        refine rd_op ?_
        refine rd_v rfl ?_
        refine rd_op ?_
        refine rd_op ?_
        refine rd_c ?_
        refine rd_call ?_
        refine rd_cons ?_
        refine rd_v rfl ?_
        refine rd_cons ?_
        refine rd_c ?_
        refine rd_nil ?_
        refine ⟨F18, _, _, _, t26, rfl, S19.sub, w21.arg, e27, fun v31 F28 H29 c30 w33 f32 => ?_⟩
        have S34 := S19.call1 c30 w21
        have f__law_parts := (qL qS).mono c30.le f__law_parts
        have w35 := w21.back w33
        cases (show v31 = (V.int (t26.1)) from f32)
        obtain ⟨t36, e37, hm24⟩ := bd_some hm24
        obtain ⟨t38, e39, hm24⟩ := bd_some hm24
        refine rd_ixS e37 ?_
        refine rd_op ?_
        refine rd_c ?_
        refine rd_call ?_
        refine rd_cons ?_
        refine rd_v rfl ?_
        refine rd_cons ?_
        refine rd_c ?_
        refine rd_nil ?_
        refine ⟨F28, _, _, _, t38, rfl, S34.sub, w35.arg, e39, fun v43 F40 H41 c42 w45 f44 => ?_⟩
        have S46 := S34.call1 c42 w35
        have f__law_parts := (qL qS).mono c42.le f__law_parts
        have w47 := w35.back w45
        cases (show v43 = (V.int (t38.1)) from f44)
        obtain ⟨g48, hm24⟩ := gd_some hm24
        obtain ⟨g49, hm24⟩ := gd_some hm24
        cases hm24
        refine rd_I0 ?_
        refine rd_repS g48 ?_
        refine rd_catS g49 ?_
        refine rd_gn ?_
        exact ⟨F40, _, rfl, S46, w47⟩
      · skip
        refine rd_ifS ?_
        refine rd_test ?_
        refine rd_op ?_
        refine rd_v rfl ?_
        refine rd_c ?_
        refine rd_S0 ?_
        refine rd_b ?_
        refine if_b hm24 (fun b50 hm24 => ?_) (fun b50 hm24 => ?_)
        · skip
          obtain ⟨t51, e52, hm24⟩ := bd_some hm24
          refine rd_asg ?_
          refine rd_op ?_
          refine rd_v rfl ?_
          refine rd_op ?_
          refine rd_op ?_
          refine rd_c ?_
          refine rd_call ?_
          refine rd_cons ?_
          refine rd_v rfl ?_
          refine rd_cons ?_
          refine rd_c ?_
          refine rd_nil ?_
          refine ⟨F18, _, _, _, t51, rfl, S19.sub, w21.arg, e52, fun v56 F53 H54 c55 w58 f57 => ?_⟩
          have S59 := S19.call1 c55 w21
          have f__law_parts := (qL qS).mono c55.le f__law_parts
          have w60 := w21.back w58
          cases (show v56 = (V.int (t51.1)) from f57)
          obtain ⟨t61, e62, hm24⟩ := bd_some hm24
          obtain ⟨t63, e64, hm24⟩ := bd_some hm24
          refine rd_ixS e62 ?_
          refine rd_op ?_
          refine rd_c ?_
          refine rd_call ?_
          refine rd_cons ?_
          refine rd_v rfl ?_
          refine rd_cons ?_
          refine rd_c ?_
          refine rd_nil ?_
          refine ⟨F53, _, _, _, t63, rfl, S59.sub, w60.arg, e64, fun v68 F65 H66 c67 w70 f69 => ?_⟩
          have S71 := S59.call1 c67 w60
          have f__law_parts := (qL qS).mono c67.le f__law_parts
          have w72 := w60.back w70
          cases (show v68 = (V.int (t63.1)) from f69)
          obtain ⟨g73, hm24⟩ := gd_some hm24
          obtain ⟨g74, hm24⟩ := gd_some hm24
          cases hm24
          refine rd_I0 ?_
          refine rd_repS g73 ?_
          refine rd_catS g74 ?_
          refine rd_gn ?_
          exact ⟨F65, _, rfl, S71, w72⟩
        · skip
          refine rd_ifS ?_
          refine rd_test ?_
          refine rd_op ?_
          refine rd_v rfl ?_
          refine rd_c ?_
          refine rd_S0 ?_
          refine rd_b ?_
          refine if_b hm24 (fun b75 hm24 => ?_) (fun b75 hm24 => ?_)
          · skip
            obtain ⟨t76, e77, hm24⟩ := bd_some hm24
            refine rd_asg ?_
            refine rd_op ?_
            refine rd_v rfl ?_
            refine rd_op ?_
            refine rd_call ?_
            refine rd_cons ?_
            refine rd_v rfl ?_
            refine rd_nil ?_
            refine ⟨F18, _, _, t76, rfl, S19.sub, w21.arg, e77, fun v81 F78 H79 c80 w83 f82 => ?_⟩
            have S84 := S19.call1 c80 w21
            have f__law_parts := (qL qS).mono c80.le f__law_parts
            have w85 := w21.back w83
            cases (show v81 = (V.str (t76.1)) from f82)
            obtain ⟨t86, e87, hm24⟩ := bd_some hm24
            refine rd_call ?_
            refine rd_cons ?_
            refine rd_v rfl ?_
            refine rd_cons ?_
            refine rd_c ?_
            refine rd_nil ?_
            refine ⟨F78, _, _, _, t86, rfl, S84.sub, w85.arg, e87, fun v91 F88 H89 c90 w93 f92 => ?_⟩
            have S94 := S84.call1 c90 w85
            have f__law_parts := (qL qS).mono c90.le f__law_parts
            have w95 := w85.back w93
            cases (show v91 = (V.int (t86.1)) from f92)
            obtain ⟨g96, hm24⟩ := gd_some hm24
            obtain ⟨g97, hm24⟩ := gd_some hm24
            cases hm24
            refine rd_repS g96 ?_
            refine rd_catS g97 ?_
            refine rd_gn ?_
            exact ⟨F88, _, rfl, S94, w95⟩
          · skip
            obtain ⟨g98, hm24⟩ := gd_some hm24
            cases hm24
            refine rd_asg ?_
            refine rd_op ?_
            refine rd_v rfl ?_
            refine rd_v rfl ?_
            refine rd_catS g98 ?_
            refine rd_gn ?_
            exact ⟨F18, _, rfl, S19, w21⟩
    · skip
      rintro σ99 H100 ⟨F101, o103, rfl, S102, w104⟩
      have S105 := S.call1 S102 w__law_pool_here
      have f__law_parts := (qL qS).mono S102.le f__law_parts
      have w106 : Ow (fun a => a = p__law_pool_here) H0 _ _ _ _ := ⟨w104.fr, w104.at_, w__law_pool_here.mine⟩
      cases hm
      refine rd_ret ?_
      refine rd_v rfl ?_
      exact hQ _ _ _ S105 w106 rfl
def sp_law_spoiled (K : PySem.W.Frag) : Sp := fun vs H Q _ => ∃ (F : Hp) (p__law_pool_here : Addr) (a__law_pool_here : Int × Int) (a__law_line_here : Str) (r : (Str × (Int × Int))), vs = [.ref p__law_pool_here, (V.str (a__law_line_here))] ∧ Same F H ∧ Ow (fun a => a = p__law_pool_here) H F H p__law_pool_here (.lst [.int a__law_pool_here.1, .int a__law_pool_here.2]) ∧ m_law_spoiled a__law_pool_here a__law_line_here = some r ∧ ∀ v F' H', Sx (fun a => a = p__law_pool_here) F H F' H' → Ow (fun a => a = p__law_pool_here) H F' H' p__law_pool_here (.lst [.int r.2.1, .int r.2.2]) → qS.r K F' v r.1 → Q v H'
theorem sc_law_spoiled : FnScope ["_law_pool_here", "_law_line_here", "_law_at", "_law_sign", "_law_way"] ["_law_pool_here", "_law_line_here"] (defScope s_law_spoiled) := ⟨rfl, rfl, rfl, by decide +kernel, rfl, by decide +kernel, by decide +kernel⟩
theorem bn_law_spoiled (T : Tx K mg) : Binds K (fdOf K ("_law_spoiled", none)) ["_law_pool_here", "_law_line_here"] [] := FunD.bindsN T.F__law_spoiled fun _ _ _ _ _ _ us hl => match us, hl with | [_, _], _ => rfl
theorem ok_law_spoiled (T : Tx K mg) : FnOk P w K mg base CX0 2 (He.ga K "_law_spoiled") (fdOf K ("_law_spoiled", none)) ["_law_pool_here", "_law_line_here"] (sp_law_spoiled K) := by
  refine FunD.ok T.F__law_spoiled sc_law_spoiled (fun vs H0 Q E h => ?_) (fun cdv A outer s H0 vs Q E hr h => ?_)
  · obtain ⟨_, _, _, _, _, rfl, _⟩ := h
    rfl
  · obtain ⟨F0, p__law_pool_here, a__law_pool_here, a__law_line_here, r, rfl, hE, w__law_pool_here, hm, hQ⟩ := h
    refine ⟨_, PSs.nox ((pss_cons (ps_set (i := 2) sc_law_spoiled.nd rfl (by first | exact Or.inl rfl | exact Or.inr rfl) (pe_call (ok_law_take T) (hr.mono (by decide)) (by rfl) T.g__law_take T.F__law_take.kp (bn_law_take T) .nil pass0 (pa_cons (pv 0) (pa_cons (pe_op op_add (pe_callB cr_lenS (by rfl) T.n_len (by decide +kernel) (pa_cons (pv 1) pa_nil)) pe_int) pa_nil)))) (pss_cons (ps_set (i := 3) sc_law_spoiled.nd rfl (by first | exact Or.inl rfl | exact Or.inr rfl) (pe_ix ix_str (pe_call0 (ok_law_all_signs T) (hr.mono (by decide)) (by rfl) T.g__law_all_signs T.F__law_all_signs.kp (bn_law_all_signs T) .nil pass0) (pe_call (ok_law_take T) (hr.mono (by decide)) (by rfl) T.g__law_take T.F__law_take.kp (bn_law_take T) .nil pass0 (pa_cons (pv 0) (pa_cons pe_int pa_nil))) (fun _ _ => rfl))) (pss_cons (ps_set (i := 4) sc_law_spoiled.nd rfl (by first | exact Or.inl rfl | exact Or.inr rfl) (pe_call (ok_law_take T) (hr.mono (by decide)) (by rfl) T.g__law_take T.F__law_take.kp (bn_law_take T) .nil pass0 (pa_cons (pv 0) (pa_cons pe_int pa_nil)))) (pss_cons (ps_if (pt_cmpR op_eqI (pv 4) pe_int (nomark _)) (pss_one (ps_ret (pe_op op_catS (pe_op op_catS (pe_slice sl_str (pv 1) po_none (po_some (pv 2))) (pv 3)) (pe_slice sl_str (pv 1) (po_some (pv 2)) po_none)))) pss_nil) (pss_cons (ps_if (pt_cmpR op_eqI (pv 4) pe_int (nomark _)) (pss_one (ps_ret (pe_op op_catS (pe_slice sl_str (pv 1) po_none (po_some (pv 2))) (pe_slice sl_str (pv 1) (po_some (pe_op op_add (pv 2) pe_int)) po_none)))) pss_nil) (pss_cons (ps_if (pt_cmpR op_eqI (pv 4) pe_int (nomark _)) (pss_one (ps_ret (pe_op op_catS (pe_op op_catS (pe_slice sl_str (pv 1) po_none (po_some (pv 2))) (pv 3)) (pe_slice sl_str (pv 1) (po_some (pe_op op_add (pv 2) pe_int)) po_none)))) pss_nil) (pss_one (ps_ret (pv 1)))))))))), ?_⟩
    have S : Sx (fun a => a = p__law_pool_here) F0 H0 F0 H0 := Sx.refl hE (live1 w__law_pool_here)
    unfold m_law_spoiled at hm
    obtain ⟨g1, hm⟩ := gd_some hm
    obtain ⟨t2, e3, hm⟩ := bd_some hm
    refine rd_seq ?_
    refine rd_asg ?_
    refine rd_call ?_
    refine rd_cons ?_
    refine rd_v rfl ?_
    refine rd_cons ?_
    refine rd_op ?_
    refine rd_cb ?_
    refine rd_cons ?_
    refine rd_v rfl ?_
    refine rd_nil ?_
    refine rd_lenS g1 ?_
    refine rd_c ?_
    refine rd_I0 ?_
    refine rd_nil ?_
    refine ⟨F0, _, _, _, t2, rfl, S.sub, w__law_pool_here.arg, e3, fun v7 F4 H5 c6 w9 f8 => ?_⟩
    have S10 := S.call1 c6 w__law_pool_here
    have w11 := w__law_pool_here.back w9
    cases (show v7 = (V.int (t2.1)) from f8)
    obtain ⟨t12, e13, hm⟩ := bd_some hm
    refine rd_gn ?_
    refine rd_seq ?_
    refine rd_asg ?_
    refine rd_op ?_
    refine rd_call ?_
    refine rd_nil ?_
    refine ⟨F4, t12, rfl, S10.sub, e13, fun v17 F14 H15 c16 f18 => ?_⟩
    have S19 := S10.call0 c16
    have w11 := w11.call0 c16
    cases (show v17 = (V.str (t12)) from f18)
    obtain ⟨t20, e21, hm⟩ := bd_some hm
    refine rd_call ?_
    refine rd_cons ?_
    refine rd_v rfl ?_
    refine rd_cons ?_
    refine rd_c ?_
    refine rd_nil ?_
    refine ⟨F14, _, _, _, t20, rfl, S19.sub, w11.arg, e21, fun v25 F22 H23 c24 w27 f26 => ?_⟩
    have S28 := S19.call1 c24 w11
    have w29 := w11.back w27
    cases (show v25 = (V.int (t20.1)) from f26)
    obtain ⟨t30, e31, hm⟩ := bd_some hm
    obtain ⟨t32, e33, hm⟩ := bd_some hm
    refine rd_ixS e31 ?_
    refine rd_gn ?_
    refine rd_seq ?_
    refine rd_asg ?_
    refine rd_call ?_
    refine rd_cons ?_
    refine rd_v rfl ?_
    refine rd_cons ?_
    refine rd_c ?_
    refine rd_nil ?_
    refine ⟨F22, _, _, _, t32, rfl, S28.sub, w29.arg, e33, fun v37 F34 H35 c36 w39 f38 => ?_⟩
    have S40 := S28.call1 c36 w29
    have w41 := w29.back w39
    cases (show v37 = (V.int (t32.1)) from f38)
    refine rd_gn ?_
    refine rd_seq ?_
    refine rd_ifS ?_
    refine rd_test ?_
    refine rd_op ?_
    refine rd_v rfl ?_
    refine rd_c ?_
    refine rd_I0 ?_
    refine rd_b ?_
    refine if_b hm (fun b42 hm => ?_) (fun b42 hm => ?_)
    · skip
      obtain ⟨g43, hm⟩ := gd_some hm
      obtain ⟨g44, hm⟩ := gd_some hm
      obtain ⟨g45, hm⟩ := gd_some hm
      obtain ⟨g46, hm⟩ := gd_some hm
      cases hm
      refine rd_ret ?_
      refine rd_op ?_
      refine rd_op ?_
      refine rd_sl ?_
      refine rd_v rfl ?_
      refine rd_np ?_
      refine rd_pt ?_
      refine rd_v rfl ?_
      refine rd_i ?_
      refine rd_slS g43 ?_
      refine rd_v rfl ?_
      refine rd_catS g44 ?_
      refine rd_sl ?_
      refine rd_v rfl ?_
      refine rd_pt ?_
      refine rd_v rfl ?_
      refine rd_i ?_
      refine rd_np ?_
      refine rd_slS g45 ?_
      refine rd_catS g46 ?_
      exact hQ _ _ _ S40 w41 rfl
    · skip
      refine rd_next ?_
      refine rd_seq ?_
      refine rd_ifS ?_
      refine rd_test ?_
      refine rd_op ?_
      refine rd_v rfl ?_
      refine rd_c ?_
      refine rd_I0 ?_
      refine rd_b ?_
      refine if_b hm (fun b47 hm => ?_) (fun b47 hm => ?_)
      · skip
        obtain ⟨g48, hm⟩ := gd_some hm
        obtain ⟨g49, hm⟩ := gd_some hm
        obtain ⟨g50, hm⟩ := gd_some hm
        cases hm
        refine rd_ret ?_
        refine rd_op ?_
        refine rd_sl ?_
        refine rd_v rfl ?_
        refine rd_np ?_
        refine rd_pt ?_
        refine rd_v rfl ?_
        refine rd_i ?_
        refine rd_slS g48 ?_
        refine rd_sl ?_
        refine rd_v rfl ?_
        refine rd_pt ?_
        refine rd_op ?_
        refine rd_v rfl ?_
        refine rd_c ?_
        refine rd_I0 ?_
        refine rd_i ?_
        refine rd_np ?_
        refine rd_slS g49 ?_
        refine rd_catS g50 ?_
        exact hQ _ _ _ S40 w41 rfl
      · skip
        refine rd_next ?_
        refine rd_seq ?_
        refine rd_ifS ?_
        refine rd_test ?_
        refine rd_op ?_
        refine rd_v rfl ?_
        refine rd_c ?_
        refine rd_I0 ?_
        refine rd_b ?_
        refine if_b hm (fun b51 hm => ?_) (fun b51 hm => ?_)
        · skip
          obtain ⟨g52, hm⟩ := gd_some hm
          obtain ⟨g53, hm⟩ := gd_some hm
          obtain ⟨g54, hm⟩ := gd_some hm
          obtain ⟨g55, hm⟩ := gd_some hm
          cases hm
          refine rd_ret ?_
          refine rd_op ?_
          refine rd_op ?_
          refine rd_sl ?_
          refine rd_v rfl ?_
          refine rd_np ?_
          refine rd_pt ?_
          refine rd_v rfl ?_
          refine rd_i ?_
          refine rd_slS g52 ?_
          refine rd_v rfl ?_
          refine rd_catS g53 ?_
          refine rd_sl ?_
          refine rd_v rfl ?_
          refine rd_pt ?_
          refine rd_op ?_
          refine rd_v rfl ?_
          refine rd_c ?_
          refine rd_I0 ?_
          refine rd_i ?_
          refine rd_np ?_
          refine rd_slS g54 ?_
          refine rd_catS g55 ?_
          exact hQ _ _ _ S40 w41 rfl
        · skip
          cases hm
          refine rd_next ?_
          refine rd_ret ?_
          refine rd_v rfl ?_
          exact hQ _ _ _ S40 w41 rfl
def sp_law_cells (K : PySem.W.Frag) : Sp := fun vs H Q _ => ∃ (F : Hp) (v__law_parts : V) (a__law_parts : (List Str)) (r : (List Str)), vs = [v__law_parts] ∧ Same F H ∧ (qL qS).r K F v__law_parts a__law_parts ∧ m_law_cells a__law_parts = some r ∧ ∀ v F' H', Sx P0 F H F' H' → (qL qS).r K F' v r → Q v H'
theorem sc_law_cells : FnScope ["_law_parts", "_law_cells_here", "_law_part", "_law_sign"] ["_law_parts"] (defScope s_law_cells) := ⟨rfl, rfl, rfl, by decide +kernel, rfl, by decide +kernel, by decide +kernel⟩
theorem bn_law_cells (T : Tx K mg) : Binds K (fdOf K ("_law_cells", none)) ["_law_parts"] [] := FunD.bindsN T.F__law_cells fun _ _ _ _ _ _ us hl => match us, hl with | [_], _ => rfl
theorem ok_law_cells (T : Tx K mg) : FnOk P w K mg base CX0 1 (He.ga K "_law_cells") (fdOf K ("_law_cells", none)) ["_law_parts"] (sp_law_cells K) := by
  refine FunD.ok T.F__law_cells sc_law_cells (fun vs H0 Q E h => ?_) (fun cdv A outer s H0 vs Q E hr h => ?_)
  · obtain ⟨_, _, _, _, rfl, _⟩ := h
    rfl
  · obtain ⟨F0, v__law_parts, a__law_parts, r, rfl, hE, f__law_parts, hm, hQ⟩ := h
    refine ⟨_, PSs.nox ((pss_cons (ps_set (i := 1) sc_law_cells.nd rfl (by first | exact Or.inl rfl | exact Or.inr rfl) (pe_lst pa_nil)) (pss_cons (ps_for PassesOwn.never rfl (pi_list (pv 0)) (pg_name (i := 2) sc_law_cells.nd rfl (by first | exact Or.inl rfl | exact Or.inr rfl)) (pss_one (ps_if (pt_cmpR (r := rIn K false) op_in_seq (pv 2) (pe_tup (pa_cons pe_str (pa_cons pe_str (pa_cons pe_str pa_nil)))) rfl) (pss_one (ps_expr (pe_bm PySem.F.plainAttrs_list PySem.F.slot_list_append PySem.F.type_list_append mt_append (pv 1) (pa_cons (pv 2) pa_nil)))) (pss_one (ps_set (i := 1) sc_law_cells.nd rfl (by first | exact Or.inl rfl | exact Or.inr rfl) (pe_op op_cat (pv 1) (pe_lc (own := [("_law_sign", 3)]) (tt := tYes) rfl sc_law_cells.nd (pi_str (pv 2)) (blkOk_by (N := ["_law_parts", "_law_cells_here", "_law_part", "_law_sign"]) (sc := defScope s_law_cells) (by decide +kernel)) (fun _ _ _ _ _ => pg_name (i := 3) sc_law_cells.nd rfl (Or.inl rfl)) (fun _ _ _ _ _ => pts_nil) (fun _ _ _ _ _ => (pv 3))))))))) (pss_one (ps_ret (pv 1)))))), ?_⟩
    have S : Sx P0 F0 H0 F0 H0 := Sx.refl0 hE
    unfold m_law_cells at hm
    refine rd_seq ?_
    refine rd_asg ?_
    refine rd_lst ?_
    refine rd_nil ?_
    refine rd_lK rfl ?_
    refine al S (fun p1 H2 np3 c4 w5 => ?_)
    have r6 : Row qS K F0 [] ([] : List Str) := .nil
    have z7 := S.free0 np3
    have S8 := S.call0 c4
    have f__law_parts := (qL qS).mono c4.le f__law_parts
    refine rd_gn ?_
    refine rd_seq ?_
    refine rd_for ?_
    refine rd_iL ?_
    refine rd_v rfl ?_
    refine rd_wLF S8 (f__law_parts) (fun p9 vs10 hq11 row12 => ?_)
    obtain ⟨t13, e14, hm⟩ := bd_some hm
    refine rd_forS feedsL (typedRow row12) e14 (fun (s15 : (List Str)) σ H => ∃ (F : Hp) (p0 : Addr) (vs0 : List V) (o2 : Option V) (o3 : Option V), σ = [some v__law_parts, some (V.ref p0), o2, o3] ∧ Sx (fun a => a = p1) F0 H2 F H ∧ Ow (fun a => a = p1) H2 F H p0 (.lst vs0) ∧ Row qS K F vs0 s15) ?_ ?_ ?_ ?_
    · rintro _ _ _ ⟨_, _, _, _, _, _, S16, _, _⟩
      exact (Same.seq S16.sub (Same.seq S16.le hq11))
    · skip
      have S17 : Sx (fun a => a = p1) _ _ _ _ := Sx.refl S8.sub (fun a z => by rw [z, w5.at_]; exact (fun h => nomatch h))
      have w18 : Ow (fun a => a = p1) H2 _ _ _ _ := ⟨w5.fr, w5.at_, .inr (rfl)⟩
      exact ⟨F0, _, _, _, _, rfl, S17, w18, r6⟩
    · skip
      rintro x19 v20 s21 c25 σ22 H23 f24 ⟨F26, p28, v29, o30, o31, rfl, S27, r32, r33⟩ hm36
      have f__law_parts := (qL qS).mono S27.le f__law_parts
      unfold m_law_cells_b2 at hm36
      cases (show v20 = (V.str (x19)) from f24)
      refine rd_gn ?_
      refine rd_ifS ?_
      refine rd_test ?_
      refine rd_op ?_
      refine rd_v rfl ?_
      refine rd_tup ?_
      refine rd_cons ?_
      refine rd_c ?_
      refine rd_cons ?_
      refine rd_c ?_
      refine rd_cons ?_
      refine rd_c ?_
      refine rd_nil ?_
      refine rd_uK rfl ?_
      refine alT (K := K) (A := qS) (xs := [("<any>" : Str), ("<digits>" : Str), ("<word>" : Str)]) S27 (.cons rfl (.cons rfl (.cons rfl .nil))) (fun v37 F38 H39 c40 f41 => ?_)
      have S42 := S27.call0 c40
      have f__law_parts := (qL qS).mono c40.le f__law_parts
      have r33 := Row.mono c40.le r33
      have r32 := r32.call0 c40
      refine rd_inS (S42.t f41).q ?_
      refine rd_b ?_
      refine if_b hm36 (fun b43 hm36 => ?_) (fun b43 hm36 => ?_)
      · skip
        obtain ⟨g44, hm36⟩ := gd_some hm36
        refine rd_drop ?_
        refine rd_bm ?_
        refine rd_v rfl ?_
        refine rd_ty r32.ty ?_
        refine rd_cons ?_
        refine rd_v rfl ?_
        refine rd_nil ?_
        refine ap S42 r32 r33 g44 (fun H45 c46 w47 => ?_)
        have r48 := r33.snoc (show qS.r K F38 _ x19 from rfl)
        have S49 := S42.call1 c46 r32
        have f__law_parts := (qL qS).mono c46.le f__law_parts
        have r48 := Row.mono c46.le r48
        cases hm36
        exact ⟨F38, _, _, _, _, rfl, S49, w47, r48⟩
      · skip
        refine rd_asg ?_
        refine rd_op ?_
        refine rd_v rfl ?_
        refine rd_lc ?_
        refine rd_iS ?_
        refine rd_v rfl ?_
        refine rd_wS ?_
        obtain ⟨g50, hm36⟩ := gd_some hm36
        obtain ⟨t51, e52, hm36⟩ := bd_some hm36
        refine rd_comp (B := qS) feedsS (typedS (K := K) (F := F38)) e52 g50 (Pc := P0) (fun _ z => z.elim) S42.sub (fun (s53 : Unit) F H => True) ?_ ?_ ?_ ?_ ?_ ?_
        · intro _ _ _ _ _; trivial
        · trivial
        · intros; trivial
        · intros; trivial
        · skip
          intro x55 v56 s57 o58 F59 H60 d61 acc62 f63 S64 w65 w66 n67 hm68 E69 N70 hN71 hE72
          have f__law_parts := (qL qS).mono S64.le f__law_parts
          have r33 := Row.mono S64.le r33
          have r32 := r32.call0 S64
          have S73 := Sx.refl0 S64.sub
          unfold m_law_cells_b1 at hm68
          cases (show v56 = (V.str (x55)) from f63)
          cases hm68
          refine rd_gn ?_
          refine rd_wp rfl ?_
          refine rd_yes ?_
          refine if_tt ?_
          refine rd_v rfl ?_
          exact hN71 _ _ _ _ rfl S73 rfl trivial
        intro p74 us75 F76 H77 n78 c79 w80 w81 r82
        have z83 := S42.free0 n78
        have ne84 : p28 ≠ p74 := r32.ne n78
        have S85 := S42.call0 c79
        have f__law_parts := (qL qS).mono c79.le f__law_parts
        have r33 := Row.mono c79.le r33
        have r32 := r32.call0 c79
        have w86 : Ow (fun a => a = p1) H2 _ _ _ _ := ⟨w81.fr, w81.at_, .inl z83⟩
        obtain ⟨F87, S88, le89, f90, _, eq91⟩ := fz S85 w86 z83 r82
        have f__law_parts := (qL qS).mono le89 f__law_parts
        have r33 := Row.mono le89 r33
        have r32 := r32.fzO ne84 eq91
        obtain ⟨g92, hm36⟩ := gd_some hm36
        refine rd_cat (r32.l r33) (S88.l f90) g92 ?_
        refine alO' S88 (fun p93 us94 H95 np96 c97 w98 r99 => ?_)
        have ne100 : p28 ≠ p93 := r32.ne np96
        have z101 := S88.free0 np96
        have S102 := S88.call0 c97
        have f__law_parts := (qL qS).mono c97.le f__law_parts
        have r33 := Row.mono c97.le r33
        have r32 := r32.call0 c97
        cases hm36
        refine rd_gn ?_
        exact ⟨F87, _, _, _, _, rfl, S102, w98, r99⟩
    · skip
      rintro σ103 H104 ⟨F105, p107, v108, o109, o110, rfl, S106, r111, r112⟩
      have S113 := S8.call1 S106 w5
      have f__law_parts := (qL qS).mono S106.le f__law_parts
      have w114 : Ow P0 H0 _ _ _ _ := ⟨r111.fr, r111.at_, r111.mine.elim (fun z => .inl (S8.free0 z)) (by
        rintro (rfl)
        · exact w5.mine)⟩
      have z115 := r111.mine.elim (fun z => S8.free0 z) (by rintro rfl; exact z7)
      obtain ⟨F116, S117, le118, f119, _, eq120⟩ := fz S113 w114 z115 r112
      have f__law_parts := (qL qS).mono le118 f__law_parts
      cases hm
      refine rd_ret ?_
      refine rd_v rfl ?_
      exact hQ _ _ _ S117 f119
def sp_law_due (K : PySem.W.Frag) : Sp := fun vs H Q _ => ∃ (F : Hp) (v__law_cells_here : V) (a__law_cells_here : (List Str)) (a__law_text_here : Str) (r : (List Int)), vs = [v__law_cells_here, (V.str (a__law_text_here))] ∧ Same F H ∧ (qL qS).r K F v__law_cells_here a__law_cells_here ∧ m_law_due a__law_cells_here a__law_text_here = some r ∧ ∀ v F' H', Sx P0 F H F' H' → (qT qI).r K F' v r → Q v H'
theorem sc_law_due : FnScope ["_law_cells_here", "_law_text_here", "_law_found", "_law_k", "_law_open_cells", "_law_cell"] ["_law_cells_here", "_law_text_here"] (defScope s_law_due) := ⟨rfl, rfl, rfl, by decide +kernel, rfl, by decide +kernel, by decide +kernel⟩
theorem bn_law_due (T : Tx K mg) : Binds K (fdOf K ("_law_due", none)) ["_law_cells_here", "_law_text_here"] [] := FunD.bindsN T.F__law_due fun _ _ _ _ _ _ us hl => match us, hl with | [_, _], _ => rfl
theorem ok_law_due (T : Tx K mg) : FnOk P w K mg base CX0 4 (He.ga K "_law_due") (fdOf K ("_law_due", none)) ["_law_cells_here", "_law_text_here"] (sp_law_due K) := by
  refine FunD.ok T.F__law_due sc_law_due (fun vs H0 Q E h => ?_) (fun cdv A outer s H0 vs Q E hr h => ?_)
  · obtain ⟨_, _, _, _, _, rfl, _⟩ := h
    rfl
  · obtain ⟨F0, v__law_cells_here, a__law_cells_here, a__law_text_here, r, rfl, hE, f__law_cells_here, hm, hQ⟩ := h
    refine ⟨_, PSs.nox ((pss_cons (ps_set (i := 2) sc_law_due.nd rfl (by first | exact Or.inl rfl | exact Or.inr rfl) (pe_lst pa_nil)) (pss_cons (ps_for PassesOwn.never rfl (pi_range1 (by rfl) T.n_range (pa_cons (pe_op op_add (pe_callB (r := rLenQ K) cr_lenQ (by rfl) T.n_len (by decide +kernel) (pa_cons (pv 0) pa_nil)) pe_int) pa_nil)) (pg_name (i := 3) sc_law_due.nd rfl (by first | exact Or.inl rfl | exact Or.inr rfl)) (pss_cons (ps_setLc (i := 4) (own := [("_law_cell", 5)]) rfl sc_law_due.nd rfl rfl (sw_true rfl rfl rfl (by decide +kernel)) (pi_list (pe_slice (r := rSlL K) sl_list (pv 0) po_none (po_some (pv 3)))) (blkOk_by (N := ["_law_cells_here", "_law_text_here", "_law_found", "_law_k", "_law_open_cells", "_law_cell"]) (sc := defScope s_law_due) (by decide +kernel)) (fun _ _ _ _ _ => pg_name (i := 5) sc_law_due.nd rfl (Or.inl rfl)) (fun _ _ _ _ _ => (pts_one (pt_cmpR op_neS (pv 5) pe_str (nomark _)))) (fun _ _ _ _ _ => (pv 5))) (pss_one (ps_if (PW.pt (pw_or (PW.pt (pw_and (pt_cmpR op_eqS (pv 1) pe_str (nomark _)) (pw_and1 (pt_cmpR (r := rEqD K) (op_eqD hr.units) (pv 4) (pe_lst pa_nil) (nomark _))))) (pw_or1 (pt_val (pe_call (ok_law_fits T) (hr.mono (by decide)) (by rfl) T.g__law_fits T.F__law_fits.kp (bn_law_fits T) .nil pass0 (pa_cons (pe_slice (r := rSlL K) sl_list (pv 0) po_none (po_some (pv 3))) (pa_cons (pv 1) pa_nil))))))) (pss_one (ps_expr (pe_bm PySem.F.plainAttrs_list PySem.F.slot_list_append PySem.F.type_list_append mt_append (pv 2) (pa_cons (pv 3) pa_nil)))) (pss_one (ps_if (PW.pt (pw_and (pt_cmpR (r := rEqD K) (op_eqD hr.units) (pe_slice (r := rSlL K) sl_list (pv 0) (po_some (pv 3)) (po_some (pe_op op_add (pv 3) pe_int))) (pe_lst (pa_cons pe_str pa_nil)) (nomark _)) (pw_and1 (pt_val (pe_call (ok_law_fits T) (hr.mono (by decide)) (by rfl) T.g__law_fits T.F__law_fits.kp (bn_law_fits T) .nil pass0 (pa_cons (pe_slice (r := rSlL K) sl_list (pv 0) po_none (po_some (pe_op op_add (pv 3) pe_int))) (pa_cons (pv 1) pa_nil))))))) (pss_one (ps_expr (pe_bm PySem.F.plainAttrs_list PySem.F.slot_list_append PySem.F.type_list_append mt_append (pv 2) (pa_cons (pv 3) pa_nil)))) pss_nil)))))) (pss_one (ps_ret (pe_tupleOf (by rfl) T.n_tuple (pv 2))))))), ?_⟩
    have S : Sx P0 F0 H0 F0 H0 := Sx.refl0 hE
    unfold m_law_due at hm
    refine rd_seq ?_
    refine rd_asg ?_
    refine rd_lst ?_
    refine rd_nil ?_
    refine rd_lK rfl ?_
    refine al S (fun p1 H2 np3 c4 w5 => ?_)
    have z7 := S.free0 np3
    have S8 := S.call0 c4
    have f__law_cells_here := (qL qS).mono c4.le f__law_cells_here
    obtain ⟨g9, hm⟩ := gd_some hm
    refine rd_gn ?_
    refine rd_seq ?_
    refine rd_for ?_
    refine rd_iR1 ?_
    refine rd_cons ?_
    refine rd_op ?_
    refine rd_cb ?_
    refine rd_cons ?_
    refine rd_v rfl ?_
    refine rd_nil ?_
    refine rd_lenQ (S8.l f__law_cells_here).r.q ?_
    refine rd_c ?_
    refine rd_I0 ?_
    refine rd_nil ?_
    refine rd_r1 g9 ?_
    have r10 : Row qI K F0 [] ([] : List Int) := .nil
    obtain ⟨t11, e12, hm⟩ := bd_some hm
    refine rd_forS feedsRg (typedR (K := K) (F := F0)) e12 (fun (s13 : (List Int)) σ H => ∃ (F : Hp) (o3 : Option V) (o4 : Option V) (o5 : Option V) (vs0 : List V), σ = [some v__law_cells_here, some (V.str (a__law_text_here)), some (V.ref p1), o3, o4, o5] ∧ Sx (fun a => a = p1) F0 H2 F H ∧ Ow (fun a => a = p1) H2 F H p1 (.lst vs0) ∧ Row qI K F vs0 s13) ?_ ?_ ?_ ?_
    · intro _ _ _ _; trivial
    · skip
      have S15 : Sx (fun a => a = p1) _ _ _ _ := Sx.refl S8.sub (fun a z => by rw [z, w5.at_]; exact (fun h => nomatch h))
      have w16 : Ow (fun a => a = p1) H2 _ _ _ _ := ⟨w5.fr, w5.at_, .inr (rfl)⟩
      exact ⟨F0, _, _, _, _, rfl, S15, w16, r10⟩
    · skip
      rintro x17 v18 s19 c23 σ20 H21 f22 ⟨F24, o26, o27, o28, v29, rfl, S25, w30, r31⟩ hm34
      have f__law_cells_here := (qL qS).mono S25.le f__law_cells_here
      unfold m_law_due_b2 at hm34
      cases (show v18 = (V.int (x17)) from f22)
      refine rd_gn ?_
      refine rd_seq ?_
      refine rd_asg ?_
      refine rd_lc ?_
      refine rd_iL ?_
      refine rd_sl ?_
      refine rd_v rfl ?_
      refine rd_np ?_
      refine rd_pt ?_
      refine rd_v rfl ?_
      refine rd_i ?_
      refine rd_slL (S25.l f__law_cells_here).r ?_
      refine alL' S25 (fun v35 F36 H37 c38 f39 => ?_)
      have S40 := S25.call0 c38
      have f__law_cells_here := (qL qS).mono c38.le f__law_cells_here
      have r31 := Row.mono c38.le r31
      have w30 := w30.call0 c38
      refine rd_wLF S40 (f39) (fun p41 vs42 hq43 row44 => ?_)
      obtain ⟨g45, hm34⟩ := gd_some hm34
      obtain ⟨t46, e47, hm34⟩ := bd_some hm34
      refine rd_comp (B := qS) feedsL (typedRow row44) e47 g45 (Pc := P0) (fun _ z => z.elim) S40.sub (fun (s48 : Unit) F H => True) ?_ ?_ ?_ ?_ ?_ ?_
      · intro _ _ _ S49 _
        exact (Same.seq S49.sub (Same.seq S49.le hq43))
      · trivial
      · intros; trivial
      · intros; trivial
      · skip
        intro x50 v51 s52 o53 F54 H55 d56 acc57 f58 S59 w60 w61 n62 hm63 E64 N65 hN66 hE67
        have f__law_cells_here := (qL qS).mono S59.le f__law_cells_here
        have r31 := Row.mono S59.le r31
        have w30 := w30.call0 S59
        have S68 := Sx.refl0 S59.sub
        unfold m_law_due_b1 at hm63
        cases (show v51 = (V.str (x50)) from f58)
        refine rd_gn ?_
        refine rd_wp rfl ?_
        refine rd_test ?_
        refine rd_op ?_
        refine rd_v rfl ?_
        refine rd_c ?_
        refine rd_S0 ?_
        refine rd_b ?_
        refine if_b hm63 (fun b69 hm63 => ?_) (fun b69 hm63 => ?_)
        · skip
          cases hm63
          refine rd_v rfl ?_
          exact hN66 _ _ _ _ rfl S68 rfl trivial
        · skip
          cases hm63
          exact hE67 _ _ rfl S68 trivial
      intro p70 us71 F72 H73 n74 c75 w76 w77 r78
      have z79 := S40.free0 n74
      have ne80 : p1 ≠ p70 := w30.ne n74
      have S81 := S40.call0 c75
      have f__law_cells_here := (qL qS).mono c75.le f__law_cells_here
      have r31 := Row.mono c75.le r31
      have w30 := w30.call0 c75
      have w82 : Ow (fun a => a = p1) H2 _ _ _ _ := ⟨w77.fr, w77.at_, .inl z79⟩
      obtain ⟨F83, S84, le85, f86, _, eq87⟩ := fz S81 w82 z79 r78
      have f__law_cells_here := (qL qS).mono le85 f__law_cells_here
      have r31 := Row.mono le85 r31
      have w30 := w30.fzO ne80 eq87
      obtain ⟨t96, e97, hm34⟩ := bd_some hm34
      refine rd_gn ?_
      refine rd_ifS ?_
      refine rd_or ?_
      refine rd_and ?_
      refine rd_test ?_
      refine rd_op ?_
      refine rd_v rfl ?_
      refine rd_c ?_
      refine rd_S0 ?_
      refine rd_b ?_
      refine and_j (fun c H' => c = t96 ∧ ∃ F', Sx P0 F83 H73 F' H') ?_ ?_ ?_
      · intro b98 Q99 q100
        have e97 := if_t e97 b98
        have S101 := Sx.refl0 S84.sub
        refine rd_test ?_
        refine rd_op ?_
        refine rd_v rfl ?_
        refine rd_lst ?_
        refine rd_nil ?_
        refine rd_lK rfl ?_
        refine alL (K := K) (A := qS) (xs := ([] : List Str)) S101 .nil (fun v102 F103 H104 c105 f106 => ?_)
        have S107 := S101.call0 c105
        have f__law_cells_here := (qL qS).mono c105.le f__law_cells_here
        have f86 := (qL qS).mono c105.le f86
        have r31 := Row.mono c105.le r31
        have w30 := w30.call0 c105
        obtain ⟨g108, e97⟩ := gd_some e97
        obtain ⟨g109, e97⟩ := gd_some e97
        cases e97
        refine rd_eqD (D := (dL dS)) (S107.d (dL dS) f86) (S107.d (dL dS) f106) g108 g109 ?_
        refine rd_b ?_
        exact q100 _ _ ⟨rfl, F103, S107⟩
      · intro b98
        have e97 := if_f e97 b98
        cases e97
        have S110 := Sx.refl0 S84.sub
        exact ⟨rfl, F83, S110⟩
      rintro b114 H112 ⟨rfl, F111, c113⟩
      have S115 := S84.call0 c113
      have f__law_cells_here := (qL qS).mono c113.le f__law_cells_here
      have f86 := (qL qS).mono c113.le f86
      have r31 := Row.mono c113.le r31
      have w30 := w30.call0 c113
      obtain ⟨t130, e131, hm34⟩ := bd_some hm34
      refine or_j (fun c H' => c = t130 ∧ ∃ F', Sx P0 F111 H112 F' H') ?_ ?_ ?_
      · intro b132 Q133 q134
        have e131 := if_f e131 b132
        have S135 := Sx.refl0 S115.sub
        refine rd_tB ?_
        refine rd_call ?_
        refine rd_cons ?_
        refine rd_sl ?_
        refine rd_v rfl ?_
        refine rd_np ?_
        refine rd_pt ?_
        refine rd_v rfl ?_
        refine rd_i ?_
        refine rd_slL (S135.l f__law_cells_here).r ?_
        refine alL' S135 (fun v136 F137 H138 c139 f140 => ?_)
        have S141 := S135.call0 c139
        have f__law_cells_here := (qL qS).mono c139.le f__law_cells_here
        have f86 := (qL qS).mono c139.le f86
        have r31 := Row.mono c139.le r31
        have w30 := w30.call0 c139
        obtain ⟨t142, e143, e131⟩ := bd_some e131
        refine rd_cons ?_
        refine rd_v rfl ?_
        refine rd_nil ?_
        refine ⟨F137, _, _, _, t142, rfl, S141.sub, f140, e143, fun v147 F144 H145 c146 f148 => ?_⟩
        have S149 := S141.call0 c146
        have f__law_cells_here := (qL qS).mono c146.le f__law_cells_here
        have f86 := (qL qS).mono c146.le f86
        have r31 := Row.mono c146.le r31
        have w30 := w30.call0 c146
        cases (show v147 = (V.bl (t142)) from f148)
        cases e131
        refine rd_b ?_
        exact q134 _ _ ⟨rfl, F144, S149⟩
      · intro b132
        have e131 := if_t e131 b132
        cases e131
        have S150 := Sx.refl0 S115.sub
        exact ⟨rfl, F111, S150⟩
      rintro b154 H152 ⟨rfl, F151, c153⟩
      have S155 := S115.call0 c153
      have f__law_cells_here := (qL qS).mono c153.le f__law_cells_here
      have f86 := (qL qS).mono c153.le f86
      have r31 := Row.mono c153.le r31
      have w30 := w30.call0 c153
      refine if_b hm34 (fun b156 hm34 => ?_) (fun b156 hm34 => ?_)
      · skip
        obtain ⟨g157, hm34⟩ := gd_some hm34
        refine rd_drop ?_
        refine rd_bm ?_
        refine rd_v rfl ?_
        refine rd_ty w30.ty ?_
        refine rd_cons ?_
        refine rd_v rfl ?_
        refine rd_nil ?_
        refine ap S155 w30 r31 g157 (fun H158 c159 w160 => ?_)
        have r161 := r31.snoc (show qI.r K F151 _ x17 from rfl)
        have S162 := S155.call1 c159 w30
        have f__law_cells_here := (qL qS).mono c159.le f__law_cells_here
        have f86 := (qL qS).mono c159.le f86
        have r161 := Row.mono c159.le r161
        cases hm34
        exact ⟨F151, _, _, _, _, rfl, S162, w160, r161⟩
      · skip
        refine rd_ifS ?_
        refine rd_and ?_
        refine rd_test ?_
        refine rd_op ?_
        refine rd_sl ?_
        refine rd_v rfl ?_
        refine rd_pt ?_
        refine rd_v rfl ?_
        refine rd_i ?_
        refine rd_pt ?_
        refine rd_op ?_
        refine rd_v rfl ?_
        refine rd_c ?_
        refine rd_I0 ?_
        refine rd_i ?_
        refine rd_slL (S155.l f__law_cells_here).r ?_
        refine alL' S155 (fun v163 F164 H165 c166 f167 => ?_)
        have S168 := S155.call0 c166
        have f__law_cells_here := (qL qS).mono c166.le f__law_cells_here
        have f86 := (qL qS).mono c166.le f86
        have r31 := Row.mono c166.le r31
        have w30 := w30.call0 c166
        refine rd_lst ?_
        refine rd_cons ?_
        refine rd_c ?_
        refine rd_nil ?_
        refine rd_lK rfl ?_
        refine alL (K := K) (A := qS) (xs := [("<any>" : Str)]) S168 (.cons rfl .nil) (fun v169 F170 H171 c172 f173 => ?_)
        have S174 := S168.call0 c172
        have f__law_cells_here := (qL qS).mono c172.le f__law_cells_here
        have f86 := (qL qS).mono c172.le f86
        have f167 := (qL qS).mono c172.le f167
        have r31 := Row.mono c172.le r31
        have w30 := w30.call0 c172
        obtain ⟨g175, hm34⟩ := gd_some hm34
        obtain ⟨g176, hm34⟩ := gd_some hm34
        obtain ⟨t191, e192, hm34⟩ := bd_some hm34
        refine rd_eqD (D := (dL dS)) (S174.d (dL dS) f167) (S174.d (dL dS) f173) g175 g176 ?_
        refine rd_b ?_
        refine and_j (fun c H' => c = t191 ∧ ∃ F', Sx P0 F170 H171 F' H') ?_ ?_ ?_
        · intro b193 Q194 q195
          have e192 := if_t e192 b193
          have S196 := Sx.refl0 S174.sub
          refine rd_tB ?_
          refine rd_call ?_
          refine rd_cons ?_
          refine rd_sl ?_
          refine rd_v rfl ?_
          refine rd_np ?_
          refine rd_pt ?_
          refine rd_op ?_
          refine rd_v rfl ?_
          refine rd_c ?_
          refine rd_I0 ?_
          refine rd_i ?_
          refine rd_slL (S196.l f__law_cells_here).r ?_
          refine alL' S196 (fun v197 F198 H199 c200 f201 => ?_)
          have S202 := S196.call0 c200
          have f__law_cells_here := (qL qS).mono c200.le f__law_cells_here
          have f86 := (qL qS).mono c200.le f86
          have r31 := Row.mono c200.le r31
          have w30 := w30.call0 c200
          obtain ⟨t203, e204, e192⟩ := bd_some e192
          refine rd_cons ?_
          refine rd_v rfl ?_
          refine rd_nil ?_
          refine ⟨F198, _, _, _, t203, rfl, S202.sub, f201, e204, fun v208 F205 H206 c207 f209 => ?_⟩
          have S210 := S202.call0 c207
          have f__law_cells_here := (qL qS).mono c207.le f__law_cells_here
          have f86 := (qL qS).mono c207.le f86
          have r31 := Row.mono c207.le r31
          have w30 := w30.call0 c207
          cases (show v208 = (V.bl (t203)) from f209)
          cases e192
          refine rd_b ?_
          exact q195 _ _ ⟨rfl, F205, S210⟩
        · intro b193
          have e192 := if_f e192 b193
          cases e192
          have S211 := Sx.refl0 S174.sub
          exact ⟨rfl, F170, S211⟩
        rintro b215 H213 ⟨rfl, F212, c214⟩
        have S216 := S174.call0 c214
        have f__law_cells_here := (qL qS).mono c214.le f__law_cells_here
        have f86 := (qL qS).mono c214.le f86
        have r31 := Row.mono c214.le r31
        have w30 := w30.call0 c214
        refine if_b hm34 (fun b217 hm34 => ?_) (fun b217 hm34 => ?_)
        · skip
          obtain ⟨g218, hm34⟩ := gd_some hm34
          refine rd_drop ?_
          refine rd_bm ?_
          refine rd_v rfl ?_
          refine rd_ty w30.ty ?_
          refine rd_cons ?_
          refine rd_v rfl ?_
          refine rd_nil ?_
          refine ap S216 w30 r31 g218 (fun H219 c220 w221 => ?_)
          have r222 := r31.snoc (show qI.r K F212 _ x17 from rfl)
          have S223 := S216.call1 c220 w30
          have f__law_cells_here := (qL qS).mono c220.le f__law_cells_here
          have f86 := (qL qS).mono c220.le f86
          have r222 := Row.mono c220.le r222
          cases hm34
          exact ⟨F212, _, _, _, _, rfl, S223, w221, r222⟩
        · skip
          cases hm34
          refine rd_next ?_
          exact ⟨F212, _, _, _, _, rfl, S216, w30, r31⟩
    · skip
      rintro σ224 H225 ⟨F226, o228, o229, o230, v231, rfl, S227, w232, r233⟩
      have S234 := S8.call1 S227 w5
      have f__law_cells_here := (qL qS).mono S227.le f__law_cells_here
      have w235 : Ow P0 H0 _ _ _ _ := ⟨w232.fr, w232.at_, w5.mine⟩
      refine rd_ret ?_
      refine rd_thn ?_
      refine rd_v rfl ?_
      refine rd_tuple (w235.l r233).r ?_
      refine alT' S234 (fun v236 F237 H238 c239 f240 => ?_)
      have S241 := S234.call0 c239
      have f__law_cells_here := (qL qS).mono c239.le f__law_cells_here
      have r233 := Row.mono c239.le r233
      have w235 := w235.call0 c239
      cases hm
      exact hQ _ _ _ S241 f240
def sp_law_is (K : PySem.W.Frag) : Sp := fun vs H Q _ => ∃ (F : Hp) (v__law_found : V) (a__law_found : (List Int)) (v__law_due_here : V) (a__law_due_here : (List Int)) (r : Bool), vs = [v__law_found, v__law_due_here] ∧ Same F H ∧ (qT qI).r K F v__law_found a__law_found ∧ (qT qI).r K F v__law_due_here a__law_due_here ∧ m_law_is a__law_found a__law_due_here = some r ∧ ∀ v F' H', Sx P0 F H F' H' → qB.r K F' v r → Q v H'
theorem sc_law_is : FnScope ["_law_found", "_law_due_here", "_law_k"] ["_law_found", "_law_due_here"] (defScope s_law_is) := ⟨rfl, rfl, rfl, by decide +kernel, rfl, by decide +kernel, by decide +kernel⟩
theorem bn_law_is (T : Tx K mg) : Binds K (fdOf K ("_law_is", none)) ["_law_found", "_law_due_here"] [] := FunD.bindsN T.F__law_is fun _ _ _ _ _ _ us hl => match us, hl with | [_, _], _ => rfl
theorem ok_law_is (T : Tx K mg) : FnOk P w K mg base CX0 1 (He.ga K "_law_is") (fdOf K ("_law_is", none)) ["_law_found", "_law_due_here"] (sp_law_is K) := by
  refine FunD.ok T.F__law_is sc_law_is (fun vs H0 Q E h => ?_) (fun cdv A outer s H0 vs Q E hr h => ?_)
  · obtain ⟨_, _, _, _, _, _, rfl, _⟩ := h
    rfl
  · obtain ⟨F0, v__law_found, a__law_found, v__law_due_here, a__law_due_here, r, rfl, hE, f__law_found, f__law_due_here, hm, hQ⟩ := h
    refine ⟨_, PSs.nox ((pss_cons (ps_if (PW.pt (pw_or (pt_not (pt_val (pe_callB (r := rIsi K) call_isi (by rfl) T.n_isinstance (by decide +kernel) (pa_cons (pv 0) (pa_cons (pe_bltn (v := V.ty "tuple") (by rfl) T.n_tuple (by decide +kernel) rfl) pa_nil))))) (pw_or1 (pt_cmpR (r := rNeD K) (op_neD hr.units) (pv 0) (pv 1) (nomark _))))) (pss_one (ps_ret pe_bl)) pss_nil) (pss_one (ps_ret (pe_cmpR (r := rEqD K) (op_eqD hr.units) (pe_lc (own := [("_law_k", 2)]) rfl sc_law_is.nd (pi_tup (pv 0)) (blkOk_by (N := ["_law_found", "_law_due_here", "_law_k"]) (sc := defScope s_law_is) (by decide +kernel)) (fun _ _ _ _ _ => pg_name (i := 2) sc_law_is.nd rfl (Or.inl rfl)) (fun _ _ _ _ _ => (pts_one (PW.pt (pw_or (pt_not (pt_val (pe_callB (r := rIsi K) call_isi (by rfl) T.n_isinstance (by decide +kernel) (pa_cons (pv 2) (pa_cons (pe_bltn (v := V.ty "int") (by rfl) T.n_int (by decide +kernel) rfl) pa_nil))))) (pw_or1 (pt_val (pe_callB (r := rIsi K) call_isi (by rfl) T.n_isinstance (by decide +kernel) (pa_cons (pv 2) (pa_cons (pe_bltn (v := V.ty "bool") (by rfl) T.n_bool (by decide +kernel) rfl) pa_nil))))))))) (fun _ _ _ _ _ => (pv 2))) (pe_lst pa_nil) (nomark _)))))), ?_⟩
    have S : Sx P0 F0 H0 F0 H0 := Sx.refl0 hE
    unfold m_law_is at hm
    obtain ⟨g1, hm⟩ := gd_some hm
    obtain ⟨g2, hm⟩ := gd_some hm
    refine rd_seq ?_
    refine rd_ifS ?_
    refine rd_or ?_
    refine rd_not ?_
    refine rd_tB ?_
    refine rd_cb ?_
    refine rd_cons ?_
    refine rd_v rfl ?_
    refine rd_cons ?_
    refine rd_c ?_
    refine rd_nil ?_
    refine rd_isi (b := true) (tx_tup (S.t f__law_found)) (by decide +kernel) ?_
    refine rd_b ?_
    refine if_ff ?_
    refine rd_test ?_
    refine rd_op ?_
    refine rd_v rfl ?_
    refine rd_v rfl ?_
    refine rd_neD (D := (dT dI)) (S.d (dT dI) f__law_found) (S.d (dT dI) f__law_due_here) g1 g2 ?_
    refine rd_b ?_
    refine if_b hm (fun b3 hm => ?_) (fun b3 hm => ?_)
    · skip
      cases hm
      refine rd_ret ?_
      refine rd_c ?_
      exact hQ _ _ _ S rfl
    · skip
      refine rd_next ?_
      refine rd_ret ?_
      refine rd_op ?_
      refine rd_lc ?_
      refine rd_iT ?_
      refine rd_v rfl ?_
      refine rd_wTF S f__law_found (fun p4 vs5 hq6 row7 => ?_)
      obtain ⟨g8, hm⟩ := gd_some hm
      obtain ⟨t9, e10, hm⟩ := bd_some hm
      refine rd_comp (B := qI) feedsT (typedRow row7) e10 g8 (Pc := P0) (fun _ z => z.elim) S.sub (fun (s11 : Unit) F H => True) ?_ ?_ ?_ ?_ ?_ ?_
      · intro _ _ _ S12 _
        exact (same_t S12.sub (same_t S12.le hq6))
      · trivial
      · intros; trivial
      · intros; trivial
      · skip
        intro x13 v14 s15 o16 F17 H18 d19 acc20 f21 S22 w23 w24 n25 hm26 E27 N28 hN29 hE30
        have f__law_found := (qT qI).mono S22.le f__law_found
        have f__law_due_here := (qT qI).mono S22.le f__law_due_here
        have S31 := Sx.refl0 S22.sub
        unfold m_law_is_b1 at hm26
        cases (show v14 = (V.int (x13)) from f21)
        refine rd_gn ?_
        refine rd_wp rfl ?_
        refine rd_or ?_
        refine rd_not ?_
        refine rd_tB ?_
        refine rd_cb ?_
        refine rd_cons ?_
        refine rd_v rfl ?_
        refine rd_cons ?_
        refine rd_c ?_
        refine rd_nil ?_
        refine rd_isi (b := true) tx_int (by decide +kernel) ?_
        refine rd_b ?_
        refine if_ff ?_
        refine rd_tB ?_
        refine rd_cb ?_
        refine rd_cons ?_
        refine rd_v rfl ?_
        refine rd_cons ?_
        refine rd_c ?_
        refine rd_nil ?_
        refine rd_isi (b := false) tx_int (by decide +kernel) ?_
        refine rd_b ?_
        refine if_b hm26 (fun b32 hm26 => ?_) (fun b32 hm26 => ?_)
        · skip
          cases hm26
          refine rd_v rfl ?_
          exact hN29 _ _ _ _ rfl S31 rfl trivial
        · skip
          cases hm26
          exact hE30 _ _ rfl S31 trivial
      intro p33 us34 F35 H36 n37 c38 w39 w40 r41
      have z42 := S.free0 n37
      have S43 := S.call0 c38
      have f__law_found := (qT qI).mono c38.le f__law_found
      have f__law_due_here := (qT qI).mono c38.le f__law_due_here
      have w44 : Ow P0 H0 _ _ _ _ := ⟨w40.fr, w40.at_, .inl z42⟩
      obtain ⟨F45, S46, le47, f48, _, eq49⟩ := fz S43 w44 z42 r41
      have f__law_found := (qT qI).mono le47 f__law_found
      have f__law_due_here := (qT qI).mono le47 f__law_due_here
      refine rd_lst ?_
      refine rd_nil ?_
      refine rd_lK rfl ?_
      refine alL (K := K) (A := qI) (xs := ([] : List Int)) S46 .nil (fun v50 F51 H52 c53 f54 => ?_)
      have S55 := S46.call0 c53
      have f__law_found := (qT qI).mono c53.le f__law_found
      have f__law_due_here := (qT qI).mono c53.le f__law_due_here
      have f48 := (qL qI).mono c53.le f48
      obtain ⟨g56, hm⟩ := gd_some hm
      obtain ⟨g57, hm⟩ := gd_some hm
      cases hm
      refine rd_eqD (D := (dL dI)) (S55.d (dL dI) f48) (S55.d (dL dI) f54) g56 g57 ?_
      exact hQ _ _ _ S55 rfl
def sp_law (K : PySem.W.Frag) : Sp := fun vs H Q _ => ∃ (F : Hp) (v__law_script : V) (a__law_script : List Int) (r : Bool), vs = [v__law_script] ∧ Same F H ∧ qC.r K F v__law_script a__law_script ∧ m_law a__law_script = some r ∧ ∀ v F' H', Sx P0 F H F' H' → qB.r K F' v r → Q v H'
theorem sc_law : FnScope ["_law_script", "_law_k", "_law_pool_here", "_law_parts", "_law_text_here", "_law_handed", "_law_cells_here", "_law_here", "_law_size", "_law_due_here"] ["_law_script"] (defScope s_law) := ⟨rfl, rfl, rfl, by decide +kernel, rfl, by decide +kernel, by decide +kernel⟩
theorem bn_law (T : Tx K mg) : Binds K (fdOf K ("law", none)) ["_law_script"] [] := FunD.bindsN T.F_law fun _ _ _ _ _ _ us hl => match us, hl with | [_], _ => rfl
theorem ok_law (T : Tx K mg) : FnOk P w K mg base CX0 5 (He.ga K "law") (fdOf K ("law", none)) ["_law_script"] (sp_law K) := by
  refine FunD.ok T.F_law sc_law (fun vs H0 Q E h => ?_) (fun cdv A outer s H0 vs Q E hr h => ?_)
  · obtain ⟨_, _, _, _, rfl, _⟩ := h
    rfl
  · obtain ⟨F0, v__law_script, a__law_script, r, rfl, hE, f__law_script, hm, hQ⟩ := h
    refine ⟨_, PSs.nox ((pss_cons (ps_for PassesOwn.never rfl (pi_range1 (by rfl) T.n_range (pa_cons (pe_callB (cr_max2 rfl) (by rfl) T.n_max (by decide +kernel) (pa_cons pe_int (pa_cons (pe_callB (cr_min2 rfl) (by rfl) T.n_min (by decide +kernel) (pa_cons pe_int (pa_cons (pe_callB (r := rLenQ K) cr_lenQ (by rfl) T.n_len (by decide +kernel) (pa_cons (pv 0) pa_nil)) pa_nil))) pa_nil))) pa_nil)) (pg_name (i := 1) sc_law.nd rfl (by first | exact Or.inl rfl | exact Or.inr rfl)) (pss_cons (ps_set (i := 2) sc_law.nd rfl (by first | exact Or.inl rfl | exact Or.inr rfl) (pe_call (ok_law_pool T) (hr.mono (by decide)) (by rfl) T.g__law_pool T.F__law_pool.kp (bn_law_pool T) .nil pass0 (pa_cons (pv 0) (pa_cons (pv 1) pa_nil)))) (pss_cons (ps_set (i := 3) sc_law.nd rfl (by first | exact Or.inl rfl | exact Or.inr rfl) (pe_call (ok_law_rich T) (hr.mono (by decide)) (by rfl) T.g__law_rich T.F__law_rich.kp (bn_law_rich T) .nil pass0 (pa_cons (pv 2) pa_nil))) (pss_cons (ps_set (i := 4) sc_law.nd rfl (by first | exact Or.inl rfl | exact Or.inr rfl) (pe_slice sl_str (pe_call (ok_law_spoiled T) (hr.mono (by decide)) (by rfl) T.g__law_spoiled T.F__law_spoiled.kp (bn_law_spoiled T) .nil pass0 (pa_cons (pv 2) (pa_cons (pe_call (ok_law_line T) (hr.mono (by decide)) (by rfl) T.g__law_line T.F__law_line.kp (bn_law_line T) .nil pass0 (pa_cons (pv 2) (pa_cons (pv 3) pa_nil))) pa_nil))) po_none (po_some pe_int))) (C8.pss_cut (ps_if (pt_cmpR op_eqI (pe_call (ok_law_take T) (hr.mono (by decide)) (by rfl) T.g__law_take T.F__law_take.kp (bn_law_take T) .nil pass0 (pa_cons (pv 2) (pa_cons pe_int pa_nil))) pe_int (nomark _)) (pss_one (ps_set (i := 4) sc_law.nd rfl (by first | exact Or.inl rfl | exact Or.inr rfl) (pe_op op_catS (pe_call (ok_law_text T) (hr.mono (by decide)) (by rfl) T.g__law_text T.F__law_text.kp (bn_law_text T) .nil pass0 (pa_cons (pv 2) pa_nil)) (pe_call (ok_law_text T) (hr.mono (by decide)) (by rfl) T.g__law_text T.F__law_text.kp (bn_law_text T) .nil pass0 (pa_cons (pv 2) pa_nil))))) pss_nil) (pss_cons (ps_set (i := 5) sc_law.nd rfl (by first | exact Or.inl rfl | exact Or.inr rfl) (pe_callTy (r := rListQ K) cr_listQ (by rfl) T.n_list (by decide +kernel) (pa_cons (pv 3) pa_nil))) (pss_cons (ps_set (i := 6) sc_law.nd rfl (by first | exact Or.inl rfl | exact Or.inr rfl) (pe_call (ok_cells_of T) (hr.mono (by decide)) (by rfl) T.g_cells_of T.F_cells_of.kp (bn_cells_of T) .nil pass0 (pa_cons (pv 5) pa_nil))) (pss_cons (ps_if (PW.pt (pw_or (pt_not (pt_val (pe_callB (r := rIsi K) call_isi (by rfl) T.n_isinstance (by decide +kernel) (pa_cons (pv 6) (pa_cons (pe_bltn (v := V.ty "list") (by rfl) T.n_list (by decide +kernel) rfl) pa_nil))))) (pw_or (pt_cmpR (r := rNeD K) (op_neD hr.units) (pv 6) (pe_call (ok_law_cells T) (hr.mono (by decide)) (by rfl) T.g__law_cells T.F__law_cells.kp (bn_law_cells T) .nil pass0 (pa_cons (pv 3) pa_nil)) (nomark _)) (pw_or1 (pt_cmpR (r := rNeD K) (op_neD hr.units) (pv 5) (pv 3) (nomark _)))))) (pss_one (ps_ret pe_bl)) pss_nil) (pss_cons (ps_set (i := 7) sc_law.nd rfl (by first | exact Or.inl rfl | exact Or.inr rfl) (pe_call (ok_started T) (hr.mono (by decide)) (by rfl) T.g_started T.F_started.kp (bn_started T) .nil pass0 (pa_cons (pv 6) pa_nil))) (pss_cons (ps_for PassesOwn.never rfl (pi_range1 (by rfl) T.n_range (pa_cons (pe_op op_add (pe_callB cr_lenS (by rfl) T.n_len (by decide +kernel) (pa_cons (pv 4) pa_nil)) pe_int) pa_nil)) (pg_name (i := 8) sc_law.nd rfl (by first | exact Or.inl rfl | exact Or.inr rfl)) (C8.pss_cut (ps_if (pt_cmpR op_gt (pv 8) pe_int (nomark _)) (pss_one (ps_set (i := 7) sc_law.nd rfl (by first | exact Or.inl rfl | exact Or.inr rfl) (pe_call (ok_moved T) (hr.mono (by decide)) (by rfl) T.g_moved T.F_moved.kp (bn_moved T) .nil pass0 (pa_cons (pv 6) (pa_cons (pv 7) (pa_cons (pe_ix ix_str (pv 4) (pe_op op_sub (pv 8) pe_int) (fun _ _ => rfl)) pa_nil)))))) pss_nil) (pss_cons (ps_set (i := 9) sc_law.nd rfl (by first | exact Or.inl rfl | exact Or.inr rfl) (pe_call (ok_law_due T) (hr.mono (by decide)) (by rfl) T.g__law_due T.F__law_due.kp (bn_law_due T) .nil pass0 (pa_cons (pv 6) (pa_cons (pe_slice sl_str (pv 4) po_none (po_some (pv 8))) pa_nil)))) (pss_one (ps_if (PW.pt (pw_or (pt_not (pt_val (pe_call (ok_law_is T) (hr.mono (by decide)) (by rfl) T.g__law_is T.F__law_is.kp (bn_law_is T) .nil pass0 (pa_cons (pv 7) (pa_cons (pv 9) pa_nil))))) (pw_or1 (pt_cmpR op_neB (pe_call (ok_is_done T) (hr.mono (by decide)) (by rfl) T.g_is_done T.F_is_done.kp (bn_is_done T) .nil pass0 (pa_cons (pv 6) (pa_cons (pv 7) pa_nil))) (pe_cmpR (r := rIn K false) op_in_seq (pe_callB (r := rLenQ K) cr_lenQ (by rfl) T.n_len (by decide +kernel) (pa_cons (pv 6) pa_nil)) (pv 9) rfl) (nomark _))))) (pss_one (ps_ret pe_bl)) pss_nil))))) (pss_one (ps_if (PW.pt (pw_or (pt_cmpR (r := rNeD K) (op_neD hr.units) (pv 6) (pe_call (ok_law_cells T) (hr.mono (by decide)) (by rfl) T.g__law_cells T.F__law_cells.kp (bn_law_cells T) .nil pass0 (pa_cons (pv 3) pa_nil)) (nomark _)) (pw_or1 (pt_cmpR (r := rNeD K) (op_neD hr.units) (pe_call (ok_cells_of T) (hr.mono (by decide)) (by rfl) T.g_cells_of T.F_cells_of.kp (bn_cells_of T) .nil pass0 (pa_cons (pe_tupleOf (by rfl) T.n_tuple (pv 3)) pa_nil)) (pv 6) (nomark _))))) (pss_one (ps_ret pe_bl)) pss_nil)))))))))))) (pss_one (ps_ret pe_bl)))), ?_⟩
    have S : Sx P0 F0 H0 F0 H0 := Sx.refl0 hE
    unfold m_law at hm
    obtain ⟨g1, hm⟩ := gd_some hm
    refine rd_seq ?_
    refine rd_for ?_
    refine rd_iR1 ?_
    refine rd_cons ?_
    refine rd_cb ?_
    refine rd_cons ?_
    refine rd_c ?_
    refine rd_cons ?_
    refine rd_cb ?_
    refine rd_cons ?_
    refine rd_c ?_
    refine rd_cons ?_
    refine rd_cb ?_
    refine rd_cons ?_
    refine rd_v rfl ?_
    refine rd_nil ?_
    refine rd_lenQ (S.c f__law_script).q ?_
    refine rd_nil ?_
    refine rd_min2 ?_
    refine rd_nil ?_
    refine rd_max2 ?_
    refine rd_nil ?_
    refine rd_r1 g1 ?_
    obtain ⟨t2, e3, hm⟩ := bd_some hm
    refine rd_forC feedsRg (typedR (K := K) (F := F0)) e3 (fun (s4 : Unit) σ H => ∃ (F : Hp) (o1 : Option V) (o2 : Option V) (o3 : Option V) (o4 : Option V) (o5 : Option V) (o6 : Option V) (o7 : Option V) (o8 : Option V) (o9 : Option V), σ = [some v__law_script, o1, o2, o3, o4, o5, o6, o7, o8, o9] ∧ Sx P0 F0 H0 F H) ?_ ?_ ?_ ?_
    · intro _ _ _ _; trivial
    · skip
      have S6 := Sx.refl0 S.sub
      exact ⟨F0, _, _, _, _, _, _, _, _, _, rfl, S6⟩
    · skip
      rintro x7 v8 s9 c13 σ10 H11 f12 ⟨F14, o16, o17, o18, o19, o20, o21, o22, o23, o24, rfl, S15⟩ hm27 hbk25 hrt26
      have f__law_script := qC.mono S15.le f__law_script
      unfold m_law_b2 at hm27
      cases (show v8 = (V.int (x7)) from f12)
      obtain ⟨t28, e29, hm27⟩ := bd_some hm27
      refine rd_gn ?_
      refine rd_seq ?_
      refine rd_asg ?_
      refine rd_call ?_
      refine rd_cons ?_
      refine rd_v rfl ?_
      refine rd_cons ?_
      refine rd_v rfl ?_
      refine rd_nil ?_
      refine ⟨F14, _, _, _, t28, rfl, S15.sub, f__law_script, e29, fun p33 F30 H31 np34 c32 w35 => ?_⟩
      have z36 := S15.free0 np34
      have S37 := S15.call0 c32
      have f__law_script := qC.mono c32.le f__law_script
      have w38 : Ow P0 H0 _ _ _ _ := ⟨w35.fr, w35.at_, .inl z36⟩
      obtain ⟨t39, e40, hm27⟩ := bd_some hm27
      refine rd_gn ?_
      refine rd_seq ?_
      refine rd_asg ?_
      refine rd_call ?_
      refine rd_cons ?_
      refine rd_v rfl ?_
      refine rd_nil ?_
      refine ⟨F30, _, _, t39, rfl, S37.sub, w38.arg, e40, fun v44 F41 H42 c43 w46 f45 => ?_⟩
      have S47 := S37.call1 c43 w38
      have f__law_script := qC.mono c43.le f__law_script
      have w48 := w38.back w46
      obtain ⟨t49, e50, hm27⟩ := bd_some hm27
      refine rd_gn ?_
      refine rd_seq ?_
      refine rd_asg ?_
      refine rd_sl ?_
      refine rd_call ?_
      refine rd_cons ?_
      refine rd_v rfl ?_
      refine rd_cons ?_
      refine rd_call ?_
      refine rd_cons ?_
      refine rd_v rfl ?_
      refine rd_cons ?_
      refine rd_v rfl ?_
      refine rd_nil ?_
      refine ⟨F41, _, _, _, _, t49, rfl, S47.sub, w48.arg, f45, e50, fun v54 F51 H52 c53 w56 f55 => ?_⟩
      have S57 := S47.call1 c53 w48
      have f__law_script := qC.mono c53.le f__law_script
      have f45 := (qL qS).mono c53.le f45
      have w58 := w48.back w56
      cases (show v54 = (V.str (t49.1)) from f55)
      obtain ⟨t59, e60, hm27⟩ := bd_some hm27
      refine rd_nil ?_
      refine ⟨F51, _, _, _, t59, rfl, S57.sub, w58.arg, e60, fun v64 F61 H62 c63 w66 f65 => ?_⟩
      have S67 := S57.call1 c63 w58
      have f__law_script := qC.mono c63.le f__law_script
      have f45 := (qL qS).mono c63.le f45
      have w68 := w58.back w66
      cases (show v64 = (V.str (t59.1)) from f65)
      obtain ⟨g69, hm27⟩ := gd_some hm27
      obtain ⟨t70, e71, hm27⟩ := bd_some hm27
      refine rd_np ?_
      refine rd_pt ?_
      refine rd_c ?_
      refine rd_i ?_
      refine rd_slS g69 ?_
      refine rd_gn ?_
      refine rd_cut (fun σ' H' => ∃ (F : Hp) (o5 : Option V) (o6 : Option V) (o7 : Option V) (o8 : Option V) (o9 : Option V), σ' = [some v__law_script, some (V.int (x7)), some (V.ref p33), some v44, some (V.str (t70.2)), o5, o6, o7, o8, o9] ∧ Sx (fun a => a = p33) F61 H62 F H' ∧ Ow (fun a => a = p33) H62 F H' p33 (.lst [V.int t70.1.1, V.int t70.1.2])) ?_ ?_
      · skip
        have S72 : Sx (fun a => a = p33) _ _ _ _ := Sx.refl S67.sub (fun a z => by rw [z, w68.at_]; exact (fun h => nomatch h))
        have w73 : Ow (fun a => a = p33) H62 _ _ _ _ := ⟨w68.fr, w68.at_, .inr (rfl)⟩
        obtain ⟨t74, e75, e71⟩ := bd_some e71
        refine rd_ifS ?_
        refine rd_test ?_
        refine rd_op ?_
        refine rd_call ?_
        refine rd_cons ?_
        refine rd_v rfl ?_
        refine rd_cons ?_
        refine rd_c ?_
        refine rd_nil ?_
        refine ⟨F61, _, _, _, t74, rfl, S72.sub, w73.arg, e75, fun v79 F76 H77 c78 w81 f80 => ?_⟩
        have S82 := S72.call1 c78 w73
        have f__law_script := qC.mono c78.le f__law_script
        have f45 := (qL qS).mono c78.le f45
        have w83 := w73.back w81
        cases (show v79 = (V.int (t74.1)) from f80)
        refine rd_c ?_
        refine rd_I0 ?_
        refine rd_b ?_
        refine if_b e71 (fun b84 e71 => ?_) (fun b84 e71 => ?_)
        · skip
          obtain ⟨t85, e86, e71⟩ := bd_some e71
          refine rd_asg ?_
          refine rd_op ?_
          refine rd_call ?_
          refine rd_cons ?_
          refine rd_v rfl ?_
          refine rd_nil ?_
          refine ⟨F76, _, _, t85, rfl, S82.sub, w83.arg, e86, fun v90 F87 H88 c89 w92 f91 => ?_⟩
          have S93 := S82.call1 c89 w83
          have f__law_script := qC.mono c89.le f__law_script
          have f45 := (qL qS).mono c89.le f45
          have w94 := w83.back w92
          cases (show v90 = (V.str (t85.1)) from f91)
          obtain ⟨t95, e96, e71⟩ := bd_some e71
          refine rd_call ?_
          refine rd_cons ?_
          refine rd_v rfl ?_
          refine rd_nil ?_
          refine ⟨F87, _, _, t95, rfl, S93.sub, w94.arg, e96, fun v100 F97 H98 c99 w102 f101 => ?_⟩
          have S103 := S93.call1 c99 w94
          have f__law_script := qC.mono c99.le f__law_script
          have f45 := (qL qS).mono c99.le f45
          have w104 := w94.back w102
          cases (show v100 = (V.str (t95.1)) from f101)
          obtain ⟨g105, e71⟩ := gd_some e71
          cases e71
          refine rd_catS g105 ?_
          refine rd_gn ?_
          exact ⟨F97, _, _, _, _, _, rfl, S103, w104⟩
        · skip
          cases e71
          refine rd_next ?_
          exact ⟨F76, _, _, _, _, _, rfl, S82, w83⟩
      · skip
        rintro σ107 H106 ⟨F108, o110, o111, o112, o113, o114, rfl, S109, w115⟩
        have S116 := S67.call1 S109 w68
        have f__law_script := qC.mono S109.le f__law_script
        have f45 := (qL qS).mono S109.le f45
        have w117 : Ow P0 H0 _ _ _ _ := ⟨w115.fr, w115.at_, w68.mine⟩
        refine rd_seq ?_
        refine rd_asg ?_
        refine rd_cb ?_
        refine rd_cons ?_
        refine rd_v rfl ?_
        refine rd_nil ?_
        refine rd_listQ (S116.l f45).r.q ?_
        refine alL' S116 (fun v118 F119 H120 c121 f122 => ?_)
        have S123 := S116.call0 c121
        have f__law_script := qC.mono c121.le f__law_script
        have f45 := (qL qS).mono c121.le f45
        have w117 := w117.call0 c121
        obtain ⟨t124, e125, hm27⟩ := bd_some hm27
        refine rd_gn ?_
        refine rd_seq ?_
        refine rd_asg ?_
        refine rd_call ?_
        refine rd_cons ?_
        refine rd_v rfl ?_
        refine rd_nil ?_
        refine ⟨F119, _, _, t124, rfl, S123.sub, (.inl f122), e125, fun v129 F126 H127 c128 f130 => ?_⟩
        have S131 := S123.call0 c128
        have f__law_script := qC.mono c128.le f__law_script
        have f45 := (qL qS).mono c128.le f45
        have f122 := (qL qS).mono c128.le f122
        have w117 := w117.call0 c128
        obtain ⟨t132, e133, hm27⟩ := bd_some hm27
        refine rd_gn ?_
        refine rd_seq ?_
        refine rd_ifS ?_
        refine rd_or ?_
        refine rd_not ?_
        refine rd_tB ?_
        refine rd_cb ?_
        refine rd_cons ?_
        refine rd_v rfl ?_
        refine rd_cons ?_
        refine rd_c ?_
        refine rd_nil ?_
        refine rd_isi (b := true) (tx_list (S131.l f130).r) (by decide +kernel) ?_
        refine rd_b ?_
        refine if_ff ?_
        refine rd_or ?_
        refine rd_test ?_
        refine rd_op ?_
        refine rd_v rfl ?_
        refine rd_call ?_
        refine rd_cons ?_
        refine rd_v rfl ?_
        refine rd_nil ?_
        refine ⟨F126, _, _, t132, rfl, S131.sub, f45, e133, fun v137 F134 H135 c136 f138 => ?_⟩
        have S139 := S131.call0 c136
        have f__law_script := qC.mono c136.le f__law_script
        have f45 := (qL qS).mono c136.le f45
        have f122 := (qL qS).mono c136.le f122
        have f130 := (qL qS).mono c136.le f130
        have w117 := w117.call0 c136
        obtain ⟨g140, hm27⟩ := gd_some hm27
        obtain ⟨g141, hm27⟩ := gd_some hm27
        obtain ⟨t144, e145, hm27⟩ := bd_some hm27
        refine rd_neD (D := (dL dS)) (S139.d (dL dS) f130) (S139.d (dL dS) f138) g140 g141 ?_
        refine rd_b ?_
        refine or_j (fun c H' => c = t144 ∧ ∃ F', Sx P0 F134 H135 F' H') ?_ ?_ ?_
        · intro b146 Q147 q148
          have e145 := if_f e145 b146
          have S149 := Sx.refl0 S139.sub
          obtain ⟨g150, e145⟩ := gd_some e145
          obtain ⟨g151, e145⟩ := gd_some e145
          cases e145
          refine rd_test ?_
          refine rd_op ?_
          refine rd_v rfl ?_
          refine rd_v rfl ?_
          refine rd_neD (D := (dL dS)) (S149.d (dL dS) f122) (S149.d (dL dS) f45) g150 g151 ?_
          refine rd_b ?_
          exact q148 _ _ ⟨rfl, F134, S149⟩
        · intro b146
          have e145 := if_t e145 b146
          cases e145
          have S152 := Sx.refl0 S139.sub
          exact ⟨rfl, F134, S152⟩
        rintro b156 H154 ⟨rfl, F153, c155⟩
        have S157 := S139.call0 c155
        have f__law_script := qC.mono c155.le f__law_script
        have f45 := (qL qS).mono c155.le f45
        have f122 := (qL qS).mono c155.le f122
        have f130 := (qL qS).mono c155.le f130
        have w117 := w117.call0 c155
        refine if_b hm27 (fun b158 hm27 => ?_) (fun b158 hm27 => ?_)
        · skip
          cases hm27
          have e159 := hrt26 _ rfl
          subst e159
          have hm := aft_rt hm
          have S160 := S.call0 S157
          cases hm
          refine rd_ret ?_
          refine rd_c ?_
          exact hQ _ _ _ S160 rfl
        · skip
          obtain ⟨t161, e162, hm27⟩ := bd_some hm27
          refine rd_next ?_
          refine rd_seq ?_
          refine rd_asg ?_
          refine rd_call ?_
          refine rd_cons ?_
          refine rd_v rfl ?_
          refine rd_nil ?_
          refine ⟨F153, _, _, t161, rfl, S157.sub, f130, e162, fun v166 F163 H164 c165 f167 => ?_⟩
          have S168 := S157.call0 c165
          have f__law_script := qC.mono c165.le f__law_script
          have f45 := (qL qS).mono c165.le f45
          have f122 := (qL qS).mono c165.le f122
          have f130 := (qL qS).mono c165.le f130
          have w117 := w117.call0 c165
          obtain ⟨g169, hm27⟩ := gd_some hm27
          obtain ⟨g170, hm27⟩ := gd_some hm27
          refine rd_gn ?_
          refine rd_seq ?_
          refine rd_for ?_
          refine rd_iR1 ?_
          refine rd_cons ?_
          refine rd_op ?_
          refine rd_cb ?_
          refine rd_cons ?_
          refine rd_v rfl ?_
          refine rd_nil ?_
          refine rd_lenS g169 ?_
          refine rd_c ?_
          refine rd_I0 ?_
          refine rd_nil ?_
          refine rd_r1 g170 ?_
          obtain ⟨t171, e172, hm27⟩ := bd_some hm27
          refine rd_forC feedsRg (typedR (K := K) (F := F163)) e172 (fun (s173 : (List Int)) σ H => ∃ (F : Hp) (x0 : V) (o8 : Option V) (o9 : Option V), σ = [some v__law_script, some (V.int (x7)), some (V.ref p33), some v44, some (V.str (t70.2)), some v118, some v129, some x0, o8, o9] ∧ Sx P0 F163 H164 F H ∧ (qT qI).r K F x0 s173) ?_ ?_ ?_ ?_
          · intro _ _ _ _; trivial
          · skip
            have S175 := Sx.refl0 S168.sub
            exact ⟨F163, _, _, _, rfl, S175, f167⟩
          · skip
            rintro x176 v177 s178 c182 σ179 H180 f181 ⟨F183, x185, o186, o187, rfl, S184, f188⟩ hm191 hbk189 hrt190
            have f__law_script := qC.mono S184.le f__law_script
            have f45 := (qL qS).mono S184.le f45
            have f122 := (qL qS).mono S184.le f122
            have f130 := (qL qS).mono S184.le f130
            have w117 := w117.call0 S184
            unfold m_law_b1 at hm191
            cases (show v177 = (V.int (x176)) from f181)
            obtain ⟨t192, e193, hm191⟩ := bd_some hm191
            refine rd_gn ?_
            refine rd_cut (fun σ' H' => ∃ (F : Hp) (x0 : V) (o9 : Option V), σ' = [some v__law_script, some (V.int (x7)), some (V.ref p33), some v44, some (V.str (t70.2)), some v118, some v129, some x0, some (V.int (x176)), o9] ∧ Sx P0 F183 H180 F H' ∧ (qT qI).r K F x0 t192) ?_ ?_
            · skip
              have S194 := Sx.refl0 S184.sub
              refine rd_ifS ?_
              refine rd_test ?_
              refine rd_op ?_
              refine rd_v rfl ?_
              refine rd_c ?_
              refine rd_I0 ?_
              refine rd_b ?_
              refine if_b e193 (fun b195 e193 => ?_) (fun b195 e193 => ?_)
              · skip
                obtain ⟨t196, e197, e193⟩ := bd_some e193
                obtain ⟨t198, e199, e193⟩ := bd_some e193
                refine rd_asg ?_
                refine rd_call ?_
                refine rd_cons ?_
                refine rd_v rfl ?_
                refine rd_cons ?_
                refine rd_v rfl ?_
                refine rd_cons ?_
                refine rd_op ?_
                refine rd_v rfl ?_
                refine rd_op ?_
                refine rd_v rfl ?_
                refine rd_c ?_
                refine rd_I0 ?_
                refine rd_ixS e197 ?_
                refine rd_nil ?_
                refine ⟨F183, _, _, _, _, _, t198, rfl, S194.sub, f130, (.inr f188), e199, fun v203 F200 H201 c202 f204 => ?_⟩
                have S205 := S194.call0 c202
                have f__law_script := qC.mono c202.le f__law_script
                have f45 := (qL qS).mono c202.le f45
                have f122 := (qL qS).mono c202.le f122
                have f130 := (qL qS).mono c202.le f130
                have f188 := (qT qI).mono c202.le f188
                have w117 := w117.call0 c202
                cases e193
                refine rd_gn ?_
                exact ⟨F200, _, _, rfl, S205, f204⟩
              · skip
                cases e193
                refine rd_next ?_
                exact ⟨F183, _, _, rfl, S194, f188⟩
            · skip
              rintro σ207 H206 ⟨F208, x210, o211, rfl, S209, f212⟩
              have S213 := S184.call0 S209
              have f__law_script := qC.mono S209.le f__law_script
              have f45 := (qL qS).mono S209.le f45
              have f122 := (qL qS).mono S209.le f122
              have f130 := (qL qS).mono S209.le f130
              have w117 := w117.call0 S209
              obtain ⟨g214, hm191⟩ := gd_some hm191
              obtain ⟨t215, e216, hm191⟩ := bd_some hm191
              refine rd_seq ?_
              refine rd_asg ?_
              refine rd_call ?_
              refine rd_cons ?_
              refine rd_v rfl ?_
              refine rd_cons ?_
              refine rd_sl ?_
              refine rd_v rfl ?_
              refine rd_np ?_
              refine rd_pt ?_
              refine rd_v rfl ?_
              refine rd_i ?_
              refine rd_slS g214 ?_
              refine rd_nil ?_
              refine ⟨F208, _, _, _, t215, rfl, S213.sub, f130, e216, fun v220 F217 H218 c219 f221 => ?_⟩
              have S222 := S213.call0 c219
              have f__law_script := qC.mono c219.le f__law_script
              have f45 := (qL qS).mono c219.le f45
              have f122 := (qL qS).mono c219.le f122
              have f130 := (qL qS).mono c219.le f130
              have f212 := (qT qI).mono c219.le f212
              have w117 := w117.call0 c219
              obtain ⟨t223, e224, hm191⟩ := bd_some hm191
              refine rd_gn ?_
              refine rd_ifS ?_
              refine rd_or ?_
              refine rd_not ?_
              refine rd_tB ?_
              refine rd_call ?_
              refine rd_cons ?_
              refine rd_v rfl ?_
              refine rd_cons ?_
              refine rd_v rfl ?_
              refine rd_nil ?_
              refine ⟨F217, _, _, _, _, t223, rfl, S222.sub, f212, f221, e224, fun v228 F225 H226 c227 f229 => ?_⟩
              have S230 := S222.call0 c227
              have f__law_script := qC.mono c227.le f__law_script
              have f45 := (qL qS).mono c227.le f45
              have f122 := (qL qS).mono c227.le f122
              have f130 := (qL qS).mono c227.le f130
              have f212 := (qT qI).mono c227.le f212
              have f221 := (qT qI).mono c227.le f221
              have w117 := w117.call0 c227
              cases (show v228 = (V.bl (t223)) from f229)
              obtain ⟨t239, e240, hm191⟩ := bd_some hm191
              refine rd_b ?_
              refine or_j (fun c H' => c = t239 ∧ ∃ F', Sx P0 F225 H226 F' H') ?_ ?_ ?_
              · intro b241 Q242 q243
                have e240 := if_f e240 b241
                have S244 := Sx.refl0 S230.sub
                obtain ⟨t245, e246, e240⟩ := bd_some e240
                refine rd_test ?_
                refine rd_op ?_
                refine rd_call ?_
                refine rd_cons ?_
                refine rd_v rfl ?_
                refine rd_cons ?_
                refine rd_v rfl ?_
                refine rd_nil ?_
                refine ⟨F225, _, _, _, _, t245, rfl, S244.sub, f130, (.inr f212), e246, fun v250 F247 H248 c249 f251 => ?_⟩
                have S252 := S244.call0 c249
                have f__law_script := qC.mono c249.le f__law_script
                have f45 := (qL qS).mono c249.le f45
                have f122 := (qL qS).mono c249.le f122
                have f130 := (qL qS).mono c249.le f130
                have f212 := (qT qI).mono c249.le f212
                have f221 := (qT qI).mono c249.le f221
                have w117 := w117.call0 c249
                cases (show v250 = (V.bl (t245)) from f251)
                cases e240
                refine rd_op ?_
                refine rd_cb ?_
                refine rd_cons ?_
                refine rd_v rfl ?_
                refine rd_nil ?_
                refine rd_lenQ (S252.l f130).r.q ?_
                refine rd_v rfl ?_
                refine rd_inI (S252.t f221).q ?_
                refine rd_B0 ?_
                refine rd_b ?_
                exact q243 _ _ ⟨rfl, F247, S252⟩
              · intro b241
                have e240 := if_t e240 b241
                cases e240
                have S253 := Sx.refl0 S230.sub
                exact ⟨rfl, F225, S253⟩
              rintro b257 H255 ⟨rfl, F254, c256⟩
              have S258 := S230.call0 c256
              have f__law_script := qC.mono c256.le f__law_script
              have f45 := (qL qS).mono c256.le f45
              have f122 := (qL qS).mono c256.le f122
              have f130 := (qL qS).mono c256.le f130
              have f212 := (qT qI).mono c256.le f212
              have f221 := (qT qI).mono c256.le f221
              have w117 := w117.call0 c256
              refine if_b hm191 (fun b259 hm191 => ?_) (fun b259 hm191 => ?_)
              · skip
                cases hm191
                have e260 := hrt190 _ rfl
                subst e260
                have hm27 := aftC_rt hm27
                cases hm27
                have e261 := hrt26 _ rfl
                subst e261
                have hm := aft_rt hm
                have S262 := S168.call0 S258
                have S263 := S.call0 S262
                cases hm
                refine rd_ret ?_
                refine rd_c ?_
                exact hQ _ _ _ S263 rfl
              · skip
                cases hm191
                refine rd_next ?_
                exact ⟨_, rfl, ⟨F254, _, _, _, rfl, S258, f212⟩⟩
          · skip
            rintro s266 σ264 H265 e267 ⟨F268, x270, o271, o272, rfl, S269, f273⟩
            subst e267
            have hm27 := aftC_nx hm27
            have S274 := S168.call0 S269
            have f__law_script := qC.mono S269.le f__law_script
            have f45 := (qL qS).mono S269.le f45
            have f122 := (qL qS).mono S269.le f122
            have f130 := (qL qS).mono S269.le f130
            have w117 := w117.call0 S269
            obtain ⟨t275, e276, hm27⟩ := bd_some hm27
            refine rd_ifS ?_
            refine rd_or ?_
            refine rd_test ?_
            refine rd_op ?_
            refine rd_v rfl ?_
            refine rd_call ?_
            refine rd_cons ?_
            refine rd_v rfl ?_
            refine rd_nil ?_
            refine ⟨F268, _, _, t275, rfl, S274.sub, f45, e276, fun v280 F277 H278 c279 f281 => ?_⟩
            have S282 := S274.call0 c279
            have f__law_script := qC.mono c279.le f__law_script
            have f45 := (qL qS).mono c279.le f45
            have f122 := (qL qS).mono c279.le f122
            have f130 := (qL qS).mono c279.le f130
            have f273 := (qT qI).mono c279.le f273
            have w117 := w117.call0 c279
            obtain ⟨g283, hm27⟩ := gd_some hm27
            obtain ⟨g284, hm27⟩ := gd_some hm27
            obtain ⟨t301, e302, hm27⟩ := bd_some hm27
            refine rd_neD (D := (dL dS)) (S282.d (dL dS) f130) (S282.d (dL dS) f281) g283 g284 ?_
            refine rd_b ?_
            refine or_j (fun c H' => c = t301 ∧ ∃ F', Sx P0 F277 H278 F' H') ?_ ?_ ?_
            · intro b303 Q304 q305
              have e302 := if_f e302 b303
              have S306 := Sx.refl0 S282.sub
              refine rd_test ?_
              refine rd_op ?_
              refine rd_call ?_
              refine rd_cons ?_
              refine rd_thn ?_
              refine rd_v rfl ?_
              refine rd_tuple (S306.l f45).r ?_
              refine alT' S306 (fun v307 F308 H309 c310 f311 => ?_)
              have S312 := S306.call0 c310
              have f__law_script := qC.mono c310.le f__law_script
              have f45 := (qL qS).mono c310.le f45
              have f122 := (qL qS).mono c310.le f122
              have f130 := (qL qS).mono c310.le f130
              have f273 := (qT qI).mono c310.le f273
              have w117 := w117.call0 c310
              obtain ⟨t313, e314, e302⟩ := bd_some e302
              refine rd_nil ?_
              refine ⟨F308, _, _, t313, rfl, S312.sub, (.inr f311), e314, fun v318 F315 H316 c317 f319 => ?_⟩
              have S320 := S312.call0 c317
              have f__law_script := qC.mono c317.le f__law_script
              have f45 := (qL qS).mono c317.le f45
              have f122 := (qL qS).mono c317.le f122
              have f130 := (qL qS).mono c317.le f130
              have f273 := (qT qI).mono c317.le f273
              have w117 := w117.call0 c317
              obtain ⟨g321, e302⟩ := gd_some e302
              obtain ⟨g322, e302⟩ := gd_some e302
              cases e302
              refine rd_v rfl ?_
              refine rd_neD (D := (dL dS)) (S320.d (dL dS) f319) (S320.d (dL dS) f130) g321 g322 ?_
              refine rd_b ?_
              exact q305 _ _ ⟨rfl, F315, S320⟩
            · intro b303
              have e302 := if_t e302 b303
              cases e302
              have S323 := Sx.refl0 S282.sub
              exact ⟨rfl, F277, S323⟩
            rintro b327 H325 ⟨rfl, F324, c326⟩
            have S328 := S282.call0 c326
            have f__law_script := qC.mono c326.le f__law_script
            have f45 := (qL qS).mono c326.le f45
            have f122 := (qL qS).mono c326.le f122
            have f130 := (qL qS).mono c326.le f130
            have f273 := (qT qI).mono c326.le f273
            have w117 := w117.call0 c326
            refine if_b hm27 (fun b329 hm27 => ?_) (fun b329 hm27 => ?_)
            · skip
              cases hm27
              have e330 := hrt26 _ rfl
              subst e330
              have hm := aft_rt hm
              have S331 := S.call0 S328
              cases hm
              refine rd_ret ?_
              refine rd_c ?_
              exact hQ _ _ _ S331 rfl
            · skip
              cases hm27
              refine rd_next ?_
              exact ⟨_, rfl, ⟨F324, _, _, _, _, _, _, _, _, _, rfl, S328⟩⟩
    · skip
      rintro s334 σ332 H333 e335 ⟨F336, o338, o339, o340, o341, o342, o343, o344, o345, o346, rfl, S337⟩
      subst e335
      have hm := aft_nx hm
      have S347 := S.call0 S337
      have f__law_script := qC.mono S337.le f__law_script
      cases hm
      refine rd_ret ?_
      refine rd_c ?_
      exact hQ _ _ _ S347 rfl
end

/-! ### the drawn numbers -/
theorem take_ok {p : Int × Int} {n : Int} (h : 0 < n) (h2 : n < 1000000) : Ok (m_law_take p n) fun r => 0 ≤ r.1 ∧ r.1 < n := by
  unfold m_law_take
  have hm : modOk n = true := modOk_ok h
  have hz : n ≠ 0 := by omega
  refine Ok.ite (fun _ => ?_) fun _ => ?_
  · exact Ok.gd hm (Ok.gd (divOk_ok h (by omega)) (Ok.sm ⟨Int.emod_nonneg _ hz, Int.emod_lt_of_pos _ h⟩))
  · have b1 : 0 ≤ (p.2 * 48271 + 11) % 2147483647 := Int.emod_nonneg _ (by decide)
    have b2 : (p.2 * 48271 + 11) % 2147483647 < 2147483647 := Int.emod_lt_of_pos _ (by decide)
    refine Ok.gd (mulOk_r (by decide) (by decide)) (Ok.gd (by decide) (Ok.gd (mulOk_l ?_ ?_) (Ok.gd (by decide) (Ok.gd (by decide) (Ok.gd hm (Ok.sm ⟨Int.emod_nonneg _ hz, Int.emod_lt_of_pos _ h⟩))))))
    · show -(2 ^ 64) < (p.2 * 48271 + 11) % 2147483647
      omega
    · show (p.2 * 48271 + 11) % 2147483647 < 2 ^ 64
      omega
theorem pool_ok {ns : List Int} {k : Int} (h0 : 0 ≤ k) (h1 : k < 1000) : Ok (m_law_pool ns k) fun _ => True := by
  unfold m_law_pool
  refine Ok.bd (P := fun _ => True) (Ok.gd (shp_lI _) (Ok.gd (shp_lI _) (Ok.ite (fun e => ?_) fun _ => Ok.sm trivial))) fun t _ => ?_
  · have hn : ns ≠ [] := by simpa using e
    have hl : (0 : Int) < (ns.length : Int) := by
      cases ns with
      | nil => exact absurd rfl hn
      | cons x xs => show (0 : Int) < ((xs.length + 1 : Nat) : Int); omega
    refine Ok.gd (modOk_ok hl) ?_
    have b1 : 0 ≤ k % (ns.length : Int) := Int.emod_nonneg _ (by omega)
    have b2 : k % (ns.length : Int) < ns.length := Int.emod_lt_of_pos _ hl
    have hlt : (k % (ns.length : Int)).toNat < ns.length := by omega
    exact Ok.bde (a := ns[(k % (ns.length : Int)).toNat]) (by rw [atI_nn b1 b2]; simp [hlt]) (Ok.sm trivial)
  · have b1 : 0 ≤ t % 2147483629 := Int.emod_nonneg _ (by decide)
    have b2 : t % 2147483629 < 2147483629 := Int.emod_lt_of_pos _ (by decide)
    refine Ok.gd (by decide) (Ok.gd (mulOk_l (by decide) (by decide)) (Ok.gd (mulOk_r (by decide) (by decide)) (Ok.gd (by decide) (Ok.gd (by decide) (Ok.gd (mulOk_r ?_ ?_) (Ok.sm trivial))))))
    · unfold b2I; split <;> decide
    · unfold b2I; split <;> decide

/-! ### texts of the 68 signs -/
abbrev SG : Str := " #-.0123456789:>ABCDEFGHIJKLMNOPQRSTUVWXYZabcdefghijklmnopqrstuvwxyz"
def gs (s : Str) : Prop := ∀ c ∈ cl s, c ∈ cl SG
theorem gs_app {a b : Str} (h : gs a) (k : gs b) : gs (a ++ b) := by
  intro c hc
  rw [cl_app, List.mem_append] at hc
  exact hc.elim (h c) (k c)
theorem gs_sg {c : Nat} (h : c ∈ cl SG) : gs ⟨#[c]⟩ := fun d hd => by
  rw [cl_sg, List.mem_singleton] at hd
  rw [hd]; exact h
theorem mem_cut {α : Type} {xs : List α} {lo hi : Option Int} {a : α} (h : a ∈ cut xs lo hi) : a ∈ xs := List.mem_of_mem_drop (List.mem_of_mem_take h)
theorem gs_cut {s : Str} {lo hi : Option Int} (h : gs s) : gs (cutS s lo hi) := fun c hc => h c (mem_cut (by rw [← cl_cut]; exact hc))
theorem gs_rep {s : Str} {n : Int} (h0 : 0 ≤ n) (h : gs s) : gs (repS s n) := fun c hc => by
  rw [repS_cl h0, List.mem_flatten] at hc
  obtain ⟨l, h1, h2⟩ := hc
  rw [List.mem_replicate] at h1
  exact h c (h1.2 ▸ h2)
theorem gs_ok {s : Str} (h : gs s) : okS s := by
  have e : ∀ c ∈ cl SG, c < 0x110000 := by decide +kernel
  show (s.cps.all (· < 0x110000)) = true
  rw [Array.all_eq_true_iff_forall_mem]
  intro c hc
  exact decide_eq_true (e c (h c (Array.mem_toList_iff.mpr hc)))
theorem gs_nil : gs "" := fun c hc => by
  have e : cl "" = [] := by decide +kernel
  rw [e] at hc
  exact absurd hc List.not_mem_nil
theorem gs_at {s z : Str} {c : Nat} {i : Nat} (h : gs s) (h1 : (cl s)[i]? = some c) (h2 : z = ⟨#[c]⟩) : gs z ∧ z.length = 1 := by
  subst h2
  exact ⟨gs_sg (h c (List.mem_of_getElem? h1)), rfl⟩
theorem gs_SG : gs SG := fun c hc => hc
theorem ix_gs {s : Str} {i : Int} (g : gs s) (h : 0 ≤ i) (h2 : i < s.length) (h3 : s.length ≤ 1000000) : Ok (ixS s i) fun z => gs z ∧ z.length = 1 :=
  (ixS_ok h h2 (Nat.le_trans h3 sizeLine_big)).mono fun z ⟨c, h1, h2⟩ => gs_at g h1 h2
theorem len_app (a b : Str) : (a ++ b).length = a.length + b.length := by rw [cl_len, cl_app, List.length_append, ← cl_len, ← cl_len]
theorem len_rep {s : Str} {n : Int} (h : 0 ≤ n) : (repS s n).length = n.toNat * s.length := by
  rw [cl_len, repS_cl h, List.length_flatten, List.map_replicate, List.sum_replicate_nat, ← cl_len]
theorem len_cut_to {s : Str} {n : Int} (h : 0 ≤ n) : (cutS s none (some n)).length = min n.toNat s.length := by
  rw [cl_len, cl_cut, cut_to _ h, List.length_take, ← cl_len]
theorem len_cut_from {s : Str} {n : Int} (h : 0 ≤ n) : (cutS s (some n) none).length = s.length - n.toNat := by
  rw [cl_len, cl_cut, cut_from _ h, List.length_drop, ← cl_len]
theorem len_nil : ("" : Str).length = 0 := by decide +kernel

/-! ### drawn texts, parts, lines -/
theorem text_ok {p : Int × Int} : Ok (m_law_text p) fun r => gs r.1 ∧ 1 ≤ r.1.length ∧ r.1.length ≤ 4 := by
  unfold m_law_text
  refine Ok.bd (take_ok (by decide) (by decide)) fun t1 _ => Ok.bd (take_ok (by decide) (by decide)) fun t2 h2 => ?_
  refine Ok.gd (rgOk_ok (by omega) (by omega) (by omega) (by omega)) ?_
  refine Ok.bd (Ok.loop (fun pre s => gs s.2 ∧ s.2.length = pre.length) ⟨gs_nil, len_nil⟩ fun pre x post s e ⟨g, l⟩ => ?_) fun s ⟨g, l⟩ => Ok.sm ⟨g, ?_, ?_⟩
  · unfold m_law_text_b1
    have fin : ∀ z : Str, gs z ∧ z.length = 1 → pre.length < 100 → gs (s.2 ++ z) ∧ (s.2 ++ z).length = (pre ++ [x]).length := fun z ⟨gz, lz⟩ _ => ⟨gs_app g gz, by rw [len_app, lz, l]; simp⟩
    have hp : pre.length < 100 := by
      have := congrArg List.length e
      rw [rng_len] at this
      simp at this
      omega
    refine Ok.ite (fun _ => ?_) fun _ => ?_
    · unfold m_law_all_signs
      refine Ok.bde rfl (Ok.bd (take_ok (by decide) (by decide)) fun d hd => Ok.bd (ix_gs gs_SG hd.1 ?_ (by decide +kernel)) fun z hz => Ok.gd (catOk_ok ?_) (Ok.sm (fin z hz hp)))
      · show d.1 < ((68 : Nat) : Int)
        exact hd.2
      · rw [hz.2, l]; omega
    · refine Ok.bd (take_ok (by decide) (by decide)) fun d hd => Ok.bd (ix_gs (s := "a1-b") (fun c hc => ?_) hd.1 ?_ (by decide +kernel)) fun z hz => Ok.gd (catOk_ok ?_) (Ok.sm (fin z hz hp))
      · revert c; decide +kernel
      · show d.1 < ((4 : Nat) : Int)
        exact hd.2
      · rw [hz.2, l]; omega
  · show 1 ≤ s.2.length
    rw [l, rng_len]; omega
  · show s.2.length ≤ 4
    rw [l, rng_len]; omega
abbrev DG : Str := "<digits>"
abbrev WD : Str := "<word>"
abbrev AN : Str := "<any>"
/-- a part as a form has it -/
def part (s : Str) : Prop := s = AN ∨ s = DG ∨ s = WD ∨ (gs s ∧ 1 ≤ s.length ∧ s.length ≤ 4)
theorem part_ok {s : Str} (h : part s) : okS s := by
  rcases h with rfl | rfl | rfl | h
  · show PyData.strOk _ = true; decide +kernel
  · show PyData.strOk _ = true; decide +kernel
  · show PyData.strOk _ = true; decide +kernel
  · exact gs_ok h.1
theorem part_len {s : Str} (h : part s) : 1 ≤ s.length ∧ s.length ≤ 8 := by
  rcases h with rfl | rfl | rfl | h
  · decide +kernel
  · decide +kernel
  · decide +kernel
  · omega
theorem rich_ok {p : Int × Int} : Ok (m_law_rich p) fun r => (∀ s ∈ r.1, part s) ∧ 1 ≤ r.1.length ∧ r.1.length ≤ 4 := by
  unfold m_law_rich
  refine Ok.bd (take_ok (by decide) (by decide)) fun t1 h1 => Ok.gd (rgOk_ok (by omega) (by omega) (by omega) (by omega)) ?_
  refine Ok.bd (Ok.loop (fun pre s => (∀ z ∈ s.2, part z) ∧ s.2.length = pre.length) ⟨fun z hz => absurd hz List.not_mem_nil, rfl⟩ fun pre x post s e ⟨g, l⟩ => ?_) fun s ⟨g, l⟩ => Ok.sm ⟨g, ?_, ?_⟩
  · have hp : pre.length < 100 := by
      have := congrArg List.length e
      rw [rng_len] at this
      simp at this
      omega
    have fin : ∀ z : Str, part z → (∀ y ∈ s.2 ++ [z], part y) ∧ (s.2 ++ [z]).length = (pre ++ [x]).length := fun z hz => by
      refine ⟨fun y hy => ?_, by simp [l]⟩
      rcases List.mem_append.mp hy with hy | hy
      · exact g y hy
      · rw [List.mem_singleton] at hy; rw [hy]; exact hz
    have hf : fits s.2 = true := fits_ok (by omega)
    unfold m_law_rich_b1
    refine Ok.bd (take_ok (by decide) (by decide)) fun t2 h2 => Ok.gd (shp_lS fun z hz => part_ok (g z hz)) (Ok.gd (shp_lS fun z hz => absurd hz List.not_mem_nil) ?_)
    refine Ok.bd (P := fun _ => True) (Ok.ite (fun hn => ?_) fun _ => Ok.sm trivial) fun b _ => ?_
    · have hn : s.2 ≠ [] := by simpa using hn
      obtain ⟨q, z, hq⟩ : ∃ q z, s.2 = q ++ [z] := ⟨s.2.dropLast, s.2.getLast hn, (List.dropLast_concat_getLast hn).symm⟩
      exact Ok.bde (a := z) (by rw [hq]; exact atI_last) (Ok.sm trivial)
    · refine Ok.ite (fun _ => Ok.gd hf (Ok.sm (fin _ (.inl rfl)))) fun _ => Ok.ite (fun _ => Ok.gd hf (Ok.sm (fin _ (.inr (.inl rfl))))) fun _ => Ok.ite (fun _ => Ok.gd hf (Ok.sm (fin _ (.inr (.inr (.inl rfl)))))) fun _ => ?_
      exact Ok.bd text_ok fun t3 h3 => Ok.gd hf (Ok.sm (fin _ (.inr (.inr (.inr h3)))))
  · show 1 ≤ s.2.length
    rw [l, rng_len]; omega
  · show s.2.length ≤ 4
    rw [l, rng_len]; omega
theorem line_ok {p : Int × Int} {ps : List Str} (h : ∀ s ∈ ps, part s) (hl : ps.length ≤ 4) : Ok (m_law_line p ps) fun r => gs r.1 ∧ r.1.length ≤ 40 := by
  unfold m_law_line
  refine Ok.bd (Ok.loop (fun pre s => gs s.2 ∧ s.2.length ≤ 10 * pre.length) ⟨gs_nil, by rw [len_nil]; omega⟩ fun pre x post s e ⟨g, l⟩ => ?_) fun s ⟨g, l⟩ => Ok.sm ⟨g, ?_⟩
  · have hp : pre.length ≤ 3 := by
      have := congrArg List.length e
      simp at this
      omega
    have hx : part x := h x (by rw [e]; simp)
    have fin : ∀ z : Str, gs z → z.length ≤ 10 → gs (s.2 ++ z) ∧ (s.2 ++ z).length ≤ 10 * (pre ++ [x]).length := fun z gz lz => ⟨gs_app g gz, by rw [len_app]; simp; omega⟩
    have rep : ∀ (z : Str) (n : Int), gs z → z.length ≤ 4 → 0 ≤ n → n * z.length ≤ 10 → n ≤ 100 → repOk z n = true ∧ catOk s.2 (repS z n) = true ∧ gs (s.2 ++ repS z n) ∧ (s.2 ++ repS z n).length ≤ 10 * (pre ++ [x]).length := by
      intro z n gz lz h0 h1 h2
      have e1 : (repS z n).length ≤ 10 := by
        rw [len_rep h0]
        have e2 : ((n.toNat * z.length : Nat) : Int) ≤ 10 := by
          rw [Int.natCast_mul, Int.toNat_of_nonneg h0]; exact h1
        omega
      exact ⟨repOk_ok h0 h2 (by omega), catOk_ok (by omega), fin _ (gs_rep h0 gz) e1⟩
    unfold m_law_line_b1
    refine Ok.ite (fun _ => ?_) fun n1 => Ok.ite (fun _ => ?_) fun n2 => Ok.ite (fun _ => ?_) fun n3 => ?_
    · refine Ok.bd (take_ok (by decide) (by decide)) fun d hd => Ok.bd (ix_gs (s := "0123456789") (fun c hc => ?_) hd.1 ?_ (by decide +kernel)) fun z hz => Ok.bd (take_ok (by decide) (by decide)) fun d2 hd2 => ?_
      · revert c; decide +kernel
      · show d.1 < ((10 : Nat) : Int)
        exact hd.2
      · obtain ⟨r1, r2, r3, r4⟩ := rep z (1 + d2.1) hz.1 (by omega) (by omega) (by rw [hz.2]; omega) (by omega)
        exact Ok.gd r1 (Ok.gd r2 (Ok.sm ⟨r3, r4⟩))
    · refine Ok.bd (take_ok (by decide) (by decide)) fun d hd => Ok.bd (ix_gs (s := "aBzb") (fun c hc => ?_) hd.1 ?_ (by decide +kernel)) fun z hz => Ok.bd (take_ok (by decide) (by decide)) fun d2 hd2 => ?_
      · revert c; decide +kernel
      · show d.1 < ((4 : Nat) : Int)
        exact hd.2
      · obtain ⟨r1, r2, r3, r4⟩ := rep z (1 + d2.1) hz.1 (by omega) (by omega) (by rw [hz.2]; omega) (by omega)
        exact Ok.gd r1 (Ok.gd r2 (Ok.sm ⟨r3, r4⟩))
    · refine Ok.bd text_ok fun z hz => Ok.bd (take_ok (by decide) (by decide)) fun d2 hd2 => ?_
      obtain ⟨r1, r2, r3, r4⟩ := rep z.1 d2.1 hz.1 hz.2.2 (by omega) (by
        have : d2.1 = 0 ∨ d2.1 = 1 ∨ d2.1 = 2 := by omega
        rcases this with e | e | e <;> rw [e] <;> omega) (by omega)
      exact Ok.gd r1 (Ok.gd r2 (Ok.sm ⟨r3, r4⟩))
    · rcases hx with rfl | rfl | rfl | hx
      · exact absurd n3 (by decide +kernel)
      · exact absurd n1 (by decide +kernel)
      · exact absurd n2 (by decide +kernel)
      · exact Ok.gd (catOk_ok (by omega)) (Ok.sm (fin x hx.1 (by omega)))
  · show s.2.length ≤ 40
    omega
theorem spoiled_ok {p : Int × Int} {z : Str} (g : gs z) (h : z.length ≤ 100) : Ok (m_law_spoiled p z) fun r => gs r.1 ∧ r.1.length ≤ z.length + 1 := by
  unfold m_law_spoiled
  have hf : fitsS z = true := fitsS_ok (by omega)
  refine Ok.gd hf (Ok.bd (take_ok (by omega) (by omega)) fun t1 h1 => ?_)
  unfold m_law_all_signs
  refine Ok.bde rfl (Ok.bd (take_ok (by decide) (by decide)) fun d hd => Ok.bd (ix_gs gs_SG hd.1 ?_ (by decide +kernel)) fun y hy => Ok.bd (take_ok (by decide) (by decide)) fun t2 h2 => ?_)
  · show d.1 < ((68 : Nat) : Int)
    exact hd.2
  have l1 := len_cut_to (s := z) h1.1
  have l2 := len_cut_from (s := z) h1.1
  have l3 := len_cut_from (s := z) (n := t1.1 + 1) (by omega)
  have g1 : gs (cutS z none (some t1.1)) := gs_cut g
  have g2 : gs (cutS z (some t1.1) none) := gs_cut g
  have g3 : gs (cutS z (some (t1.1 + 1)) none) := gs_cut g
  have l4 := len_app (cutS z none (some t1.1)) y
  refine Ok.ite (fun _ => Ok.gd hf (Ok.gd (catOk_ok (by omega)) (Ok.gd hf (Ok.gd (catOk_ok (by omega)) (Ok.sm ⟨gs_app (gs_app g1 hy.1) g2, ?_⟩))))) fun _ => Ok.ite (fun _ => Ok.gd hf (Ok.gd hf (Ok.gd (catOk_ok (by omega)) (Ok.sm ⟨gs_app g1 g3, ?_⟩)))) fun _ =>
    Ok.ite (fun _ => Ok.gd hf (Ok.gd (catOk_ok (by omega)) (Ok.gd hf (Ok.gd (catOk_ok (by omega)) (Ok.sm ⟨gs_app (gs_app g1 hy.1) g3, ?_⟩))))) fun _ => Ok.sm ⟨g, by show z.length ≤ _; omega⟩
  · show (_ ++ _ : Str).length ≤ _
    rw [len_app, len_app]; omega
  · show (_ ++ _ : Str).length ≤ _
    rw [len_app]; omega
  · show (_ ++ _ : Str).length ≤ _
    rw [len_app, len_app]; omega

/-! ### matching -/
theorem Ok.wh {S : Type} {c : S → Option (Bool × S)} {f : S → Option S} {Q : S → Prop} (I : S → Prop) (m : S → Nat) (hs : ∀ s, I s → Ok (c s) fun b => (b.1 = false ∧ Q b.2) ∨ (b.1 = true ∧ Ok (f b.2) fun s' => I s' ∧ m s' < m s)) : ∀ (N : Nat) (s : S), I s → m s < N → Ok (whileS c f N s) Q
  | 0, _, _, h => absurd h (Nat.not_lt_zero _)
  | N + 1, s, i, h => by
    obtain ⟨b, e, h1⟩ := hs s i
    show Ok ((c s).bind fun b => if b.1 = true then (f b.2).bind fun s' => whileS c f N s' else some b.2) Q
    rw [e]
    show Ok (if b.1 = true then (f b.2).bind fun s' => whileS c f N s' else some b.2) Q
    rcases h1 with ⟨hb, q⟩ | ⟨hb, h2⟩
    · rw [hb]; exact Ok.sm q
    · rw [hb]
      exact Ok.bd h2 fun s' ⟨i', h3⟩ => Ok.wh I m hs N s' i' (by omega)
theorem nodup_len : ∀ (n : Nat) (l : List Int), l.Nodup → (∀ x ∈ l, 0 ≤ x ∧ x < n) → l.length ≤ n
  | 0, l, _, h => by
    cases l with
    | nil => exact Nat.le_refl _
    | cons x l => have := h x List.mem_cons_self; omega
  | n + 1, l, hn, h => by
    have h1 := nodup_len n (l.erase (n : Int)) (hn.erase _) fun x hx => by
      rw [hn.mem_erase_iff] at hx
      have := h x hx.2
      have := hx.1
      omega
    by_cases hm : (n : Int) ∈ l
    · rw [List.length_erase_of_mem hm] at h1; omega
    · rw [List.erase_of_not_mem hm] at h1; omega
/-- what a cell takes -/
def tk (c x : Str) : Bool := if c = AN then true else if c = DG then inS x "0123456789" else if c = WD then inS x "ABCDEFGHIJKLMNOPQRSTUVWXYZabcdefghijklmnopqrstuvwxyz" else decide (c = x)
open Classical in
noncomputable def Pc (c : Str) (u : List Nat) : Prop := if c = AN then True else if c = DG ∨ c = WD then u ≠ [] ∧ ∀ x ∈ u, tk c ⟨#[x]⟩ = true else u = cl c
def Mt : List Str → List Nat → Prop
  | [], w => w = []
  | c :: cs, w => ∃ u v, w = u ++ v ∧ Pc c u ∧ Mt cs v
theorem Mt_snoc {c : Str} : ∀ {cs : List Str} {w : List Nat}, Mt (cs ++ [c]) w ↔ ∃ u v, w = u ++ v ∧ Mt cs u ∧ Pc c v
  | [], w => by
    constructor
    · rintro ⟨u, v, rfl, h, rfl⟩
      exact ⟨[], u, by simp, rfl, h⟩
    · rintro ⟨u, v, rfl, rfl, h⟩
      exact ⟨v, [], by simp, h, rfl⟩
  | d :: cs, w => by
    constructor
    · rintro ⟨u, v, rfl, h, k⟩
      obtain ⟨u2, v2, rfl, h2, k2⟩ := Mt_snoc.mp k
      exact ⟨u ++ u2, v2, by simp, ⟨u, u2, rfl, h, h2⟩, k2⟩
    · rintro ⟨u, v, rfl, ⟨u1, u2, rfl, h1, h2⟩, k⟩
      exact ⟨u1, u2 ++ v, by simp, h1, Mt_snoc.mpr ⟨u2, v, rfl, h2, k⟩⟩
theorem AN_ne : ¬ DG = AN ∧ ¬ WD = AN ∧ ¬ WD = DG := by decide +kernel
theorem Pc_any {u : List Nat} : Pc AN u := by unfold Pc; rw [if_pos rfl]; trivial
theorem Pc_run {c : Str} {u : List Nat} (h : c = DG ∨ c = WD) : Pc c u ↔ u ≠ [] ∧ ∀ x ∈ u, tk c ⟨#[x]⟩ = true := by
  have n : ¬ c = AN := by rcases h with rfl | rfl; exact AN_ne.1; exact AN_ne.2.1
  unfold Pc
  rw [if_neg n, if_pos h]
theorem Pc_fix {c : Str} {u : List Nat} (n : ¬ c = AN) (h : ¬ (c = DG ∨ c = WD)) : Pc c u ↔ u = cl c := by
  unfold Pc
  rw [if_neg n, if_neg h]
theorem takes_eq (c x : Str) : m_takes c x = some (tk c x) := by
  unfold m_takes tk
  by_cases h1 : c = AN
  · rw [if_pos (decide_eq_true h1), if_pos h1]
  · rw [if_neg (by rw [decide_eq_false h1]; decide), if_neg h1]
    by_cases h2 : c = DG
    · rw [if_pos (decide_eq_true h2), if_pos h2]
    · rw [if_neg (by rw [decide_eq_false h2]; decide), if_neg h2]
      by_cases h3 : c = WD
      · rw [if_pos (decide_eq_true h3), if_pos h3]
      · rw [if_neg (by rw [decide_eq_false h3]; decide), if_neg h3]
theorem ltakes_eq (c x : Str) (h : c = DG ∨ c = WD) : m_law_takes c x = some (tk c x) := by
  unfold m_law_takes tk
  rcases h with rfl | rfl
  · rw [if_pos (decide_eq_true rfl), if_neg AN_ne.1, if_pos rfl]
  · rw [if_neg (by rw [decide_eq_false AN_ne.2.2]; decide), if_neg AN_ne.2.1, if_neg AN_ne.2.2, if_pos rfl, decide_eq_true rfl, Bool.true_and]
theorem ite_no {α : Type} {p : Prop} [Decidable p] {x y : α} (h : ¬ p) : (if decide p = true then x else y) = y := if_neg (by rw [decide_eq_false h]; decide)
theorem ite_ya {α : Type} {p : Prop} [Decidable p] {x y : α} (h : p) : (if decide p = true then x else y) = x := if_pos (decide_eq_true h)
/-- the ends of a piece that begins at at_ -/
theorem ends_ok {c line : Str} {a : Int} (h0 : 0 ≤ a) (h1 : a ≤ line.length) (hl : line.length ≤ 500) (hc : c.length ≤ 500) :
    Ok (m_law_ends c line a) fun es => es.Nodup ∧ ∀ e, e ∈ es ↔ a ≤ e ∧ e ≤ line.length ∧ Pc c (((cl line).drop a.toNat).take (e.toNat - a.toNat)) := by
  have hf : fitsS line = true := fitsS_ok (by omega)
  have hfc : fitsS c = true := fitsS_ok (by omega)
  have rnd : ∀ a b : Int, (rng a b).Nodup := fun a b => by
    unfold rng
    refine List.Pairwise.map _ (fun x y h => ?_) List.nodup_range
    intro e
    apply h
    omega
  unfold m_law_ends
  by_cases n1 : c = AN
  · rw [ite_ya n1]
    refine Ok.gd hf (Ok.gd (rgFit_ok (by omega) (by omega) (by omega) (by omega)) (Ok.sm ⟨rnd _ _, fun e => ?_⟩))
    rw [rng_mem]
    subst n1
    constructor
    · intro h; exact ⟨h.1, by omega, Pc_any⟩
    · intro h; omega
  · rw [ite_no n1]
    by_cases n2 : c = DG ∨ c = WD
    · have mem : c ∈ [("<digits>" : Str), ("<word>" : Str)] := by
        rcases n2 with h | h
        · rw [h]; exact List.mem_cons_self
        · rw [h]; exact List.mem_cons_of_mem _ List.mem_cons_self
      rw [ite_ya mem]
      refine Ok.bd (P := fun es => es.Nodup ∧ ∀ e, e ∈ es ↔ a ≤ e ∧ e ≤ line.length ∧ Pc c (((cl line).drop a.toNat).take (e.toNat - a.toNat))) ?_ fun es hes => Ok.sm hes
      have ll : (cl line).length = line.length := (cl_len line).symm
      refine Ok.bd (P := fun s : List Int × Int => s.1 = rng (a + 1) (s.2 + 1) ∧ a ≤ s.2 ∧ s.2 ≤ line.length ∧ (∀ j : Nat, a ≤ j → (j : Int) < s.2 → ∃ x, (cl line)[j]? = some x ∧ tk c ⟨#[x]⟩ = true) ∧ (s.2 < line.length → ∃ x, (cl line)[s.2.toNat]? = some x ∧ tk c ⟨#[x]⟩ = false)) ?_ fun s ⟨e1, e2, e3, e4, e5⟩ => Ok.sm ⟨by rw [e1]; exact rnd _ _, fun e => ?_⟩
      · refine Ok.wh (fun s : List Int × Int => s.1 = rng (a + 1) (s.2 + 1) ∧ a ≤ s.2 ∧ s.2 ≤ line.length ∧ (∀ j : Nat, a ≤ j → (j : Int) < s.2 → ∃ x, (cl line)[j]? = some x ∧ tk c ⟨#[x]⟩ = true)) (fun s => line.length - s.2.toNat) (fun s ⟨e1, e2, e3, e4⟩ => ?_) fuel _ ⟨?_, Int.le_refl _, h1, fun j h2 h3 => absurd h3 (by omega)⟩ ?_
        · unfold m_law_ends_b1
          refine Ok.gd hf ?_
          by_cases hlt : s.2 < (line.length : Int)
          · rw [ite_ya hlt]
            have hlt2 : s.2.toNat < (cl line).length := by rw [ll]; omega
            have hz : ixS line s.2 = some ⟨#[(cl line)[s.2.toNat]]⟩ := by
              obtain ⟨z, e, x, hx, hz⟩ := ixS_ok (s := line) (i := s.2) (by omega) hlt (Nat.le_trans hl (Nat.le_trans (by decide) sizeLine_big))
              rw [e, hz]
              rw [List.getElem?_eq_getElem hlt2] at hx
              rw [Option.some.inj hx]
            rw [hz]
            show Ok (((m_law_takes c _).bind fun t68 => some t68).bind _) _
            rw [ltakes_eq c _ n2]
            show Ok (some (tk c _, (s.1, s.2))) _
            refine Ok.sm ?_
            cases hb : tk c ⟨#[(cl line)[s.2.toNat]]⟩ with
            | false => exact .inl ⟨rfl, e1, e2, e3, e4, fun _ => ⟨_, List.getElem?_eq_getElem hlt2, hb⟩⟩
            | true =>
              refine .inr ⟨rfl, ?_⟩
              unfold m_law_ends_b2
              refine Ok.gd (fits_ok ?_) (Ok.sm ⟨⟨?_, ?_, ?_, fun j h2 h3 => ?_⟩, ?_⟩)
              · show s.1.length < 1000000
                rw [e1, rng_len]; omega
              · show s.1 ++ [s.2 + 1] = rng (a + 1) (s.2 + 1 + 1)
                rw [rng_snoc (by omega), e1]
              · show a ≤ s.2 + 1
                omega
              · show s.2 + 1 ≤ line.length
                omega
              · have h3 : (j : Int) < s.2 + 1 := h3
                by_cases ej : (j : Int) < s.2
                · exact e4 j h2 ej
                · have : j = s.2.toNat := by omega
                  subst this
                  exact ⟨_, List.getElem?_eq_getElem hlt2, hb⟩
              · show line.length - (s.2 + 1).toNat < line.length - s.2.toNat
                omega
          · rw [ite_no hlt]
            show Ok (some (false, (s.1, s.2))) _
            exact Ok.sm (.inl ⟨rfl, e1, e2, e3, e4, fun h => absurd h hlt⟩)
        · show [] = rng (a + 1) (a + 1)
          unfold rng
          rw [show (a + 1 - (a + 1)).toNat = 0 by omega]; rfl
        · show line.length - a.toNat < 1000000000
          omega
      · show e ∈ s.1 ↔ _
        rw [e1, rng_mem, Pc_run n2]
        constructor
        · intro h
          refine ⟨by omega, by omega, ?_, fun x hx => ?_⟩
          · intro h2
            have := congrArg List.length h2
            rw [List.length_take, List.length_drop] at this
            simp at this
            omega
          · obtain ⟨i, hi⟩ := List.getElem?_of_mem hx
            rw [List.getElem?_take] at hi
            split at hi
            · rw [List.getElem?_drop] at hi
              obtain ⟨y, hy1, hy2⟩ := e4 (a.toNat + i) (by omega) (by omega)
              rw [hi] at hy1
              cases hy1
              exact hy2
            · cases hi
        · rintro ⟨h2, h3, h4, h5⟩
          refine ⟨?_, ?_⟩
          · apply Classical.byContradiction
            intro h6
            have : e.toNat - a.toNat = 0 := by omega
            rw [this] at h4
            exact h4 rfl
          · apply Classical.byContradiction
            intro h6
            obtain ⟨x, hx1, hx2⟩ := e5 (by omega)
            have := h5 x (by
              apply List.mem_of_getElem? (i := s.2.toNat - a.toNat)
              rw [List.getElem?_take, if_pos (by omega), List.getElem?_drop, ← hx1]
              congr 1
              omega)
            rw [this] at hx2
            cases hx2
    · have mem : ¬ c ∈ [("<digits>" : Str), ("<word>" : Str)] := by
        intro h
        rcases List.mem_cons.mp h with h | h
        · exact n2 (.inl h)
        · rcases List.mem_cons.mp h with h | h
          · exact n2 (.inr h)
          · cases h
      rw [ite_no mem]
      refine Ok.bd (P := fun es => es.Nodup ∧ ∀ e, e ∈ es ↔ a ≤ e ∧ e ≤ line.length ∧ Pc c (((cl line).drop a.toNat).take (e.toNat - a.toNat))) ?_ fun es hes => Ok.sm hes
      have ll : (cl line).length = line.length := (cl_len line).symm
      have cc : (cl c).length = c.length := (cl_len c).symm
      have ec : cl (cutS line (some a) (some (a + (c.length : Int)))) = ((cl line).drop a.toNat).take c.length := by
        rw [cl_cut, cut_mid _ h0 (by omega)]
        congr 1
        omega
      refine Ok.gd hfc (Ok.gd hf ?_)
      by_cases he : cutS line (some a) (some (a + (c.length : Int))) = c
      · rw [ite_ya he]
        rw [he] at ec
        refine Ok.gd hfc (Ok.gd (fits_ok (by simp)) (Ok.sm ⟨by simp, fun e => ?_⟩))
        rw [Pc_fix n1 n2]
        show e ∈ [a + (c.length : Int)] ↔ _
        rw [List.mem_singleton]
        have hlen := congrArg List.length ec
        rw [List.length_take, List.length_drop, cc, ll] at hlen
        constructor
        · rintro rfl
          refine ⟨by omega, by omega, ?_⟩
          rw [ec]
          congr 1
          omega
        · rintro ⟨h2, h3, h4⟩
          have := congrArg List.length h4
          rw [List.length_take, List.length_drop, cc, ll] at this
          omega
      · rw [ite_no he]
        refine Ok.sm ⟨List.nodup_nil, fun e => ?_⟩
        rw [Pc_fix n1 n2]
        constructor
        · intro h; cases h
        · rintro ⟨h2, h3, h4⟩
          exfalso
          apply he
          apply cl_inj
          rw [ec, ← h4]
          have := congrArg List.length h4
          rw [List.length_take, List.length_drop, cc, ll] at this
          congr 1
          omega
theorem take_mid {α : Type} {w : List α} {a b : Nat} (h : a ≤ b) : w.take b = w.take a ++ (w.drop a).take (b - a) := by
  have e : b = a + (b - a) := by omega
  rw [e, List.take_add, Nat.add_sub_cancel_left]
open Classical in
/-- a line fits parts -/
theorem fits_eq {ps : List Str} {line : Str} (hl : line.length ≤ 500) (hc : ∀ c ∈ ps, c.length ≤ 500) : m_law_fits ps line = some (decide (line ≠ "" ∧ Mt ps (cl line))) := by
  refine Ok.eq ?_
  have ll : (cl line).length = line.length := (cl_len line).symm
  have hf : fitsS line = true := fitsS_ok (by omega)
  unfold m_law_fits
  refine Ok.bd (Ok.loop (fun pre (s : List Int) => s.Nodup ∧ ∀ e, e ∈ s ↔ 0 ≤ e ∧ e ≤ line.length ∧ Mt pre ((cl line).take e.toNat)) ⟨by simp, fun e => ?_⟩ fun pre x post s hx ⟨nd, hs⟩ => ?_) fun s ⟨nd, hs⟩ => ?_
  · rw [List.mem_singleton]
    show e = 0 ↔ 0 ≤ e ∧ e ≤ line.length ∧ (cl line).take e.toNat = []
    constructor
    · rintro rfl; exact ⟨by omega, by omega, rfl⟩
    · rintro ⟨h1, h2, h3⟩
      have := congrArg List.length h3
      rw [List.length_take, ll] at this
      simp at this
      omega
  · unfold m_law_fits_b3
    refine Ok.bd (Ok.loop (fun pre2 (s2 : List Int) => s2.Nodup ∧ ∀ e, e ∈ s2 ↔ ∃ a ∈ pre2, a ≤ e ∧ e ≤ line.length ∧ Pc x (((cl line).drop a.toNat).take (e.toNat - a.toNat))) ⟨List.nodup_nil, fun e => ?_⟩ fun pre2 a post2 s2 ha ⟨nd2, hs2⟩ => ?_) fun s2 ⟨nd2, hs2⟩ => Ok.sm ⟨nd2, fun e => ?_⟩
    · constructor
      · intro h; cases h
      · rintro ⟨a, h, _⟩; cases h
    · have hab : a ∈ s := by rw [ha]; simp
      have hab2 := (hs a).mp hab
      have bnd : ∀ l : List Int, l.Nodup → (∀ e ∈ l, 0 ≤ e ∧ e ≤ line.length) → l.length ≤ 501 := fun l h h2 => by
        have := nodup_len (line.length + 1) l h fun e he => by have := h2 e he; omega
        omega
      have hb2 : ∀ e ∈ s2, 0 ≤ e ∧ e ≤ (line.length : Int) := fun e he => by
        obtain ⟨a', ha', h2, h3, _⟩ := (hs2 e).mp he
        have := ((hs a').mp (by rw [ha]; exact List.mem_append_left _ ha')).1
        omega
      unfold m_law_fits_b2
      refine Ok.bd (ends_ok hab2.1 hab2.2.1 hl (hc x (by rw [hx]; simp))) fun es ⟨nde, hes⟩ => ?_
      have hbe : ∀ e ∈ es, 0 ≤ e ∧ e ≤ (line.length : Int) := fun e he => by
        have := (hes e).mp he
        omega
      have l1 := bnd es nde hbe
      have l2 := bnd s2 nd2 hb2
      refine Ok.gd (fitsE_ok (by omega)) ?_
      refine Ok.bde (comp_pure (g := fun e => if (!decide (e ∈ s2)) = true then some e else none) fun e _ => ?_) ?_
      · unfold m_law_fits_b1
        cases decide (e ∈ s2) <;> rfl
      · rw [filterMap_ite]
        have l3 : (es.filter fun e => !decide (e ∈ s2)).length ≤ es.length := List.length_filter_le _ _
        refine Ok.gd (fits2_ok (by show s2.length + (es.filter fun e => !decide (e ∈ s2)).length ≤ 1000000; omega)) (Ok.sm ⟨?_, fun e => ?_⟩)
        · refine List.nodup_append.mpr ⟨nd2, nde.filter _, fun y hy z hz e => ?_⟩
          rw [List.mem_filter] at hz
          rw [e] at hy
          have h3 := hz.2
          simp [hy] at h3
        · rw [List.mem_append, List.mem_filter]
          constructor
          · rintro (h0 | ⟨h1, _⟩)
            · obtain ⟨a', h1, h2⟩ := (hs2 e).mp h0
              exact ⟨a', List.mem_append_left _ h1, h2⟩
            · exact ⟨a, by simp, (hes e).mp h1⟩
          · rintro ⟨a', h1, h2⟩
            rcases List.mem_append.mp h1 with h1 | h1
            · exact .inl ((hs2 e).mpr ⟨a', h1, h2⟩)
            · rw [List.mem_singleton] at h1
              subst h1
              by_cases h3 : e ∈ s2
              · exact .inl h3
              · exact .inr ⟨(hes e).mpr h2, by simp [h3]⟩
    · show e ∈ s2 ↔ _
      rw [hs2 e, Mt_snoc]
      constructor
      · rintro ⟨a, h1, h2, h3, h4⟩
        have h5 := (hs a).mp h1
        refine ⟨by omega, h3, (cl line).take a.toNat, _, take_mid (by omega), h5.2.2, h4⟩
      · rintro ⟨h1, h2, u, v, h3, h4, h5⟩
        have hlen := congrArg List.length h3
        rw [List.length_take, ll, List.length_append] at hlen
        have eu : u = (cl line).take u.length := by
          have h6 := congrArg (List.take u.length) h3
          rw [List.take_take, Nat.min_eq_left (by omega), List.take_left] at h6
          exact h6.symm
        have ev : v = ((cl line).drop u.length).take (e.toNat - u.length) := by
          have h6 := congrArg (List.drop u.length) h3
          rw [List.drop_take, List.drop_left] at h6
          exact h6.symm
        refine ⟨u.length, (hs _).mpr ⟨by omega, by omega, ?_⟩, by omega, h2, ?_⟩
        · rw [Int.toNat_natCast, ← eu]; exact h4
        · rw [Int.toNat_natCast, ← ev]; exact h5
  · by_cases hn : line = ""
    · rw [if_neg (by rw [decide_eq_true hn]; decide)]
      refine Ok.sm ?_
      rw [decide_eq_false (fun h => h.1 hn)]
    · rw [if_pos (by rw [decide_eq_false hn]; rfl)]
      refine Ok.bde (by rw [gd_true hf]) (Ok.sm ?_)
      have e1 : ((line.length : Int) ∈ s) ↔ Mt ps (cl line) := by
        rw [hs]
        rw [Int.toNat_natCast, ← ll, List.take_length]
        exact ⟨fun h => h.2.2, fun h => ⟨by omega, by omega, h⟩⟩
      by_cases hm : Mt ps (cl line)
      · rw [decide_eq_true (e1.mpr hm), decide_eq_true ⟨hn, hm⟩]
      · rw [decide_eq_false (fun h => hm (e1.mp h)), decide_eq_false (fun h => hm h.2)]

/-! ### positions -/
/-- a cell: one of the three others, or one sign -/
def cell (c : Str) : Prop := c = AN ∨ c = DG ∨ c = WD ∨ ∃ x, c = ⟨#[x]⟩ ∧ x ∈ cl SG
def Rp (cs : List Str) (w : List Nat) (p : Nat) : Prop := Mt (cs.take p) w
open Classical in
noncomputable def Sp (cs : List Str) (w : List Nat) (p : Nat) : Prop := if cs[p]? = some AN then Rp cs w (p + 1) else Rp cs w p
def Clo (cs : List Str) (F : Nat → Prop) : Nat → Prop
  | 0 => F 0
  | k + 1 => F (k + 1) ∨ (cs[k]? = some AN ∧ Clo cs F k)
theorem Clo_congr {cs : List Str} {F G : Nat → Prop} : ∀ {p : Nat}, (∀ q, q ≤ p → (F q ↔ G q)) → (Clo cs F p ↔ Clo cs G p)
  | 0, h => h 0 (Nat.le_refl _)
  | p + 1, h => by
    show (F (p + 1) ∨ _) ↔ (G (p + 1) ∨ _)
    rw [h (p + 1) (Nat.le_refl _), Clo_congr fun q hq => h q (Nat.le_succ_of_le hq)]
theorem Rp_succ {cs : List Str} {w : List Nat} {p : Nat} {c : Str} (h : cs[p]? = some c) : Rp cs w (p + 1) ↔ ∃ u v, w = u ++ v ∧ Rp cs u p ∧ Pc c v := by
  unfold Rp
  rw [List.take_succ, h]
  exact Mt_snoc
theorem Rp_zero {cs : List Str} {w : List Nat} : Rp cs w 0 ↔ w = [] := Iff.rfl
theorem Rp_any {cs : List Str} {w : List Nat} {x p : Nat} (h : cs[p]? = some AN) : Rp cs (w ++ [x]) (p + 1) ↔ Rp cs (w ++ [x]) p ∨ Rp cs w (p + 1) := by
  rw [Rp_succ h, Rp_succ h]
  constructor
  · rintro ⟨u, v, e, h1, _⟩
    rcases List.eq_nil_or_concat v with rfl | ⟨v', y, rfl⟩
    · rw [List.append_nil] at e; rw [e]; exact .inl h1
    · rw [List.concat_eq_append, ← List.append_assoc] at e
      obtain ⟨e1, _⟩ := List.append_inj' e rfl
      exact .inr ⟨u, v', e1, h1, Pc_any⟩
  · rintro (h1 | ⟨u, v, rfl, h1, _⟩)
    · exact ⟨_, [], by simp, h1, Pc_any⟩
    · exact ⟨u, v ++ [x], by simp, h1, Pc_any⟩
theorem Rp_le {cs : List Str} {w : List Nat} {p : Nat} (h : cs[p]? = some AN) (k : Rp cs w p) : Rp cs w (p + 1) := (Rp_succ h).mpr ⟨w, [], by simp, k, Pc_any⟩
theorem Rp_run {cs : List Str} {w : List Nat} {x p : Nat} {c : Str} (h : cs[p]? = some c) (hc : c = DG ∨ c = WD) : Rp cs (w ++ [x]) (p + 1) ↔ tk c ⟨#[x]⟩ = true ∧ (Rp cs w p ∨ Rp cs w (p + 1)) := by
  rw [Rp_succ h, Rp_succ h]
  constructor
  · rintro ⟨u, v, e, h1, h2⟩
    rw [Pc_run hc] at h2
    rcases List.eq_nil_or_concat v with rfl | ⟨v', y, rfl⟩
    · exact absurd rfl h2.1
    · rw [List.concat_eq_append] at e h2
      rw [← List.append_assoc] at e
      obtain ⟨e1, e2⟩ := List.append_inj' e rfl
      cases e2
      refine ⟨h2.2 x (by simp), ?_⟩
      by_cases hv : v' = []
      · subst hv; rw [List.append_nil] at e1; rw [e1]; exact .inl h1
      · exact .inr ⟨u, v', e1, h1, (Pc_run hc).mpr ⟨hv, fun z hz => h2.2 z (by simp [hz])⟩⟩
  · rintro ⟨ht, h1 | ⟨u, v, rfl, h1, h2⟩⟩
    · exact ⟨w, [x], rfl, h1, (Pc_run hc).mpr ⟨by simp, fun z hz => by rw [List.mem_singleton] at hz; rw [hz]; exact ht⟩⟩
    · rw [Pc_run hc] at h2
      exact ⟨u, v ++ [x], by simp, h1, (Pc_run hc).mpr ⟨by simp, fun z hz => by
        rcases List.mem_append.mp hz with hz | hz
        · exact h2.2 z hz
        · rw [List.mem_singleton] at hz; rw [hz]; exact ht⟩⟩
theorem sg_ne {y : Nat} : ¬ (⟨#[y]⟩ : Str) = AN ∧ ¬ ((⟨#[y]⟩ : Str) = DG ∨ (⟨#[y]⟩ : Str) = WD) := by
  have h : ∀ z : Str, (⟨#[y]⟩ : Str) = z → z.length = 1 := fun z e => by rw [← e]; rfl
  have h1 : ¬ AN.length = 1 := by decide +kernel
  have h2 : ¬ DG.length = 1 := by decide +kernel
  have h3 : ¬ WD.length = 1 := by decide +kernel
  exact ⟨fun e => h1 (h _ e), fun e => e.elim (fun e => h2 (h _ e)) fun e => h3 (h _ e)⟩
theorem Rp_fix {cs : List Str} {w : List Nat} {x y p : Nat} (h : cs[p]? = some ⟨#[y]⟩) : Rp cs (w ++ [x]) (p + 1) ↔ tk ⟨#[y]⟩ ⟨#[x]⟩ = true ∧ Rp cs w p := by
  obtain ⟨n1, n2⟩ := sg_ne (y := y)
  rw [Rp_succ h]
  have ht : tk ⟨#[y]⟩ ⟨#[x]⟩ = true ↔ y = x := by
    unfold tk
    rw [if_neg n1, if_neg fun e => n2 (.inl e), if_neg fun e => n2 (.inr e), decide_eq_true_eq]
    constructor
    · intro e; cases e; rfl
    · rintro rfl; rfl
  rw [ht]
  constructor
  · rintro ⟨u, v, e, h1, h2⟩
    rw [Pc_fix n1 n2, cl_sg] at h2
    subst h2
    obtain ⟨e1, e2⟩ := List.append_inj' e rfl
    cases e2
    exact ⟨rfl, e1 ▸ h1⟩
  · rintro ⟨rfl, h1⟩
    exact ⟨w, [y], rfl, h1, (Pc_fix n1 n2).mpr rfl⟩
/-- where a sign leads -/
def Fd (cs : List Str) (S : Nat → Prop) (x : Nat) (q : Nat) : Prop :=
  (∃ a c, S a ∧ cs[a]? = some c ∧ tk c ⟨#[x]⟩ = true ∧ q = if c = AN then a else a + 1) ∨ (S q ∧ 0 < q ∧ ∃ c, cs[q - 1]? = some c ∧ (c = DG ∨ c = WD) ∧ tk c ⟨#[x]⟩ = true)
theorem tk_any {x : Str} : tk AN x = true := by unfold tk; rw [if_pos rfl]
theorem Sp_any {cs : List Str} {w : List Nat} {p : Nat} (h : cs[p]? = some AN) : Sp cs w p ↔ Rp cs w (p + 1) := by unfold Sp; rw [if_pos h]
theorem Sp_no {cs : List Str} {w : List Nat} {p : Nat} (h : ¬ cs[p]? = some AN) : Sp cs w p ↔ Rp cs w p := by unfold Sp; rw [if_neg h]
theorem Sp_of {cs : List Str} {w : List Nat} {p : Nat} (h : Rp cs w p) : Sp cs w p := by
  by_cases e : cs[p]? = some AN
  · exact (Sp_any e).mpr (Rp_le e h)
  · exact (Sp_no e).mpr h
/-- a sign's step, whole -/
theorem step_iff {cs : List Str} (hc : ∀ c ∈ cs, cell c) {w : List Nat} {x : Nat} : ∀ p : Nat, p ≤ cs.length → (Clo cs (Fd cs (Sp cs w) x) p ↔ Sp cs (w ++ [x]) p) := by
  -- what the cell ahead gives
  have back : ∀ p : Nat, p + 1 ≤ cs.length → ∀ c, cs[p]? = some c → ¬ c = AN → (Fd cs (Sp cs w) x (p + 1) → Sp cs (w ++ [x]) (p + 1)) ∧ (Rp cs (w ++ [x]) (p + 1) → Fd cs (Sp cs w) x (p + 1)) := by
    intro p hp c h hn
    have hns : ¬ cs[p]? = some AN := by rw [h]; exact fun e => hn (Option.some.inj e)
    have hcell := hc c (List.mem_of_getElem? h)
    have rfix : c = DG ∨ c = WD ∨ ∃ y, c = ⟨#[y]⟩ := by
      rcases hcell with e | e | e | ⟨y, e, _⟩
      · exact absurd e hn
      · exact .inl e
      · exact .inr (.inl e)
      · exact .inr (.inr ⟨y, e⟩)
    constructor
    · rintro (⟨a, d, h1, h2, h3, h4⟩ | ⟨h1, _, d, h2, h3, h4⟩)
      · by_cases hd : d = AN
        · subst hd
          rw [if_pos rfl] at h4
          subst h4
          rw [Sp_any h2] at h1 ⊢
          exact (Rp_any h2).mpr (.inr h1)
        · rw [if_neg hd] at h4
          have e : a = p := by omega
          subst e
          rw [h] at h2
          cases h2
          rw [Sp_no hns] at h1
          refine Sp_of ?_
          rcases rfix with e | e | ⟨y, e⟩
          · exact (Rp_run h (.inl e)).mpr ⟨h3, .inl h1⟩
          · exact (Rp_run h (.inr e)).mpr ⟨h3, .inl h1⟩
          · subst e; exact (Rp_fix h).mpr ⟨h3, h1⟩
      · rw [Nat.add_sub_cancel, h] at h2
        cases h2
        by_cases e : cs[p + 1]? = some AN
        · rw [Sp_any e] at h1 ⊢
          exact (Rp_any e).mpr (.inr h1)
        · rw [Sp_no e] at h1 ⊢
          exact (Rp_run h h3).mpr ⟨h4, .inr h1⟩
    · intro h1
      rcases rfix with e | e | ⟨y, e⟩
      · obtain ⟨h2, h3 | h3⟩ := (Rp_run h (.inl e)).mp h1
        · exact .inl ⟨p, c, Sp_of h3, h, h2, by rw [if_neg hn]⟩
        · exact .inr ⟨Sp_of h3, Nat.succ_pos _, c, by rw [Nat.add_sub_cancel]; exact h, .inl e, h2⟩
      · obtain ⟨h2, h3 | h3⟩ := (Rp_run h (.inr e)).mp h1
        · exact .inl ⟨p, c, Sp_of h3, h, h2, by rw [if_neg hn]⟩
        · exact .inr ⟨Sp_of h3, Nat.succ_pos _, c, by rw [Nat.add_sub_cancel]; exact h, .inr e, h2⟩
      · subst e
        obtain ⟨h2, h3⟩ := (Rp_fix h).mp h1
        exact .inl ⟨p, _, Sp_of h3, h, h2, by rw [if_neg hn]⟩
  -- a cell for any signs that stays
  have stay : ∀ p, Fd cs (Sp cs w) x p → cs[p]? = some AN → (∃ p', p = p' + 1 ∧ cs[p']? = some AN) ∨ p = 0 → Sp cs (w ++ [x]) p := by
    rintro p (⟨a, d, h1, h2, h3, h4⟩ | ⟨h1, h0, d, h2, h3, h4⟩) hp hb
    · by_cases hd : d = AN
      · subst hd
        rw [if_pos rfl] at h4
        subst h4
        rw [Sp_any h2] at h1 ⊢
        exact (Rp_any h2).mpr (.inr h1)
      · rw [if_neg hd] at h4
        rcases hb with ⟨p', e1, e2⟩ | e
        · have : a = p' := by omega
          subst this
          rw [h2] at e2
          exact absurd (Option.some.inj e2) hd
        · omega
    · rw [Sp_any hp] at h1 ⊢
      exact (Rp_any hp).mpr (.inr h1)
  have stay2 : ∀ p, cs[p]? = some AN → Rp cs w (p + 1) → Fd cs (Sp cs w) x p := fun p h1 h2 => .inl ⟨p, AN, (Sp_any h1).mpr h2, h1, tk_any, by rw [if_pos rfl]⟩
  intro p
  induction p with
  | zero =>
    intro _
    show Fd cs (Sp cs w) x 0 ↔ _
    have nz : ¬ Rp cs (w ++ [x]) 0 := by rw [Rp_zero]; simp
    by_cases e : cs[0]? = some AN
    · rw [Sp_any e, Rp_any e]
      exact ⟨fun h => (Rp_any e).mp ((Sp_any e).mp (stay 0 h e (.inr rfl))), fun h => stay2 0 e (h.elim (fun h => absurd h nz) id)⟩
    · rw [Sp_no e]
      refine ⟨fun h => ?_, fun h => absurd h nz⟩
      rcases h with ⟨a, d, h1, h2, h3, h4⟩ | ⟨_, h0, _⟩
      · by_cases hd : d = AN
        · subst hd
          rw [if_pos rfl] at h4
          subst h4
          exact absurd h2 e
        · rw [if_neg hd] at h4; omega
      · omega
  | succ p ih =>
    intro hp
    have ih := ih (by omega)
    show (Fd cs (Sp cs w) x (p + 1) ∨ (cs[p]? = some AN ∧ Clo cs (Fd cs (Sp cs w) x) p)) ↔ _
    rw [ih]
    have hlt : p < cs.length := by omega
    obtain ⟨c, hcp⟩ : ∃ c, cs[p]? = some c := ⟨cs[p], List.getElem?_eq_getElem hlt⟩
    by_cases e : cs[p]? = some AN
    · -- the cell ahead is for any signs
      constructor
      · rintro (h | ⟨_, h⟩)
        · by_cases e1 : cs[p + 1]? = some AN
          · exact stay (p + 1) h e1 (.inl ⟨p, rfl, e⟩)
          · rcases h with ⟨a, d, h1, h2, h3, h4⟩ | ⟨_, _, d, h2, h3, _⟩
            · by_cases hd : d = AN
              · subst hd
                rw [if_pos rfl] at h4
                subst h4
                exact absurd h2 e1
              · rw [if_neg hd] at h4
                have : a = p := by omega
                subst this
                rw [h2] at e
                exact absurd (Option.some.inj e) hd
            · rw [Nat.add_sub_cancel, e] at h2
              cases h2
              rcases h3 with h3 | h3
              · exact absurd h3.symm AN_ne.1
              · exact absurd h3.symm AN_ne.2.1
        · rw [Sp_any e] at h
          exact Sp_of h
      · intro h
        by_cases e1 : cs[p + 1]? = some AN
        · rw [Sp_any e1, Rp_any e1] at h
          rcases h with h | h
          · exact .inr ⟨e, (Sp_any e).mpr h⟩
          · exact .inl (stay2 _ e1 h)
        · rw [Sp_no e1] at h
          exact .inr ⟨e, (Sp_any e).mpr h⟩
    · have hn : ¬ c = AN := fun z => e (by rw [hcp, z])
      obtain ⟨b1, b2⟩ := back p hp c hcp hn
      constructor
      · rintro (h | ⟨h, _⟩)
        · exact b1 h
        · exact absurd h e
      · intro h
        by_cases e1 : cs[p + 1]? = some AN
        · rw [Sp_any e1, Rp_any e1] at h
          rcases h with h | h
          · exact .inl (b2 h)
          · exact .inl (stay2 _ e1 h)
        · rw [Sp_no e1] at h
          exact .inl (b2 h)
/-- at the start -/
theorem start_iff {cs : List Str} (hc : ∀ c ∈ cs, cell c) : ∀ p : Nat, p ≤ cs.length → (Clo cs (fun q => q = 0) p ↔ Sp cs [] p) := by
  have nil : ∀ p c, cs[p]? = some c → (Rp cs [] (p + 1) ↔ c = AN ∧ Rp cs [] p) := by
    intro p c h
    rw [Rp_succ h]
    constructor
    · rintro ⟨u, v, e, h1, h2⟩
      obtain ⟨rfl, rfl⟩ := List.append_eq_nil_iff.mp e.symm
      refine ⟨?_, h1⟩
      rcases hc c (List.mem_of_getElem? h) with e | e | e | ⟨y, e, _⟩
      · exact e
      · exact absurd rfl ((Pc_run (.inl e)).mp h2).1
      · exact absurd rfl ((Pc_run (.inr e)).mp h2).1
      · subst e
        have := (Pc_fix sg_ne.1 sg_ne.2).mp h2
        cases this
    · rintro ⟨rfl, h1⟩
      exact ⟨[], [], rfl, h1, Pc_any⟩
  have sp : ∀ p, Sp cs [] p ↔ Rp cs [] p := by
    intro p
    by_cases e : cs[p]? = some AN
    · rw [Sp_any e, nil p AN e]; exact ⟨fun h => h.2, fun h => ⟨rfl, h⟩⟩
    · rw [Sp_no e]
  intro p
  induction p with
  | zero => intro _; rw [sp]; show (0 = 0) ↔ ([] : List Nat) = []; simp
  | succ p ih =>
    intro hp
    rw [sp]
    have hlt : p < cs.length := by omega
    have hcp : cs[p]? = some cs[p] := List.getElem?_eq_getElem hlt
    show (p + 1 = 0 ∨ (cs[p]? = some AN ∧ Clo cs _ p)) ↔ _
    rw [ih (by omega), sp, nil p _ hcp, hcp]
    constructor
    · rintro (h | ⟨h, h2⟩)
      · omega
      · exact ⟨Option.some.inj h, h2⟩
    · rintro ⟨h, h2⟩
      exact .inr ⟨by rw [h], h2⟩
open Classical in
/-- the numbers up to all cells that are told -/
noncomputable def told (cs : List Str) (F : Nat → Prop) : List Int := (rng 0 ((cs.length : Int) + 1)).filter fun i => decide (F i.toNat)
open Classical in
theorem told_congr {cs : List Str} {F G : Nat → Prop} (h : ∀ p, p ≤ cs.length → (F p ↔ G p)) : told cs F = told cs G := by
  unfold told
  refine List.filter_congr fun i hi => ?_
  rw [rng_mem] at hi
  by_cases e : F i.toNat
  · rw [decide_eq_true e, decide_eq_true ((h _ (by omega)).mp e)]
  · rw [decide_eq_false e, decide_eq_false fun z => e ((h _ (by omega)).mpr z)]
open Classical in
theorem told_mem {cs : List Str} {F : Nat → Prop} {i : Int} : i ∈ told cs F ↔ 0 ≤ i ∧ i ≤ cs.length ∧ F i.toNat := by
  unfold told
  rw [List.mem_filter, rng_mem, decide_eq_true_eq]
  constructor
  · intro h; exact ⟨by omega, by omega, h.2⟩
  · intro h; exact ⟨by omega, h.2.2⟩
theorem told_len {cs : List Str} {F : Nat → Prop} : (told cs F).length ≤ cs.length + 1 := by
  unfold told
  refine Nat.le_trans (List.length_filter_le _ _) ?_
  rw [rng_len]; omega
theorem filter_len {α : Type} (p : α → Bool) (xs : List α) : (xs.filter p).length ≤ xs.length := List.length_filter_le _ _
open Classical in
theorem closed_eq {cs : List Str} {ps : List Int} (hl : cs.length ≤ 500) : m_closed cs ps = some (told cs (Clo cs fun q => (q : Int) ∈ ps)) := by
  unfold m_closed
  rw [gd_true (rgOk_ok (by omega) (by omega) (by omega) (by omega))]
  refine Ok.eq (Ok.bde (loop_pick (fun i => @decide (Clo cs (fun q => (q : Int) ∈ ps) i.toNat) (Classical.propDecidable _)) fun pre x post e => ?_) (Ok.sm rfl))
  obtain ⟨e1, e2, e3, e4⟩ := rng_at e
  have hx : x.toNat = pre.length := by omega
  have hpl : pre.length ≤ 501 := by omega
  unfold m_closed_b1
  refine Ok.eq (Ok.bd (P := fun t => t = @decide (Clo cs (fun q => (q : Int) ∈ ps) x.toNat) (Classical.propDecidable _)) ?_ fun t ht => ?_)
  · by_cases hm : x ∈ ps
    · rw [ite_ya hm]
      refine Ok.sm ?_
      symm
      apply decide_eq_true
      cases hq : x.toNat with
      | zero =>
        show ((0 : Nat) : Int) ∈ ps
        have : x = ((0 : Nat) : Int) := by omega
        rw [← this]; exact hm
      | succ k =>
        refine .inl ?_
        show ((k + 1 : Nat) : Int) ∈ ps
        have : x = ((k + 1 : Nat) : Int) := by omega
        rw [← this]; exact hm
    · rw [ite_no hm]
      by_cases h0 : 0 < x
      · rw [ite_ya h0]
        obtain ⟨k, hk⟩ : ∃ k : Nat, x = ((k + 1 : Nat) : Int) := ⟨x.toNat - 1, by omega⟩
        have hk2 : x.toNat = k + 1 := by omega
        have hk1 : (x - 1).toNat = k := by omega
        have hlt : k < cs.length := by omega
        have hat : atI cs (x - 1) = some cs[k] := by
          rw [atI_nn (by omega) (by omega), hk1]; exact List.getElem?_eq_getElem hlt
        rw [hat]
        refine Ok.sm ?_
        show (decide (cs[k] = AN) && decide (x - 1 ∈ pre.filter _)) = _
        rw [← Bool.decide_and]
        have key : (cs[k] = AN ∧ x - 1 ∈ pre.filter fun i => @decide (Clo cs (fun q => (q : Int) ∈ ps) i.toNat) (Classical.propDecidable _)) ↔ Clo cs (fun q => (q : Int) ∈ ps) x.toNat := by
          rw [hk2]
          show _ ↔ (((k + 1 : Nat) : Int) ∈ ps ∨ (cs[k]? = some AN ∧ Clo cs _ k))
          rw [List.mem_filter, e2, rng_mem, decide_eq_true_eq, hk1, List.getElem?_eq_getElem hlt]
          constructor
          · rintro ⟨h1, _, h2⟩; exact .inr ⟨by rw [h1], h2⟩
          · rintro (h | ⟨h1, h2⟩)
            · exact absurd (by rw [hk]; exact h) hm
            · exact ⟨Option.some.inj h1, ⟨by omega, by omega⟩, h2⟩
        by_cases hz : Clo cs (fun q => (q : Int) ∈ ps) x.toNat
        · rw [decide_eq_true (key.mpr hz)]; exact (decide_eq_true hz).symm
        · rw [decide_eq_false fun z => hz (key.mp z)]; exact (decide_eq_false hz).symm
      · rw [ite_no h0]
        refine Ok.sm ?_
        symm
        apply decide_eq_false
        have : x.toNat = 0 := by omega
        rw [this]
        show ¬ ((0 : Nat) : Int) ∈ ps
        have : x = ((0 : Nat) : Int) := by omega
        rw [← this]; exact hm
  · rw [ht]
    refine Ok.ite (fun h => ?_) fun h => ?_
    · refine Ok.gd (fits_ok (Nat.lt_of_le_of_lt (filter_len _ _) (by omega))) (Ok.sm ?_)
      rw [if_pos h]
    · refine Ok.sm ?_
      rw [if_neg (by rw [h]; decide)]
theorem started_eq {cs : List Str} (hc : ∀ c ∈ cs, cell c) (hl : cs.length ≤ 500) : m_started cs = some (told cs (Sp cs [])) := by
  unfold m_started
  refine Ok.eq (Ok.bde (closed_eq hl) (Ok.sm ?_))
  refine told_congr fun p hp => ?_
  rw [← start_iff hc p hp]
  refine Clo_congr fun q _ => ?_
  rw [List.mem_singleton]; omega
theorem moved_eq {cs : List Str} (hc : ∀ c ∈ cs, cell c) (hl : cs.length ≤ 500) {w : List Nat} {x : Nat} : m_moved cs (told cs (Sp cs w)) ⟨#[x]⟩ = some (told cs (Sp cs (w ++ [x]))) := by
  unfold m_moved
  refine Ok.eq (Ok.bd (P := fun r : List Int => ∀ q : Nat, ((q : Int) ∈ r ↔ Fd cs (Sp cs w) x q)) ?_ fun r hr => Ok.bde (closed_eq hl) (Ok.sm ?_))
  · let G : Int → Nat → Prop := fun a q => (∃ c, cs[a.toNat]? = some c ∧ tk c ⟨#[x]⟩ = true ∧ q = if c = AN then a.toNat else a.toNat + 1) ∨ (q = a.toNat ∧ 0 < q ∧ ∃ c, cs[q - 1]? = some c ∧ (c = DG ∨ c = WD) ∧ tk c ⟨#[x]⟩ = true)
    refine (Ok.loop (fun pre (s : List Int) => s.length ≤ 2 * pre.length ∧ (∀ q : Nat, (q : Int) ∈ s ↔ ∃ a ∈ pre, G a q)) ⟨Nat.le_refl _, fun q => ?_⟩ fun pre a post s e ⟨hlen, hs⟩ => ?_).mono fun r ⟨_, hr⟩ q => ?_
    · constructor
      · intro h; cases h
      · rintro ⟨a, h, _⟩; cases h
    · have ha : a ∈ told cs (Sp cs w) := by rw [e]; simp
      obtain ⟨a0, a1, _⟩ := told_mem.mp ha
      have hpl : pre.length ≤ 501 := by
        have := congrArg List.length e
        have h2 := told_len (cs := cs) (F := Sp cs w)
        rw [List.length_append] at this
        omega
      unfold m_moved_b1
      -- the first: on
      refine Ok.bd (P := fun t : List Int => t.length ≤ s.length + 1 ∧ ∀ q : Nat, (q : Int) ∈ t ↔ (q : Int) ∈ s ∨ ∃ c, cs[a.toNat]? = some c ∧ tk c ⟨#[x]⟩ = true ∧ q = if c = AN then a.toNat else a.toNat + 1) ?_ fun t ⟨tl, ht⟩ => ?_
      · by_cases hlt : a < (cs.length : Int)
        · have hlt2 : a.toNat < cs.length := by omega
          have hat : atI cs a = some cs[a.toNat] := by rw [atI_nn a0 hlt]; exact List.getElem?_eq_getElem hlt2
          rw [ite_ya hlt, hat]
          show Ok (((((m_takes cs[a.toNat] ⟨#[x]⟩).bind fun t65 => some t65)).bind fun t55 => _)) _
          rw [takes_eq]
          show Ok (if tk cs[a.toNat] ⟨#[x]⟩ = true then _ else _) _
          refine Ok.ite (fun h => ?_) fun h => ?_
          · show Ok ((some cs[a.toNat]).bind _) _
            show Ok ((if decide (cs[a.toNat] = AN) = true then some a else some (a + 1)).bind _) _
            by_cases hA : cs[a.toNat] = AN
            · rw [ite_ya hA]
              refine Ok.gd (fits_ok (by omega)) (Ok.sm ⟨by simp, fun q => ?_⟩)
              show (q : Int) ∈ s ++ [a] ↔ _
              rw [List.mem_append, List.mem_singleton]
              refine or_congr Iff.rfl ⟨fun h2 => ⟨_, List.getElem?_eq_getElem hlt2, h, by rw [if_pos hA]; omega⟩, ?_⟩
              rintro ⟨c, h2, _, h3⟩
              rw [List.getElem?_eq_getElem hlt2] at h2
              cases h2
              rw [if_pos hA] at h3
              omega
            · rw [ite_no hA]
              refine Ok.gd (fits_ok (by omega)) (Ok.sm ⟨by simp, fun q => ?_⟩)
              show (q : Int) ∈ s ++ [a + 1] ↔ _
              rw [List.mem_append, List.mem_singleton]
              refine or_congr Iff.rfl ⟨fun h2 => ⟨_, List.getElem?_eq_getElem hlt2, h, by rw [if_neg hA]; omega⟩, ?_⟩
              rintro ⟨c, h2, _, h3⟩
              rw [List.getElem?_eq_getElem hlt2] at h2
              cases h2
              rw [if_neg hA] at h3
              omega
          · refine Ok.sm ⟨by omega, fun q => ⟨fun h2 => .inl h2, ?_⟩⟩
            rintro (h2 | ⟨c, h2, h3, _⟩)
            · exact h2
            · rw [List.getElem?_eq_getElem hlt2] at h2
              cases h2
              rw [h] at h3
              cases h3
        · rw [ite_no hlt]
          refine Ok.bde rfl (Ok.ite (fun h => absurd h (by decide)) fun _ => Ok.sm ⟨by omega, fun q => ⟨fun h2 => .inl h2, ?_⟩⟩)
          rintro (h2 | ⟨c, h2, h3, _⟩)
          · exact h2
          · rw [List.getElem?_eq_none (by omega)] at h2
            cases h2
      -- the second: it stays
      · have fin : ∀ z : List Int, (z.length ≤ t.length + 1 ∧ ∀ q : Nat, (q : Int) ∈ z ↔ (q : Int) ∈ t ∨ (q = a.toNat ∧ 0 < q ∧ ∃ c, cs[q - 1]? = some c ∧ (c = DG ∨ c = WD) ∧ tk c ⟨#[x]⟩ = true)) → z.length ≤ 2 * (pre ++ [a]).length ∧ ∀ q : Nat, (q : Int) ∈ z ↔ ∃ a' ∈ pre ++ [a], G a' q := by
          rintro z ⟨zl, hz⟩
          refine ⟨by simp; omega, fun q => ?_⟩
          rw [hz q, ht q, hs q]
          constructor
          · rintro ((⟨a', h1, h2⟩ | h) | h)
            · exact ⟨a', List.mem_append_left _ h1, h2⟩
            · exact ⟨a, by simp, .inl h⟩
            · exact ⟨a, by simp, .inr h⟩
          · rintro ⟨a', h1, h2⟩
            rcases List.mem_append.mp h1 with h1 | h1
            · exact .inl (.inl ⟨a', h1, h2⟩)
            · rw [List.mem_singleton] at h1
              subst h1
              rcases h2 with h2 | h2
              · exact .inl (.inr h2)
              · exact .inr h2
        refine Ok.mono ?_ fin
        by_cases h0 : 0 < a
        · have hlt2 : a.toNat - 1 < cs.length := by omega
          have hat : atI cs (a - 1) = some cs[a.toNat - 1] := by
            rw [atI_nn (by omega) (by omega), show (a - 1).toNat = a.toNat - 1 by omega]; exact List.getElem?_eq_getElem hlt2
          rw [ite_ya h0, hat]
          show Ok (((((if decide (cs[a.toNat - 1] ∈ [("<digits>" : Str), ("<word>" : Str)]) = true then _ else some false).bind _)).bind _)) _
          by_cases hm : cs[a.toNat - 1] ∈ [("<digits>" : Str), ("<word>" : Str)]
          · have hd : cs[a.toNat - 1] = DG ∨ cs[a.toNat - 1] = WD := by
              rcases List.mem_cons.mp hm with h | h
              · exact .inl h
              · exact .inr (List.mem_singleton.mp h)
            rw [ite_ya hm]
            show Ok (((((m_takes cs[a.toNat - 1] ⟨#[x]⟩).bind fun t201 => some t201).bind fun t191 => some t191)).bind fun t163 => if t163 = true then _ else _) _
            rw [takes_eq]
            show Ok (if tk cs[a.toNat - 1] ⟨#[x]⟩ = true then _ else _) _
            refine Ok.ite (fun h => ?_) fun h => ?_
            · refine Ok.gd (fits_ok (by omega)) (Ok.sm ⟨by simp, fun q => ?_⟩)
              rw [List.mem_append, List.mem_singleton]
              refine or_congr Iff.rfl ⟨fun h2 => ?_, fun h2 => by omega⟩
              have hq : q = a.toNat := by omega
              exact ⟨hq, by omega, _, by rw [hq]; exact List.getElem?_eq_getElem hlt2, hd, h⟩
            · refine Ok.sm ⟨by omega, fun q => ⟨fun h2 => .inl h2, ?_⟩⟩
              rintro (h2 | ⟨h2, _, c, h3, _, h4⟩)
              · exact h2
              · rw [h2, List.getElem?_eq_getElem hlt2] at h3
                cases h3
                rw [h] at h4
                cases h4
          · rw [ite_no hm]
            refine Ok.sm ⟨by omega, fun q => ⟨fun h2 => .inl h2, ?_⟩⟩
            rintro (h2 | ⟨h2, _, c, h3, h4, _⟩)
            · exact h2
            · rw [h2, List.getElem?_eq_getElem hlt2] at h3
              cases h3
              rcases h4 with h4 | h4
              · exact absurd (by rw [h4]; exact List.mem_cons_self) hm
              · exact absurd (by rw [h4]; exact List.mem_cons_of_mem _ List.mem_cons_self) hm
        · rw [ite_no h0]
          refine Ok.sm ⟨by omega, fun q => ⟨fun h2 => .inl h2, ?_⟩⟩
          rintro (h2 | ⟨h2, h3, _⟩)
          · exact h2
          · omega
    · rw [hr q]
      constructor
      · rintro ⟨a, h1, h2⟩
        obtain ⟨h3, h4, h5⟩ := told_mem.mp h1
        rcases h2 with ⟨c, h6, h7, h8⟩ | ⟨h6, h7⟩
        · exact .inl ⟨a.toNat, c, h5, h6, h7, h8⟩
        · exact .inr ⟨by rw [h6]; exact h5, h7⟩
      · rintro (⟨a, c, h1, h2, h3, h4⟩ | ⟨h1, h2, c, h3, h4⟩)
        · have hlt : a < cs.length := by
            apply Classical.byContradiction
            intro h5
            rw [List.getElem?_eq_none (by omega)] at h2
            cases h2
          exact ⟨(a : Int), told_mem.mpr ⟨by omega, by omega, by rw [Int.toNat_natCast]; exact h1⟩, .inl ⟨c, by rw [Int.toNat_natCast]; exact h2, h3, by rw [Int.toNat_natCast]; exact h4⟩⟩
        · have hlt : q - 1 < cs.length := by
            apply Classical.byContradiction
            intro h5
            rw [List.getElem?_eq_none (by omega)] at h3
            cases h3
          exact ⟨(q : Int), told_mem.mpr ⟨by omega, by omega, by rw [Int.toNat_natCast]; exact h1⟩, .inr ⟨by rw [Int.toNat_natCast], h2, c, h3, h4⟩⟩
  · refine told_congr fun p hp => ?_
    rw [← step_iff hc p hp]
    exact Clo_congr fun q _ => hr q

/-! ### cells -/
def cellsT (ps : List Str) : List Str := ps.flatMap fun p => if p ∈ ([DG, WD, AN] : List Str) then [p] else sgns p
theorem sgns_len (z : Str) : (sgns z).length = z.length := by rw [sgns_cl, List.length_map, ← cl_len]
theorem cellsT_snoc (ps : List Str) (p : Str) : cellsT (ps ++ [p]) = cellsT ps ++ if p ∈ ([DG, WD, AN] : List Str) then [p] else sgns p := by
  unfold cellsT; rw [List.flatMap_append]; simp
theorem cellsT_len {ps : List Str} (h : ∀ p ∈ ps, part p) : (cellsT ps).length ≤ 8 * ps.length := by
  induction ps with
  | nil => exact Nat.le_refl _
  | cons p ps ih =>
    have ih := ih fun q hq => h q (List.mem_cons_of_mem _ hq)
    show ((if p ∈ ([DG, WD, AN] : List Str) then [p] else sgns p) ++ cellsT ps).length ≤ _
    rw [List.length_append, List.length_cons]
    have : (if p ∈ ([DG, WD, AN] : List Str) then [p] else sgns p).length ≤ 8 := by
      split
      · simp
      · rw [sgns_len]; exact (part_len (h p List.mem_cons_self)).2
    omega
theorem cellsT_cell {ps : List Str} (h : ∀ p ∈ ps, part p) : ∀ c ∈ cellsT ps, cell c := by
  intro c hc
  obtain ⟨p, hp, h2⟩ := List.mem_flatMap.mp hc
  split at h2
  · rename_i hf
    rw [List.mem_singleton] at h2
    subst h2
    rcases List.mem_cons.mp hf with e | hf
    · exact .inr (.inl e)
    · rcases List.mem_cons.mp hf with e | hf
      · exact .inr (.inr (.inl e))
      · exact .inl (List.mem_singleton.mp hf)
  · rename_i hf
    rcases h p hp with e | e | e | ⟨g, _⟩
    · exact absurd (by rw [e]; simp) hf
    · exact absurd (by rw [e]; simp) hf
    · exact absurd (by rw [e]; simp) hf
    · rw [sgns_cl, List.mem_map] at h2
      obtain ⟨y, hy, rfl⟩ := h2
      exact .inr (.inr (.inr ⟨y, rfl, g y hy⟩))
theorem cell_ok {c : Str} (h : cell c) : okS c := by
  rcases h with e | e | e | ⟨x, rfl, hx⟩
  · exact part_ok (.inl e)
  · exact part_ok (.inr (.inl e))
  · exact part_ok (.inr (.inr (.inl e)))
  · exact gs_ok (gs_sg hx)
theorem cell_len {c : Str} (h : cell c) : c.length ≤ 8 := by
  rcases h with e | e | e | ⟨x, rfl, hx⟩
  · exact (part_len (.inl e)).2
  · exact (part_len (.inr (.inl e))).2
  · exact (part_len (.inr (.inr (.inl e)))).2
  · show 1 ≤ 8; omega
theorem cells_of_eq {ps : List Str} (h : ∀ p ∈ ps, part p) (hl : ps.length ≤ 50) : m_cells_of ps = some (cellsT ps) := by
  unfold m_cells_of
  refine Ok.eq (Ok.bd (Ok.loop (fun pre s => s = cellsT pre) rfl fun pre x post s e hs => ?_) fun s hs => Ok.sm hs)
  have hp : ∀ p ∈ pre, part p := fun p hp => h p (by rw [e]; exact List.mem_append_left _ hp)
  have hx : part x := h x (by rw [e]; simp)
  have l1 := cellsT_len hp
  have l2 := congrArg List.length e
  rw [List.length_append] at l2
  have l3 := part_len hx
  subst hs
  unfold m_cells_of_b1
  by_cases hf : x ∈ ([DG, WD, AN] : List Str)
  · rw [ite_ya hf]
    exact Ok.gd (fits_ok (by omega)) (Ok.sm (by rw [cellsT_snoc, if_pos hf]))
  · rw [ite_no hf]
    exact Ok.gd (fitsS_ok (by omega)) (Ok.gd (fits2_ok (by rw [sgns_len]; omega)) (Ok.sm (by rw [cellsT_snoc, if_neg hf])))
theorem law_cells_eq {ps : List Str} (h : ∀ p ∈ ps, part p) (hl : ps.length ≤ 50) : m_law_cells ps = some (cellsT ps) := by
  unfold m_law_cells
  refine Ok.eq (Ok.bd (Ok.loop (fun pre s => s = cellsT pre) rfl fun pre x post s e hs => ?_) fun s hs => Ok.sm hs)
  have hp : ∀ p ∈ pre, part p := fun p hp => h p (by rw [e]; exact List.mem_append_left _ hp)
  have hx : part x := h x (by rw [e]; simp)
  have l1 := cellsT_len hp
  have l2 := congrArg List.length e
  rw [List.length_append] at l2
  have l3 := part_len hx
  subst hs
  have hperm : x ∈ ([AN, DG, WD] : List Str) ↔ x ∈ ([DG, WD, AN] : List Str) := by
    simp only [List.mem_cons, List.not_mem_nil, or_false]
    constructor
    · rintro (h | h | h)
      · exact .inr (.inr h)
      · exact .inl h
      · exact .inr (.inl h)
    · rintro (h | h | h)
      · exact .inr (.inl h)
      · exact .inr (.inr h)
      · exact .inl h
  unfold m_law_cells_b2
  by_cases hf : x ∈ ([AN, DG, WD] : List Str)
  · rw [ite_ya hf]
    exact Ok.gd (fits_ok (by omega)) (Ok.sm (by rw [cellsT_snoc, if_pos (hperm.mp hf)]))
  · rw [ite_no hf]
    refine Ok.gd (fitsE_ok (by rw [sgns_len]; omega)) (Ok.bde (comp_pure (g := fun z => some z) fun z _ => rfl) ?_)
    rw [filterMap_some]
    exact Ok.gd (fits2_ok (by show (cellsT pre).length + (sgns x).length ≤ _; rw [sgns_len]; omega)) (Ok.sm (by rw [cellsT_snoc, if_neg fun z => hf (hperm.mpr z)]))

/-! ### what is due -/
theorem cut_one {α : Type} {xs : List α} {k : Nat} (h : k < xs.length) : cut xs (some (k : Int)) (some ((k : Int) + 1)) = [xs[k]] := by
  rw [cut_mid _ (by omega) (by omega)]
  have e : ((k : Int) + 1).toNat - (k : Int).toNat = 1 := by omega
  rw [e, Int.toNat_natCast, List.drop_eq_getElem_cons h]
  rfl
theorem cut_past {α : Type} {xs : List α} {k : Nat} (h : xs.length ≤ k) : cut xs (some (k : Int)) (some ((k : Int) + 1)) = [] := by
  rw [cut_mid _ (by omega) (by omega), Int.toNat_natCast, List.drop_of_length_le h, List.take_nil]
theorem Mt_nil {cs : List Str} (hc : ∀ c ∈ cs, cell c) : Mt cs [] ↔ ∀ c ∈ cs, c = AN := by
  induction cs with
  | nil => exact ⟨fun _ c h => absurd h List.not_mem_nil, fun _ => rfl⟩
  | cons c cs ih =>
    have ih := ih fun d hd => hc d (List.mem_cons_of_mem _ hd)
    constructor
    · rintro ⟨u, v, e, h1, h2⟩
      obtain ⟨rfl, rfl⟩ := List.append_eq_nil_iff.mp e.symm
      intro d hd
      rcases List.mem_cons.mp hd with rfl | hd
      · rcases hc d List.mem_cons_self with e | e | e | ⟨y, e, _⟩
        · exact e
        · exact absurd rfl ((Pc_run (.inl e)).mp h1).1
        · exact absurd rfl ((Pc_run (.inr e)).mp h1).1
        · subst e
          have := (Pc_fix sg_ne.1 sg_ne.2).mp h1
          cases this
      · exact ih.mp h2 d hd
    · intro h
      have e := h c List.mem_cons_self
      subst e
      exact ⟨[], [], rfl, Pc_any, ih.mpr fun d hd => h d (List.mem_cons_of_mem _ hd)⟩
theorem cl_nil {z : Str} : z = "" ↔ cl z = [] := by
  constructor
  · rintro rfl; decide +kernel
  · intro h
    apply cl_inj
    rw [h]; decide +kernel
open Classical in
theorem due_eq {cs : List Str} (hc : ∀ c ∈ cs, cell c) (hl : cs.length ≤ 500) {z : Str} (hz : z.length ≤ 500) : m_law_due cs z = some (told cs (Sp cs (cl z))) := by
  unfold m_law_due
  rw [gd_true (rgOk_ok (by omega) (by omega) (by omega) (by omega))]
  refine Ok.eq (Ok.bde (loop_pick (fun i => decide (Sp cs (cl z) i.toNat)) fun pre x post e => ?_) (Ok.sm rfl))
  obtain ⟨e1, e2, e3, e4⟩ := rng_at e
  obtain ⟨k, rfl⟩ : ∃ k : Nat, x = (k : Int) := ⟨x.toNat, by omega⟩
  have hk : k ≤ cs.length := by omega
  have htk : cut cs none (some (k : Int)) = cs.take k := by rw [cut_to _ (by omega), Int.toNat_natCast]
  have htk1 : cut cs none (some ((k : Int) + 1)) = cs.take (k + 1) := by rw [cut_to _ (by omega)]; rfl
  have hct : ∀ n, ∀ c ∈ cs.take n, cell c := fun n c h => hc c (List.mem_of_mem_take h)
  have hlt : ∀ n, (cs.take n).length ≤ 500 := fun n => by rw [List.length_take]; omega
  have hft : ∀ n, m_law_fits (cs.take n) z = some (decide (z ≠ "" ∧ Mt (cs.take n) (cl z))) := fun n => fits_eq hz fun c h => Nat.le_trans (cell_len (hct n c h)) (by decide)
  have hfit : fits (pre.filter fun i => decide (Sp cs (cl z) i.toNat)) = true := fits_ok (Nat.lt_of_le_of_lt (filter_len _ _) (by omega))
  have shpAN : shp (dL dS) [AN] = true := shp_lS fun c h => by rw [List.mem_singleton] at h; exact part_ok (.inl h)
  unfold m_law_due_b2
  rw [htk, htk1]
  rw [gd_true (fitsE_ok (Nat.le_trans (hlt k) (by decide))), comp_pure (g := fun c => if (!decide (c = AN)) = true then some c else none) (fun c _ => by unfold m_law_due_b1; cases decide (c = AN) <;> rfl), filterMap_ite]
  -- whether the open cells are none
  have hopen : (((cs.take k).filter fun c => !decide (c = AN)) = []) ↔ ∀ c ∈ cs.take k, c = AN := by
    rw [List.filter_eq_nil_iff]
    constructor
    · intro h c hc; have := h c hc; simpa using this
    · intro h c hc; simp [h c hc]
  refine Ok.eq ?_
  refine Ok.bde rfl (Ok.bd (P := fun t => t = decide (z = "" ∧ ∀ c ∈ cs.take k, c = AN)) ?_ fun t ht => ?_)
  · by_cases hn : z = ""
    · rw [ite_ya hn]
      refine Ok.gd (shp_lS fun c h => cell_ok (hct k c (List.mem_filter.mp h).1)) (Ok.gd (shp_lS fun c h => absurd h List.not_mem_nil) (Ok.sm ?_))
      show decide (_ = []) = _
      by_cases ha : ∀ c ∈ cs.take k, c = AN
      · rw [decide_eq_true (hopen.mpr ha)]; exact (decide_eq_true ⟨hn, ha⟩).symm
      · rw [decide_eq_false fun h => ha (hopen.mp h)]; exact (decide_eq_false fun h => ha h.2).symm
    · rw [ite_no hn]
      exact Ok.sm (decide_eq_false fun h => hn h.1).symm
  · subst ht
    refine Ok.bd (P := fun t => t = decide (Rp cs (cl z) k)) ?_ fun t ht => ?_
    · by_cases hn : z = ""
      · have hzn : cl z = [] := cl_nil.mp hn
        have hmt : Rp cs (cl z) k ↔ ∀ c ∈ cs.take k, c = AN := by unfold Rp; rw [hzn]; exact Mt_nil (hct k)
        by_cases ha : ∀ c ∈ cs.take k, c = AN
        · rw [decide_eq_true (show z = "" ∧ ∀ c ∈ cs.take k, c = AN from ⟨hn, ha⟩), if_pos rfl]
          exact Ok.sm (decide_eq_true (hmt.mpr ha)).symm
        · rw [decide_eq_false (show ¬ (z = "" ∧ ∀ c ∈ cs.take k, c = AN) from fun h => ha h.2), if_neg (by decide), hft k]
          refine Ok.bde rfl (Ok.sm ?_)
          rw [decide_eq_false fun h => h.1 hn]
          exact (decide_eq_false fun h => ha (hmt.mp h)).symm
      · rw [decide_eq_false (show ¬ (z = "" ∧ ∀ c ∈ cs.take k, c = AN) from fun h => hn h.1), if_neg (by decide), hft k]
        refine Ok.bde rfl (Ok.sm ?_)
        by_cases hm : Mt (cs.take k) (cl z)
        · rw [decide_eq_true ⟨hn, hm⟩]; exact (decide_eq_true hm).symm
        · rw [decide_eq_false fun h => hm h.2]; exact (decide_eq_false hm).symm
    · subst ht
      have hxk : (k : Int).toNat = k := Int.toNat_natCast k
      by_cases hr : Rp cs (cl z) k
      · rw [decide_eq_true hr, if_pos rfl, hxk, if_pos (decide_eq_true (Sp_of hr))]
        exact Ok.gd hfit (Ok.sm rfl)
      · rw [decide_eq_false hr, if_neg (by decide), hxk]
        have hsp1 : shp (dL dS) (cut cs (some (k : Int)) (some ((k : Int) + 1))) = true := shp_lS fun c h => cell_ok (hc c (mem_cut h))
        refine Ok.gd hsp1 (Ok.gd shpAN (Ok.bd (P := fun t => t = decide (Sp cs (cl z) k)) ?_ fun t ht => ?_))
        · by_cases hA : cs[k]? = some AN
          · have hlt2 : k < cs.length := by
              apply Classical.byContradiction
              intro h
              rw [List.getElem?_eq_none (by omega)] at hA
              cases hA
            have hA2 : cs[k] = AN := by rw [List.getElem?_eq_getElem hlt2] at hA; exact Option.some.inj hA
            rw [ite_ya (show cut cs (some (k : Int)) (some ((k : Int) + 1)) = [AN] by rw [cut_one hlt2, hA2]), hft (k + 1)]
            refine Ok.bde rfl (Ok.sm ?_)
            by_cases hm : Rp cs (cl z) (k + 1)
            · have hzn : z ≠ "" := fun e => by
                have e2 := cl_nil.mp e
                have h3 : ∀ c ∈ cs.take (k + 1), c = AN := (Mt_nil (hct (k + 1))).mp (e2 ▸ hm)
                apply hr
                show Mt _ _
                rw [e2]
                refine (Mt_nil (hct k)).mpr fun c h => h3 c ?_
                rw [List.take_succ]
                exact List.mem_append_left _ h
              rw [decide_eq_true ⟨hzn, hm⟩]; exact (decide_eq_true ((Sp_any hA).mpr hm)).symm
            · rw [decide_eq_false fun h => hm h.2]; exact (decide_eq_false fun h => hm ((Sp_any hA).mp h)).symm
          · have hne : ¬ cut cs (some (k : Int)) (some ((k : Int) + 1)) = [AN] := by
              rcases Nat.lt_or_ge k cs.length with h | h
              · rw [cut_one h]
                intro e
                apply hA
                rw [List.getElem?_eq_getElem h, (List.cons.inj e).1]
              · rw [cut_past h]; intro e; cases e
            rw [ite_no hne]
            exact Ok.sm (decide_eq_false fun h => hr ((Sp_no hA).mp h)).symm
        · subst ht
          refine Ok.ite (fun h => Ok.gd hfit (Ok.sm (by rw [if_pos h]))) fun h => Ok.sm (by rw [if_neg (by rw [h]; decide)])
theorem filterMap_none {α β : Type} : ∀ xs : List α, xs.filterMap (fun _ => (none : Option β)) = []
  | [] => rfl
  | x :: xs => by rw [List.filterMap_cons, filterMap_none xs]
theorem is_eq {xs : List Int} (h : xs.length ≤ 1000) : m_law_is xs xs = some true := by
  unfold m_law_is
  rw [gd_true (shp_tI _), gd_true (shp_tI _), if_neg (by rw [decide_eq_true rfl]; decide), gd_true (fitsE_ok (by omega)), comp_pure (g := fun _ => none) (fun x _ => rfl), filterMap_none]
  show gd (shp (dL dI) []) (gd (shp (dL dI) []) (some (decide (([] : List Int) = [])))) = some true
  rw [gd_true (shp_lI _), gd_true (shp_lI _)]
  rfl
/-! ### the law -/
theorem math (ns : List Int) (h : ns.length ≤ 63) : m_law ns = some true := by
  unfold m_law
  have hm : 0 ≤ maxI 1 (minI 24 (ns.length : Int)) ∧ maxI 1 (minI 24 (ns.length : Int)) ≤ 24 := by
    unfold maxI minI
    split <;> split <;> omega
  rw [gd_true (rgOk_ok (by omega) (by omega) (by omega) (by omega))]
  refine Ok.eq (Ok.bd (Ok.loopN (fun _ _ => True) trivial fun pre k post _ e _ => ?_) ?_)
  · have hk := (rng_at e).2.2
    unfold m_law_b2
    refine Ok.bd (pool_ok (by omega) (by omega)) fun p1 _ => Ok.bd rich_ok fun p2 ⟨hp, _, hl⟩ => Ok.bd (line_ok hp hl) fun p3 ⟨g3, l3⟩ => Ok.bd (spoiled_ok g3 (by omega)) fun p4 ⟨g4, l4⟩ => ?_
    have hps : ∀ x ∈ p2.1, okS x := fun x hx => part_ok (hp x hx)
    refine Ok.gd (fitsS_ok (by omega)) (Ok.bd (P := fun t : (Int × Int) × Str => gs t.2 ∧ t.2.length ≤ 8) ?_ fun t ⟨gt, lt⟩ => ?_)
    · refine Ok.bd (take_ok (by decide) (by decide)) fun t1 _ => Ok.ite (fun _ => ?_) fun _ => Ok.sm ⟨gs_cut g4, ?_⟩
      · refine Ok.bd text_ok fun a ha => Ok.bd text_ok fun b hb => Ok.gd (catOk_ok (by omega)) (Ok.sm ⟨gs_app ha.1 hb.1, ?_⟩)
        show (a.1 ++ b.1).length ≤ 8
        rw [len_app]; omega
      · show (cutS p4.1 none (some 8)).length ≤ 8
        rw [len_cut_to (by omega)]; omega
    have hcl : (cellsT p2.1).length ≤ 32 := by have := cellsT_len hp; omega
    have hcc := cellsT_cell hp
    have hck : ∀ x ∈ cellsT p2.1, okS x := fun x hx => cell_ok (hcc x hx)
    have same : ∀ {α : Type} {a : α} [DecidableEq α], (!decide (a = a)) = false := fun {α a _} => by rw [decide_eq_true rfl]; rfl
    refine Ok.bde (cells_of_eq hp (by omega)) (Ok.bde (law_cells_eq hp (by omega)) (Ok.gd (shp_lS hck) (Ok.gd (shp_lS hck) ?_)))
    rw [if_neg (by rw [same]; decide), gd_true (shp_lS hps), gd_true (shp_lS hps), same]
    refine Ok.bde rfl ?_
    rw [if_neg (by decide)]
    refine Ok.bde (started_eq hcc (by omega)) (Ok.gd (fitsS_ok (by omega)) (Ok.gd (rgOk_ok (by omega) (by omega) (by omega) (by omega)) ?_))
    refine Ok.bd (Ok.loopN (fun pre (s : List Int) => s = told (cellsT p2.1) (Sp (cellsT p2.1) ((cl t.2).take (pre.length - 1)))) rfl fun pre2 at_ post2 s e2 hs => ?_) ?_
    · obtain ⟨a1, a2, a3, a4⟩ := rng_at e2
      subst hs
      have ha : at_.toNat = pre2.length := by omega
      have ln : (pre2 ++ [at_]).length - 1 = pre2.length := by simp
      unfold m_law_b1
      refine Ok.bd (P := fun s => s = told (cellsT p2.1) (Sp (cellsT p2.1) ((cl t.2).take pre2.length))) ?_ fun s hs => ?_
      · by_cases h0 : 0 < at_
        · rw [if_pos (decide_eq_true h0)]
          obtain ⟨z, ez, x, hx, rfl⟩ := ixS_ok (s := t.2) (i := at_ - 1) (by omega) (by omega) (Nat.le_trans lt (Nat.le_trans (by decide) sizeLine_big))
          refine Ok.bde ez (Ok.bde (moved_eq hcc (by omega)) (Ok.sm ?_))
          have e1 : (at_ - 1).toNat = pre2.length - 1 := by omega
          have e3 : pre2.length = (pre2.length - 1) + 1 := by omega
          rw [e1] at hx
          rw [e3, Nat.add_sub_cancel, List.take_succ, hx]
          rfl
        · rw [if_neg (by rw [decide_eq_false h0]; decide)]
          refine Ok.sm ?_
          have : pre2.length = 0 := by omega
          rw [this]
      · subst hs
        have ez : cl (cutS t.2 none (some at_)) = (cl t.2).take pre2.length := by rw [cl_cut, cut_to _ a3, ha]
        have lz : (cutS t.2 none (some at_)).length ≤ 500 := by rw [len_cut_to a3]; omega
        refine Ok.gd (fitsS_ok (by omega)) (Ok.bde (due_eq hcc (by omega) lz) ?_)
        rw [ez]
        have tl := told_len (cs := cellsT p2.1) (F := Sp (cellsT p2.1) ((cl t.2).take pre2.length))
        refine Ok.bde (is_eq (by omega)) ?_
        rw [if_neg (by decide)]
        unfold m_is_done
        refine Ok.bde (Ok.eq (Ok.bde rfl (Ok.sm rfl))) ?_
        rw [if_neg (by rw [same]; decide)]
        exact Ok.sm ⟨_, rfl, by rw [ln]⟩
    · rintro _ ⟨s2, rfl, hs2⟩
      show Ok (Option.bind _ _) _
      refine Ok.bde (law_cells_eq hp (by omega)) (Ok.gd (shp_lS hck) (Ok.gd (shp_lS hck) ?_))
      rw [if_neg (by rw [same]; decide)]
      refine Ok.bd (P := fun t => t = false) (Ok.bde (cells_of_eq hp (by omega)) (Ok.gd (shp_lS hck) (Ok.gd (shp_lS hck) (Ok.sm same)))) fun t ht => ?_
      rw [ht, if_neg (by decide)]
      exact Ok.sm ⟨_, rfl, trivial⟩
  · rintro _ ⟨s, rfl, _⟩
    exact Ok.sm rfl

def fn : List He.DefD := [⟨("cells_of", none), "cells_of", "cells_of", defArgs s_cells_of, defBody s_cells_of, defScope s_cells_of, [], []⟩,
  ⟨("takes", none), "takes", "takes", defArgs s_takes, defBody s_takes, defScope s_takes, [], []⟩,
  ⟨("closed", none), "closed", "closed", defArgs s_closed, defBody s_closed, defScope s_closed, [], []⟩,
  ⟨("started", none), "started", "started", defArgs s_started, defBody s_started, defScope s_started, [], []⟩,
  ⟨("moved", none), "moved", "moved", defArgs s_moved, defBody s_moved, defScope s_moved, [], []⟩,
  ⟨("is_done", none), "is_done", "is_done", defArgs s_is_done, defBody s_is_done, defScope s_is_done, [], []⟩,
  ⟨("_law_pool", none), "_law_pool", "_law_pool", defArgs s_law_pool, defBody s_law_pool, defScope s_law_pool, [], []⟩,
  ⟨("_law_take", none), "_law_take", "_law_take", defArgs s_law_take, defBody s_law_take, defScope s_law_take, [], []⟩,
  ⟨("_law_all_signs", none), "_law_all_signs", "_law_all_signs", defArgs s_law_all_signs, defBody s_law_all_signs, defScope s_law_all_signs, [], []⟩,
  ⟨("_law_text", none), "_law_text", "_law_text", defArgs s_law_text, defBody s_law_text, defScope s_law_text, [], []⟩,
  ⟨("_law_rich", none), "_law_rich", "_law_rich", defArgs s_law_rich, defBody s_law_rich, defScope s_law_rich, [], []⟩,
  ⟨("_law_takes", none), "_law_takes", "_law_takes", defArgs s_law_takes, defBody s_law_takes, defScope s_law_takes, [], []⟩,
  ⟨("_law_ends", none), "_law_ends", "_law_ends", defArgs s_law_ends, defBody s_law_ends, defScope s_law_ends, [], []⟩,
  ⟨("_law_fits", none), "_law_fits", "_law_fits", defArgs s_law_fits, defBody s_law_fits, defScope s_law_fits, [], []⟩,
  ⟨("_law_line", none), "_law_line", "_law_line", defArgs s_law_line, defBody s_law_line, defScope s_law_line, [], []⟩,
  ⟨("_law_spoiled", none), "_law_spoiled", "_law_spoiled", defArgs s_law_spoiled, defBody s_law_spoiled, defScope s_law_spoiled, [], []⟩,
  ⟨("_law_cells", none), "_law_cells", "_law_cells", defArgs s_law_cells, defBody s_law_cells, defScope s_law_cells, [], []⟩,
  ⟨("_law_due", none), "_law_due", "_law_due", defArgs s_law_due, defBody s_law_due, defScope s_law_due, [], []⟩,
  ⟨("_law_is", none), "_law_is", "_law_is", defArgs s_law_is, defBody s_law_is, defScope s_law_is, [], []⟩,
  ⟨("law", none), "law", "law", defArgs s_law, defBody s_law, defScope s_law, [], []⟩]
def fa : List He.Fa := [.glo "cells_of", .glo "takes", .glo "closed", .glo "started", .glo "moved", .glo "is_done", .glo "_law_pool", .glo "_law_take", .glo "_law_all_signs", .glo "_law_text", .glo "_law_rich", .glo "_law_takes", .glo "_law_ends", .glo "_law_fits", .glo "_law_line", .glo "_law_spoiled", .glo "_law_cells", .glo "_law_due", .glo "_law_is", .glo "law", .free "bool", .free "int", .free "isinstance", .free "len", .free "list", .free "max", .free "min", .free "range", .free "tuple", .str "ANY_CELL" "<any>", .str "DIGITS_CELL" "<digits>", .str "DIGIT_SIGNS" "0123456789", .glo "FREE_CELLS", .str "LETTER_SIGNS" "ABCDEFGHIJKLMNOPQRSTUVWXYZabcdefghijklmnopqrstuvwxyz", .str "WORD_CELL" "<word>"]
def tabs (K : PySem.W.Frag) : Bool := He.tupB K "FREE_CELLS" [.str "<digits>", .str "<word>", .str "<any>"] && true
theorem tx {K : PySem.W.Frag} {h : Heap} {mg : Str → Option Value} (X : K.In h) (G : h.Ns mainGlobals mg) (c : He.SaysD fa fn K) (t : tabs K = true) : Tx K mg := {
  F_cells_of := fd_of c 0
  g_cells_of := He.glo_ok X G (c.fact 0)
  F_takes := fd_of c 1
  g_takes := He.glo_ok X G (c.fact 1)
  F_closed := fd_of c 2
  g_closed := He.glo_ok X G (c.fact 2)
  F_started := fd_of c 3
  g_started := He.glo_ok X G (c.fact 3)
  F_moved := fd_of c 4
  g_moved := He.glo_ok X G (c.fact 4)
  F_is_done := fd_of c 5
  g_is_done := He.glo_ok X G (c.fact 5)
  F__law_pool := fd_of c 6
  g__law_pool := He.glo_ok X G (c.fact 6)
  F__law_take := fd_of c 7
  g__law_take := He.glo_ok X G (c.fact 7)
  F__law_all_signs := fd_of c 8
  g__law_all_signs := He.glo_ok X G (c.fact 8)
  F__law_text := fd_of c 9
  g__law_text := He.glo_ok X G (c.fact 9)
  F__law_rich := fd_of c 10
  g__law_rich := He.glo_ok X G (c.fact 10)
  F__law_takes := fd_of c 11
  g__law_takes := He.glo_ok X G (c.fact 11)
  F__law_ends := fd_of c 12
  g__law_ends := He.glo_ok X G (c.fact 12)
  F__law_fits := fd_of c 13
  g__law_fits := He.glo_ok X G (c.fact 13)
  F__law_line := fd_of c 14
  g__law_line := He.glo_ok X G (c.fact 14)
  F__law_spoiled := fd_of c 15
  g__law_spoiled := He.glo_ok X G (c.fact 15)
  F__law_cells := fd_of c 16
  g__law_cells := He.glo_ok X G (c.fact 16)
  F__law_due := fd_of c 17
  g__law_due := He.glo_ok X G (c.fact 17)
  F__law_is := fd_of c 18
  g__law_is := He.glo_ok X G (c.fact 18)
  F_law := fd_of c 19
  g_law := He.glo_ok X G (c.fact 19)
  k_ANY_CELL := He.str_ok X G (c.fact 29)
  k_DIGITS_CELL := He.str_ok X G (c.fact 30)
  k_DIGIT_SIGNS := He.str_ok X G (c.fact 31)
  g_FREE_CELLS := He.glo_ok X G (c.fact 32)
  q_FREE_CELLS := fun F => ⟨_, _, rfl, He.tupB_ok (He.ba t).1 F, (.cons rfl (.cons rfl (.cons rfl .nil)))⟩
  k_LETTER_SIGNS := He.str_ok X G (c.fact 33)
  k_WORD_CELL := He.str_ok X G (c.fact 34)
  n_bool := He.free_ok X G (c.fact 20)
  n_int := He.free_ok X G (c.fact 21)
  n_isinstance := He.free_ok X G (c.fact 22)
  n_len := He.free_ok X G (c.fact 23)
  n_list := He.free_ok X G (c.fact 24)
  n_max := He.free_ok X G (c.fact 25)
  n_min := He.free_ok X G (c.fact 26)
  n_range := He.free_ok X G (c.fact 27)
  n_tuple := He.free_ok X G (c.fact 28)
}

theorem law_fn {P : Program} {w : World} {K : PySem.W.Frag} {h : Heap} {mg : Str → Option Value} {f : Addr} (X : K.In h) (G : h.Ns mainGlobals mg) (hfa : mg ("law" : Str) = some (.ref f)) (c : He.SaysD fa fn K) (t : tabs K = true) :
    ∃ (K' : PySem.W.Frag) (fd : FuncData) (sp : L2.Sp), K'.In h ∧ (∀ (s : Shared) (v : Value), BindsTo s fd ⟨[v], []⟩ [("_law_script", v)]) ∧ (∀ (H : Hp) (a : Addr) (ns : List Int), ns.length ≤ 63 → Only H → SqL K' H a (ns.map V.int) → sp [.ref a] H (fun v _ => v = .bl true) fun _ _ _ => False) ∧ ∀ base : Heap, K'.In base → base.Ns mainGlobals mg → FnOk P w K' mg base CX0 5 f fd ["_law_script"] sp := by
  have T : Tx K mg := tx X G c t
  have e := hfa.symm.trans T.g_law
  cases e
  have b := FunD.bindsA (ps := ["_law_script"]) T.F_law fun _ _ _ _ _ _ us hl => match us, hl with | [_], _ => rfl
  refine ⟨K, _, sp_law K, X, fun s v => b s [v] rfl, fun H a ns hl _ hS => ?_, fun base _ _ => ok_law T⟩
  exact ⟨H, .ref a, ns, true, rfl, Same.refl H, ⟨a, rfl, hS⟩, math ns hl, fun v F' H' _ hv => hv⟩
end Law
open PySem PySem.W PySem.Calls PyProof.Rows
theorem PySem.Challenge.cw_gluedlines_k03_cells_and_positions_holds : PySem.Challenge.rw_gluedlines_k03_cells_and_positions.Holds := by
  w_on; o_law; k_head; (case hw => w_witness2)
  k_fill
  refine L2.walk_ofE (l := PySem.Challenge.rw_gluedlines_k03_cells_and_positions) (n := 63) (k := 5) (x := "_law_script") (CX := L2.CX0) rfl (by decide) (by rfl) ⟨rfl, by decide, by decide⟩ ?F (fun _ _ _ _ z => z)
  intro w mg fa h Y G hmg
  refine Law.law_fn (PySem.W.kIn_of Y) G hmg ?c ?t
  case c => (unfold He.SaysD; kernel_rfl)
  case t => kernel_rfl
#print axioms PySem.Challenge.cw_gluedlines_k03_cells_and_positions_holds
