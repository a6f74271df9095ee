import PyProof.Rows.All
import Wide.All
import OpenK.AllK
import Wide.FinOn
import KE.KStateDown
import HandS.ForMost
import HandS.Exc
import HandS.WordsExc
import HandS.Defaults
import HandS.Conv
import HandS.Flow
import HandS.IsInst
import HandS.Codes
import HandS.Dict
import HandS.Star
import HandS.Iter
import HandS.Zip
import HandS.Text
import HandS.TupAny
import HandS.Style
import HandS.SortInts
import PyProof.Rows.TmSorted
import PyProof.Rows.SortStr
import KE.KeyNested
import PyProof.DictRoadsH
import PyProof.Rows.TupTab
import HandS.Head0
import HandS.Head1
import HandS.Head2
import HandS.HeadEnd
import HandS.HeadHook1
import HandS.HeadHook2
import KE.KOpsOwn
import KE.KExcSuper
import HandS.ExcInit
import HandS.ExcField
import KE.SortData
import HandS.DictTup
import PyProof.DictMoreH
import HandS.NoneIn
import HandS.SetFor
import HandS.Strs
import KE.DataCmp
import HandS.Replace
import HandS.ReplaceList
import KE.KDictSum
import KE.KDictCopyH
import KE.KCallOwn
import HandS.FStr
import HandS.ExcValue
import HandS.Deep
import HandS.ExcOwn
import KE.KExcIs
import HandS.Property
import HandS.MakeKwOnly
import PySem.Challenge.RW_gluedlines_k29_records_put_together_by_t
set_option Elab.async false
set_option linter.all false
set_option maxRecDepth 100000
set_option maxHeartbeats 4000000
set_option synthInstance.maxSize 1000
set_option synthInstance.maxHeartbeats 400000
namespace Gl
open PySem PySem.Spec PyProof.Rows L2
/-! ## partial results -/
def gd {α : Type} (b : Bool) (x : Option α) : Option α := match b with
  | true => x
  | false => none
theorem gd_some {α : Type} {b : Bool} {x : Option α} {r : α} (h : gd b x = some r) : b = true ∧ x = some r := by
  cases b with
  | true => exact ⟨rfl, h⟩
  | false => cases h
theorem gd_true {α : Type} {b : Bool} {x : Option α} (h : b = true) : gd b x = x := by rw [h]; rfl
theorem bd_some {α β : Type} {x : Option α} {k : α → Option β} {r : β} (h : x.bind k = some r) : ∃ a, x = some a ∧ k a = some r := by
  cases x with
  | none => cases h
  | some a => exact ⟨a, rfl, h⟩
/-- how a block ends: it goes on, it breaks off its loop, or it returns -/
inductive Ctl (S R : Type) where
  | nx (s : S) | bk (s : S) | rt (r : R)

/-! ## values that stand for Lean's -/
theorem pGet {α β : Type} {R : α → β → Prop} : ∀ {xs : List α} {ys : List β} {i : Nat} {y : β}, Paired R xs ys → ys[i]? = some y → ∃ x, xs[i]? = some x ∧ R x y
  | _, _, _, _, .nil, e => by simp at e
  | _, _, 0, _, .cons r _, e => by simp at e; subst e; exact ⟨_, rfl, r⟩
  | _, _, i + 1, y, .cons _ t, e => by
    obtain ⟨x, h1, h2⟩ := pGet (i := i) (y := y) t (by simpa using e)
    exact ⟨x, by simpa using h1, h2⟩
theorem pGetL {α β : Type} {R : α → β → Prop} : ∀ {xs : List α} {ys : List β} {i : Nat} {x : α}, Paired R xs ys → xs[i]? = some x → ∃ y, ys[i]? = some y ∧ R x y
  | _, _, _, _, .nil, e => by simp at e
  | _, _, 0, _, .cons r _, e => by simp at e; subst e; exact ⟨_, rfl, r⟩
  | _, _, i + 1, y, .cons _ t, e => by
    obtain ⟨x, h1, h2⟩ := pGetL (i := i) (x := y) t (by simpa using e)
    exact ⟨x, by simpa using h1, h2⟩
theorem pApp {α β : Type} {R : α → β → Prop} : ∀ {xs xs' : List α} {ys ys' : List β}, Paired R xs ys → Paired R xs' ys' → Paired R (xs ++ xs') (ys ++ ys')
  | _, _, _, _, .nil, s => s
  | _, _, _, _, .cons r t, s => .cons r (pApp t s)
theorem pDrop {α β : Type} {R : α → β → Prop} : ∀ {xs : List α} {ys : List β} (n : Nat), Paired R xs ys → Paired R (xs.drop n) (ys.drop n)
  | _, _, 0, r => r
  | _, _, _ + 1, .nil => .nil
  | _, _, n + 1, .cons _ t => pDrop n t
theorem pTake {α β : Type} {R : α → β → Prop} : ∀ {xs : List α} {ys : List β} (n : Nat), Paired R xs ys → Paired R (xs.take n) (ys.take n)
  | _, _, 0, _ => .nil
  | _, _, _ + 1, .nil => .nil
  | _, _, n + 1, .cons r t => .cons r (pTake n t)
theorem pLen {α β : Type} {R : α → β → Prop} {xs : List α} {ys : List β} (h : Paired R xs ys) : xs.length = ys.length := h.length
/-- how values stand for Lean's, in what stands for good -/
structure R (α : Type) where
  r : PySem.W.Frag → Hp → V → α → Prop
  mono : ∀ {K : PySem.W.Frag} {F F' : Hp} {v : V} {a : α}, Same F F' → r K F v a → r K F' v a
def qI : R Int := ⟨fun _ _ v i => v = .int i, fun _ h => h⟩
def qB : R Bool := ⟨fun _ _ v i => v = .bl i, fun _ h => h⟩
def qS : R Str := ⟨fun _ _ v i => v = .str i, fun _ h => h⟩
def qN : R Unit := ⟨fun _ _ v _ => v = .non, fun _ h => h⟩
def qO {α : Type} (A : R α) : R (Option α) := ⟨fun K F v i => match i with
  | none => v = .non
  | some a => A.r K F v a, fun {K F F' v a} e h => by
    cases a with
    | none => exact h
    | some a => exact A.mono e h⟩
/-- all of a row -/
abbrev Row {α : Type} (A : R α) (K : PySem.W.Frag) (F : Hp) (vs : List V) (xs : List α) : Prop := Paired (fun v x => A.r K F v x) vs xs
theorem Row.mono {α : Type} {A : R α} {K : PySem.W.Frag} {F F' : Hp} {vs : List V} {xs : List α} (e : Same F F') (h : Row A K F vs xs) : Row A K F' vs xs := Paired.mapP h fun _ _ r => A.mono e r
theorem same_t {K : PySem.W.Frag} {H H' : Hp} {a : Addr} {xs : List V} (e : Same H H') (h : SqT K H a xs) : SqT K H' a xs := by
  rcases h with (h | ⟨o, h⟩) | h
  · exact .inl (.inl (e _ _ h))
  · exact .inl (.inr ⟨o, e _ _ h⟩)
  · exact .inr h
/-- a list, a tuple, one of both -/
def qL {α : Type} (A : R α) : R (List α) := ⟨fun K F v xs => ∃ p vs, v = .ref p ∧ F p = some (.lst vs) ∧ Row A K F vs xs, fun e ⟨p, vs, h1, h2, h3⟩ => ⟨p, vs, h1, e _ _ h2, Row.mono e h3⟩⟩
def qT {α : Type} (A : R α) : R (List α) := ⟨fun K F v xs => ∃ p vs, v = .ref p ∧ SqT K F p vs ∧ Row A K F vs xs, fun e ⟨p, vs, h1, h2, h3⟩ => ⟨p, vs, h1, same_t e h2, Row.mono e h3⟩⟩
def qQ {α : Type} (A : R α) : R (List α) := ⟨fun K F v xs => (qL A).r K F v xs ∨ (qT A).r K F v xs, fun e h => h.elim (fun h => .inl ((qL A).mono e h)) fun h => .inr ((qT A).mono e h)⟩
/-- tuples of two, of three -/
def q2 {α β : Type} (A : R α) (B : R β) : R (α × β) := ⟨fun K F v x => ∃ p u w, v = .ref p ∧ SqT K F p [u, w] ∧ A.r K F u x.1 ∧ B.r K F w x.2, fun e ⟨p, u, w, h1, h2, h3, h4⟩ => ⟨p, u, w, h1, same_t e h2, A.mono e h3, B.mono e h4⟩⟩
def q3 {α β γ : Type} (A : R α) (B : R β) (C : R γ) : R (α × β × γ) := ⟨fun K F v x => ∃ p u w z, v = .ref p ∧ SqT K F p [u, w, z] ∧ A.r K F u x.1 ∧ B.r K F w x.2.1 ∧ C.r K F z x.2.2, fun e ⟨p, u, w, z, h1, h2, h3, h4, h5⟩ => ⟨p, u, w, z, h1, same_t e h2, A.mono e h3, B.mono e h4, C.mono e h5⟩⟩

/-! ## frozen and owned -/
/-- F: what stands for good within H; F0, H0: at the def's entry; P: what the def may change of it -/
structure Sx (P : Addr → Prop) (F0 H0 F H : Hp) : Prop where
  le : Same F0 F
  sub : Same F H
  new : ∀ a o, F a = some o → F0 a = none → H0 a = none
  same : ∀ a o, H0 a = some o → ¬ P a → H a = some o
  live : ∀ a, P a → H a ≠ none
/-- an object of the def's own: it may change it -/
structure Ow (P : Addr → Prop) (H0 F H : Hp) (p : Addr) (o : HO) : Prop where
  fr : F p = none
  at_ : H p = some o
  mine : H0 p = none ∨ P p
abbrev P0 : Addr → Prop := fun _ => False
section
variable {P P' : Addr → Prop} {F0 H0 F H F' H' : Hp} {p q : Addr} {o u : HO}
theorem Sx.refl (h : Same F H) (l : ∀ a, P a → H a ≠ none) : Sx P F H F H := ⟨Same.refl F, h, fun a o e n => absurd (n.symm.trans e) (fun z => nomatch z), fun _ _ e _ => e, l⟩
theorem Sx.refl0 (h : Same F H) : Sx P0 F H F H := Sx.refl h fun _ z => z.elim
theorem Sx.free (S : Sx P F0 H0 F H) (h : H q = none) : F q = none := S.sub.free h
theorem Sx.free0 (S : Sx P F0 H0 F H) (h : H q = none) : H0 q = none := by
  cases e : H0 q with
  | none => rfl
  | some o =>
    have np : ¬ P q := fun z => S.live q z h
    have := S.same q o e np
    rw [h] at this
    cases this
theorem Sx.leN (S : Sx P F0 H0 F H) (h : H q = none) : Same F (upd F q o) := fun a u e => by
  rw [upd_ne (ne_of_none e (S.free h))]
  exact e
/-- a new object that is not kept -/
theorem Sx.temp (S : Sx P F0 H0 F H) (h : H q = none) : Sx P F0 H0 F (upd H q o) := by
  refine ⟨S.le, fun a u e => ?_, S.new, fun a u e n => ?_, fun a z => ?_⟩
  · rw [upd_ne (ne_of_none (S.sub a u e) h)]; exact S.sub a u e
  · rw [upd_ne (ne_of_none (S.same a u e n) h)]; exact S.same a u e n
  · have l := S.live a z
    have ne : a ≠ q := fun e => l (by rw [e]; exact h)
    rw [upd_ne ne]; exact l
/-- a new object that stands for good -/
theorem Sx.alloc (S : Sx P F0 H0 F H) (h : H q = none) : Sx P F0 H0 (upd F q o) (upd H q o) := by
  refine ⟨S.le.trans (S.leN h), fun a u e => ?_, fun a u e n => ?_, (S.temp h).same, (S.temp h).live⟩
  · by_cases z : a = q
    · subst z; rw [upd_same] at e ⊢; exact e
    · rw [upd_ne z] at e ⊢; exact S.sub a u e
  · by_cases z : a = q
    · subst z; exact S.free0 h
    · rw [upd_ne z] at e; exact S.new a u e n
/-- an object of one's own is changed -/
theorem Sx.put (S : Sx P F0 H0 F H) (w : Ow P H0 F H p o) : Sx P F0 H0 F (upd H p u) := by
  refine ⟨S.le, fun a v e => ?_, S.new, fun a v e n => ?_, fun a z => ?_⟩
  · have ne : a ≠ p := fun z => by rw [z, w.fr] at e; cases e
    rw [upd_ne ne]; exact S.sub a v e
  · have ne : a ≠ p := fun z => by
      rcases w.mine with m | m
      · rw [z, m] at e; cases e
      · exact n (z ▸ m)
    rw [upd_ne ne]; exact S.same a v e n
  · by_cases e : a = p
    · subst e; rw [upd_same]; exact fun h => nomatch h
    · rw [upd_ne e]; exact S.live a z
/-- .. is let stand for good -/
theorem Sx.freeze (S : Sx P F0 H0 F H) (w : Ow P H0 F H p o) (h0 : H0 p = none) : Sx P F0 H0 (upd F p o) H := by
  refine ⟨S.le.trans fun a u e => ?_, fun a u e => ?_, fun a u e n => ?_, S.same, S.live⟩
  · rw [upd_ne (ne_of_none e w.fr)]; exact e
  · by_cases z : a = p
    · subst z; rw [upd_same] at e; cases e; exact w.at_
    · rw [upd_ne z] at e; exact S.sub a u e
  · by_cases z : a = p
    · subst z; exact h0
    · rw [upd_ne z] at e; exact S.new a u e n
theorem Ow.leF (w : Ow P H0 F H p o) : Same F (upd F p o) := fun a u e => by rw [upd_ne (ne_of_none e w.fr)]; exact e
/-- behind a call that may change P' -/
theorem Sx.call (S : Sx P F0 H0 F H) (c : Sx P' F H F' H') (h : ∀ a, P' a → P a ∨ H0 a = none) : Sx P F0 H0 F' H' := by
  refine ⟨S.le.trans c.le, c.sub, fun a u e n => ?_, fun a u e n => ?_, fun a z => ?_⟩
  · cases q : F a with
    | some o => exact S.new a o q n
    | none => exact S.free0 (c.new a u e q)
  · refine c.same a u (S.same a u e n) fun z => ?_
    rcases h a z with z | z
    · exact n z
    · rw [z] at e; cases e
  · by_cases y : P' a
    · exact c.live a y
    · have l := S.live a z
      cases e : H a with
      | none => exact absurd e l
      | some o =>
        rw [c.same a o e y]
        exact fun h => nomatch h
theorem Sx.call0 (S : Sx P F0 H0 F H) (c : Sx P0 F H F' H') : Sx P F0 H0 F' H' := S.call c fun _ z => z.elim
theorem Sx.call1 (S : Sx P F0 H0 F H) (c : Sx (fun a => a = p) F H F' H') (w : Ow P H0 F H p o) : Sx P F0 H0 F' H' := S.call c fun a z => by
  subst z
  exact w.mine.symm
theorem Ow.call (w : Ow P H0 F H p o) (c : Sx P' F H F' H') (n : ¬ P' p) : Ow P H0 F' H' p o := by
  refine ⟨?_, c.same p o w.at_ n, w.mine⟩
  cases q : F' p with
  | none => rfl
  | some u =>
    have z := c.new p u q w.fr
    rw [w.at_] at z
    cases z
theorem Ow.call0 (w : Ow P H0 F H p o) (c : Sx P0 F H F' H') : Ow P H0 F' H' p o := w.call c fun z => z
theorem Ow.ne (w : Ow P H0 F H p o) (h : H q = none) : p ≠ q := ne_of_none w.at_ h
theorem Ow.temp (w : Ow P H0 F H p o) (h : H q = none) : Ow P H0 F (upd H q u) p o := ⟨w.fr, by rw [upd_ne (w.ne h)]; exact w.at_, w.mine⟩
theorem Ow.alloc (w : Ow P H0 F H p o) (h : H q = none) : Ow P H0 (upd F q u) (upd H q u) p o := ⟨by rw [upd_ne (w.ne h)]; exact w.fr, by rw [upd_ne (w.ne h)]; exact w.at_, w.mine⟩
theorem Ow.put (w : Ow P H0 F H p o) : Ow P H0 F (upd H p u) p u := ⟨w.fr, upd_same, w.mine⟩
theorem Ow.putO {o' : HO} (w : Ow P H0 F H p o) (n : p ≠ q) : Ow P H0 F (upd H q o') p o := ⟨w.fr, by rw [upd_ne n]; exact w.at_, w.mine⟩
/-- a new object of one's own -/
theorem Sx.own (S : Sx P F0 H0 F H) (h : H q = none) : Ow P H0 F (upd H q o) q o := ⟨S.free h, upd_same, .inl (S.free0 h)⟩
/-- inside a callee's eyes: an own object handed in -/
theorem Ow.arg (w : Ow P H0 F H p o) : Ow (fun a => a = p) H F H p o := ⟨w.fr, w.at_, .inr rfl⟩
theorem Ow.back {o' : HO} (w : Ow P H0 F H p o) (z : Ow (fun a => a = p) H F' H' p o') : Ow P H0 F' H' p o' := ⟨z.fr, z.at_, w.mine⟩
end
end Gl
namespace Gl
open PySem PySem.Spec PyProof.Rows L2
/-! ## tests -/
theorem if_b {β : Type} {b : Bool} {A B : Prop} {m1 m2 : Option β} {r : β} (hm : (if b = true then m1 else m2) = some r) (h1 : b = true → m1 = some r → A) (h2 : b = false → m2 = some r → B) : if b = true then A else B := by
  cases b with
  | true => exact h1 rfl hm
  | false => exact h2 rfl hm
theorem if_j {b : Bool} {A B : Prop} (h1 : b = true → A) (h2 : b = false → B) : if b = true then A else B := by
  cases b with
  | true => exact h1 rfl
  | false => exact h2 rfl
/-- and, or: the right side is looked at alone, with whatever is wanted of it; what is known behind both is told once -/
theorem and_j {b : Bool} {u : (Bool → Hp → Prop) → Prop} {Q : Bool → Hp → Prop} {H : Hp} (J : Bool → Hp → Prop) (h1 : b = true → ∀ Q' : Bool → Hp → Prop, (∀ c H', J c H' → Q' c H') → u Q') (h2 : b = false → J false H) (k : ∀ c H', J c H' → Q c H') : if b = true then u Q else Q false H := by
  cases b with
  | true => exact h1 rfl Q k
  | false => exact k _ _ (h2 rfl)
theorem or_j {b : Bool} {u : (Bool → Hp → Prop) → Prop} {Q : Bool → Hp → Prop} {H : Hp} (J : Bool → Hp → Prop) (h1 : b = false → ∀ Q' : Bool → Hp → Prop, (∀ c H', J c H' → Q' c H') → u Q') (h2 : b = true → J true H) (k : ∀ c H', J c H' → Q c H') : if b = true then Q true H else u Q := by
  cases b with
  | true => exact k _ _ (h2 rfl)
  | false => exact h1 rfl Q k
theorem andV_j {b : Bool} {u : VK → Prop} {Q : VK} {H : Hp} (J : V → Hp → Prop) (h1 : b = true → ∀ Q' : VK, (∀ c H', J c H' → Q' c H') → u Q') (h2 : b = false → J (.bl false) H) (k : ∀ c H', J c H' → Q c H') : if b = true then u Q else Q (.bl false) H := by
  cases b with
  | true => exact h1 rfl Q k
  | false => exact k _ _ (h2 rfl)
theorem orV_j {b : Bool} {u : VK → Prop} {Q : VK} {H : Hp} (J : V → Hp → Prop) (h1 : b = false → ∀ Q' : VK, (∀ c H', J c H' → Q' c H') → u Q') (h2 : b = true → J (.bl true) H) (k : ∀ c H', J c H' → Q c H') : if b = true then Q (.bl true) H else u Q := by
  cases b with
  | true => exact k _ _ (h2 rfl)
  | false => exact h1 rfl Q k
/-- .. where the right side leaves the heap as it is -/
theorem and_p {b c : Bool} {u : (Bool → Hp → Prop) → Prop} {Q : Bool → Hp → Prop} {H : Hp} (hu : b = true → ∀ Q' : Bool → Hp → Prop, Q' c H → u Q') (k : Q (b && c) H) : if b = true then u Q else Q false H := by
  cases b with
  | true => exact hu rfl Q k
  | false => exact k
theorem or_p {b c : Bool} {u : (Bool → Hp → Prop) → Prop} {Q : Bool → Hp → Prop} {H : Hp} (hu : b = false → ∀ Q' : Bool → Hp → Prop, Q' c H → u Q') (k : Q (b || c) H) : if b = true then Q true H else u Q := by
  cases b with
  | true => exact k
  | false => exact hu rfl Q k
theorem orV_p {b c : Bool} {u : VK → Prop} {Q : VK} {H : Hp} (hu : b = false → ∀ Q' : VK, Q' (.bl c) H → u Q') (k : Q (.bl (b || c)) H) : if b = true then Q (.bl true) H else u Q := by
  cases b with
  | true => exact k
  | false => exact hu rfl Q k

/-! ## operators on plain values -/
section
variable {X : Cx}
theorem op_eqI : OpR X (compareOp .Eq) (rI0 fun i j => .bl (decide (i = j))) := opB0 fun _ _ _ _ _ _ _ h => eq_int (by rw [Bool.beq_eq_decide_eq]; exact h)
theorem op_neI : OpR X (compareOp .NotEq) (rI0 fun i j => .bl (!decide (i = j))) := opB0 fun _ _ _ _ _ _ _ h => ne_int (by rw [bne, Bool.beq_eq_decide_eq]; exact h)
def rS0 (g : Str → Str → V) : R2 := fun x y H Q => ∃ i j, x = .str i ∧ y = .str j ∧ Q (g i j) H
theorem dec_strV {i j : Str} : decide (V.str i = V.str j) = decide (i = j) := by
  by_cases e : i = j
  · subst e; simp
  · rw [decide_eq_false e, decide_eq_false fun z => e (V.str.inj z)]
theorem op_eqS : OpR X (compareOp .Eq) (rS0 fun i j => .bl (decide (i = j))) := by
  intro pins s σ H x y v u Q I rx ry h
  obtain ⟨i, j, rfl, rfl, q⟩ := h
  exact op_eq pins s σ H _ _ v u Q I rx ry ⟨rfl, by rw [dec_strV]; exact q⟩
theorem op_neS : OpR X (compareOp .NotEq) (rS0 fun i j => .bl (!decide (i = j))) := by
  intro pins s σ H x y v u Q I rx ry h
  obtain ⟨i, j, rfl, rfl, q⟩ := h
  exact op_ne pins s σ H _ _ v u Q I rx ry ⟨rfl, by rw [dec_strV]; exact q⟩
end
/-- i stands in j -/
def inS (i j : Str) : Bool := !(Builtin.Str.occurrences j i 0 j.length 1).isEmpty
def mulOk (a b : Int) : Bool := (decide (-(2 ^ 64) < a) && decide (a < 2 ^ 64)) || (decide (-(2 ^ 64) < b) && decide (b < 2 ^ 64))
theorem mulOk_of {a b : Int} (h : mulOk a b = true) : CMul a b := by
  unfold mulOk at h
  simp only [Bool.or_eq_true, Bool.and_eq_true, decide_eq_true_eq] at h
  exact h
def divOk (b : Int) : Bool := decide (0 < b) && decide (b < 1073741824)
theorem divOk_of {a b : Int} (h : divOk b = true) : CDiv a b := by
  unfold divOk at h
  simp only [Bool.and_eq_true, decide_eq_true_eq] at h
  exact h
def modOk (b : Int) : Bool := decide (0 < b)
theorem modOk_of {b : Int} (h : modOk b = true) : 0 < b := of_decide_eq_true h
def powOk (a b : Int) : Bool := decide (0 ≤ b) && (decide (b ≤ 1000000) && decide (a.natAbs < 2 ^ 64))
theorem powOk_of {a b : Int} (h : powOk a b = true) : CPow a b := by
  unfold powOk at h
  simp only [Bool.and_eq_true, decide_eq_true_eq] at h
  exact h
def catOk (a b : Str) : Bool := decide (a.length + b.length ≤ sizeLine)
theorem catOk_of {a b : Str} (h : catOk a b = true) : a.length + b.length ≤ sizeLine := of_decide_eq_true h
def fits {α : Type} (a : List α) : Bool := decide (a.length < sizeLine)
def fitsS (a : Str) : Bool := decide (a.length ≤ sizeLine)
theorem fitsS_of {a : Str} (h : fitsS a = true) : a.length ≤ sizeLine := of_decide_eq_true h
def fits2 {α : Type} (a b : List α) : Bool := decide (a.length + b.length ≤ sizeLine)
def ixS (s : Str) (i : Int) : Option Str := gd (fitsS s) ((atI s.cps.toList i).bind fun c => some ⟨#[c]⟩)
theorem ixS_some {s z : Str} {i : Int} (h : ixS s i = some z) : ∃ c, s.length ≤ sizeLine ∧ atI s.cps.toList i = some c ∧ z = ⟨#[c]⟩ := by
  obtain ⟨h1, h2⟩ := gd_some h
  obtain ⟨c, h3, h4⟩ := bd_some h2
  exact ⟨c, fitsS_of h1, h3, (Option.some.inj h4).symm⟩
/-- xs[lo:hi] -/
def cut {α : Type} (xs : List α) (lo hi : Option Int) : List α := (xs.drop (HT.sIx xs.length 0 lo)).take (HT.sIx xs.length xs.length hi - HT.sIx xs.length 0 lo)
def rng (a b : Int) : List Int := (List.range (b - a).toNat).map fun i => a + (i : Nat)
def maxI (i j : Int) : Int := if j > i then j else i
def minI (i j : Int) : Int := if j < i then j else i
def b2I (b : Bool) : Int := if b then 1 else 0
/-- the sgns of a text, one by one -/
def sgns (z : Str) : List Str := z.cps.toList.map fun c => ⟨#[c]⟩

/-! ## what is seen of rows -/
section
variable {α : Type} {A : R α} {K : PySem.W.Frag} {F H F0 H0 : Hp} {P : Addr → Prop} {v : V} {xs ys : List α} {Q : VK} {i : Int} {a : α} {p : Addr} {vs : List V}
def SeenL (A : R α) (K : PySem.W.Frag) (F H : Hp) (v : V) (xs : List α) : Prop := ∃ p vs, v = .ref p ∧ H p = some (.lst vs) ∧ Row A K F vs xs
def SeenR (A : R α) (K : PySem.W.Frag) (F H : Hp) (v : V) (xs : List α) : Prop := ∃ p vs, v = .ref p ∧ SqL K H p vs ∧ Row A K F vs xs
def SeenT (A : R α) (K : PySem.W.Frag) (F H : Hp) (v : V) (xs : List α) : Prop := ∃ p vs, v = .ref p ∧ SqT K H p vs ∧ Row A K F vs xs
def SeenQ (A : R α) (K : PySem.W.Frag) (F H : Hp) (v : V) (xs : List α) : Prop := SeenR A K F H v xs ∨ SeenT A K F H v xs
theorem SeenL.r (h : SeenL A K F H v xs) : SeenR A K F H v xs := let ⟨p, vs, h1, h2, h3⟩ := h; ⟨p, vs, h1, SqL.of h2, h3⟩
theorem Sx.l (S : Sx P F0 H0 F H) (r : (qL A).r K F v xs) : SeenL A K F H v xs := let ⟨p, vs, h1, h2, h3⟩ := r; ⟨p, vs, h1, S.sub _ _ h2, h3⟩
theorem Sx.t (S : Sx P F0 H0 F H) (r : (qT A).r K F v xs) : SeenT A K F H v xs := let ⟨p, vs, h1, h2, h3⟩ := r; ⟨p, vs, h1, same_t S.sub h2, h3⟩
theorem Sx.q (S : Sx P F0 H0 F H) (r : (qQ A).r K F v xs) : SeenQ A K F H v xs := r.elim (fun r => .inl (S.l r).r) fun r => .inr (S.t r)
theorem Ow.l (w : Ow P H0 F H p (.lst vs)) (r : Row A K F vs xs) : SeenL A K F H (.ref p) xs := ⟨p, vs, rfl, w.at_, r⟩
theorem SeenL.q (h : SeenL A K F H v xs) : SeenQ A K F H v xs := .inl h.r
theorem SeenR.q (h : SeenR A K F H v xs) : SeenQ A K F H v xs := .inl h
theorem SeenT.q (h : SeenT A K F H v xs) : SeenQ A K F H v xs := .inr h
theorem SeenQ.seq (h : SeenQ A K F H v xs) : ∃ p vs, v = .ref p ∧ (SqL K H p vs ∨ SqT K H p vs) ∧ Row A K F vs xs := by
  rcases h with ⟨p, vs, rfl, h, r⟩ | ⟨p, vs, rfl, h, r⟩
  · exact ⟨p, vs, rfl, .inl h, r⟩
  · exact ⟨p, vs, rfl, .inr h, r⟩
/-- the script -/
def qC : R (List Int) := ⟨fun K F v xs => ∃ p, v = .ref p ∧ SqL K F p (xs.map V.int), fun e ⟨p, h1, h2⟩ => ⟨p, h1, Same.seq e h2⟩⟩
theorem row_ints {K : PySem.W.Frag} {F : Hp} : ∀ xs : List Int, Row qI K F (xs.map V.int) xs
  | [] => .nil
  | _ :: xs => .cons rfl (row_ints xs)
theorem Sx.c {xs : List Int} (S : Sx P F0 H0 F H) (r : qC.r K F v xs) : SeenR qI K F H v xs := let ⟨p, h1, h2⟩ := r; ⟨p, _, h1, Same.seq S.sub h2, row_ints xs⟩
theorem row_at (r : Row A K F vs xs) (h : atI xs i = some a) : ∃ u, atI vs i = some u ∧ A.r K F u a := by
  unfold atI at h ⊢
  rw [pLen r]
  obtain ⟨j, h1, h2⟩ := bd_some h
  obtain ⟨u, h3, h4⟩ := pGet r h2
  exact ⟨u, by rw [h1]; exact h3, h4⟩
theorem row_cut (r : Row A K F vs xs) (lo hi : Option Int) : Row A K F (cutV vs lo hi) (cut xs lo hi) := by
  unfold cutV cut
  rw [pLen r]
  exact pTake _ (pDrop _ r)
theorem rd_ixL (s : SeenR A K F H v xs) (h : atI xs i = some a) (k : ∀ u, A.r K F u a → Q u H) : rIxL K v (.int i) H Q := by
  obtain ⟨p, vs, rfl, h1, r⟩ := s
  obtain ⟨u, h2, h3⟩ := row_at r h
  exact ⟨p, vs, i, u, rfl, rfl, h1, h2, k u h3⟩
theorem rd_ixT (s : SeenT A K F H v xs) (h : atI xs i = some a) (k : ∀ u, A.r K F u a → Q u H) : rIxT K v (.int i) H Q := by
  obtain ⟨p, vs, rfl, h1, r⟩ := s
  obtain ⟨u, h2, h3⟩ := row_at r h
  exact ⟨p, vs, i, u, rfl, rfl, h1, h2, k u h3⟩
theorem rd_len (s : SeenQ A K F H v xs) (k : Q (.int (xs.length : Int)) H) : ∃ p ys, [v] = [V.ref p] ∧ (SqL K H p ys ∨ SqT K H p ys) ∧ Q (.int (ys.length : Int)) H := by
  obtain ⟨p, vs, rfl, h1, r⟩ := s.seq
  exact ⟨p, vs, rfl, h1, by rw [pLen r]; exact k⟩
/-- what is wanted of a new object; of a new list, tuple with such items -/
def nK (Q : VK) (H : Hp) (o : HO) : Prop := ∀ p, H p = none → Q (.ref p) (upd H p o)
def nL (A : R α) (K : PySem.W.Frag) (F : Hp) (Q : VK) (H : Hp) (xs : List α) : Prop := ∀ p us, H p = none → Row A K F us xs → Q (.ref p) (upd H p (.lst us))
def nT (A : R α) (K : PySem.W.Frag) (F : Hp) (Q : VK) (H : Hp) (xs : List α) : Prop := ∀ p us, H p = none → Row A K F us xs → Q (.ref p) (upd H p (.tup us))
theorem rd_slL {lo hi : Option Int} (s : SeenR A K F H v xs) (k : nL A K F Q H (cut xs lo hi)) : rSlL K v lo hi H Q := by
  obtain ⟨p, vs, rfl, h1, r⟩ := s
  exact ⟨p, vs, rfl, h1, fun q hq => k q _ hq (row_cut r lo hi)⟩
theorem rd_list (s : SeenQ A K F H v xs) (k : nL A K F Q H xs) : ∃ p ys, [v] = [V.ref p] ∧ (SqL K H p ys ∨ SqT K H p ys) ∧ ∀ l, H l = none → Q (.ref l) (upd H l (.lst ys)) := by
  obtain ⟨p, vs, rfl, h1, r⟩ := s.seq
  exact ⟨p, vs, rfl, h1, fun q hq => k q _ hq r⟩
theorem rd_tuple (s : SeenR A K F H v xs) (k : nT A K F Q H xs) : kTup K v H Q := by
  obtain ⟨p, vs, rfl, h1, r⟩ := s
  exact .inl ⟨p, vs, rfl, h1, fun q hq => k q _ hq r⟩
theorem rd_cat (s : SeenL A K F H v xs) {w : V} (t : SeenL A K F H w ys) (h : fits2 xs ys = true) (k : nL A K F Q H (xs ++ ys)) : rCat v w H Q := by
  obtain ⟨p, vs, rfl, h1, r⟩ := s
  obtain ⟨q, us, rfl, h2, r2⟩ := t
  exact ⟨p, q, vs, us, rfl, rfl, h1, h2, by rw [pLen r, pLen r2]; exact of_decide_eq_true h, fun z hz => k z _ hz (pApp r r2)⟩
theorem rd_app (w : Ow P H0 F H p (.lst vs)) (r : Row A K F vs xs) {y : V} (h : fits xs = true) (k : Q .non (upd H p (.lst (vs ++ [y])))) : rAppend (.ref p) [y] H Q :=
  ⟨p, vs, y, rfl, rfl, w.at_, by rw [pLen r]; exact of_decide_eq_true h, k⟩
theorem rd_extend (w : Ow P H0 F H p (.lst vs)) (r : Row A K F vs xs) {b : V} {ys : List α} (s : SeenL A K F H b ys) (h : fits2 xs ys = true) (k : ∀ us, Row A K F us ys → Q .non (upd H p (.lst (vs ++ us)))) : rExtend (.ref p) [b] H Q := by
  obtain ⟨q, us, rfl, h2, r2⟩ := s
  exact ⟨p, q, vs, us, rfl, rfl, w.at_, h2, by rw [pLen r, pLen r2]; exact of_decide_eq_true h, k us r2⟩
theorem Ow.ty (w : Ow P H0 F H p (.lst vs)) : tyV K "list" (.ref p) H := .inl ⟨rfl, vs, SqL.of w.at_⟩
end
/-! ### in -/
theorem inV_str {K : PySem.W.Frag} {F : Hp} {a : Str} : ∀ {vs : List V} {xs : List Str}, Row qS K F vs xs → inV (.str a) vs = decide (a ∈ xs) ∧ vs.all flatV = true
  | _, _, .nil => ⟨rfl, rfl⟩
  | v :: vs, x :: xs, .cons r t => by
    obtain ⟨h1, h2⟩ := inV_str (a := a) t
    cases (show v = .str x from r)
    refine ⟨?_, ?_⟩
    · show (eqV (.str x) (.str a) || inV (.str a) vs) = _
      rw [h1]
      show ((x == a) || decide (a ∈ xs)) = decide (a ∈ x :: xs)
      by_cases e : a = x
      · subst e; simp
      · have e2 : (x == a) = false := beq_eq_false_iff_ne.mpr (Ne.symm e)
        rw [e2]; simp [e]
    · show (flatV (.str x) && vs.all flatV) = true
      rw [h2]; rfl
theorem inV_int {K : PySem.W.Frag} {F : Hp} {a : Int} : ∀ {vs : List V} {xs : List Int}, Row qI K F vs xs → inV (.int a) vs = decide (a ∈ xs) ∧ vs.all flatV = true
  | _, _, .nil => ⟨rfl, rfl⟩
  | v :: vs, x :: xs, .cons r t => by
    obtain ⟨h1, h2⟩ := inV_int (a := a) t
    cases (show v = .int x from r)
    refine ⟨?_, ?_⟩
    · show (eqV (.int x) (.int a) || inV (.int a) vs) = _
      rw [h1]
      show ((x == a) || decide (a ∈ xs)) = decide (a ∈ x :: xs)
      by_cases e : a = x
      · subst e; simp
      · have e2 : (x == a) = false := beq_eq_false_iff_ne.mpr (Ne.symm e)
        rw [e2]; simp [e]
    · show (flatV (.int x) && vs.all flatV) = true
      rw [h2]; rfl
section
variable {K : PySem.W.Frag} {F H : Hp} {v : V} {Q : VK}
theorem rd_inS {xs : List Str} {a : Str} (s : SeenQ qS K F H v xs) (k : Q (.bl (decide (a ∈ xs))) H) : rIn K false (.str a) v H Q := by
  obtain ⟨p, vs, rfl, h1, r⟩ := s.seq
  obtain ⟨e1, e2⟩ := inV_str (a := a) r
  exact ⟨p, vs, rfl, h1, rfl, e2, by show Q (.bl (inV (.str a) vs)) H; rw [e1]; exact k⟩
theorem rd_niS {xs : List Str} {a : Str} (s : SeenQ qS K F H v xs) (k : Q (.bl (!decide (a ∈ xs))) H) : rIn K true (.str a) v H Q := by
  obtain ⟨p, vs, rfl, h1, r⟩ := s.seq
  obtain ⟨e1, e2⟩ := inV_str (a := a) r
  exact ⟨p, vs, rfl, h1, rfl, e2, by show Q (.bl (!inV (.str a) vs)) H; rw [e1]; exact k⟩
theorem rd_inI {xs : List Int} {a : Int} (s : SeenQ qI K F H v xs) (k : Q (.bl (decide (a ∈ xs))) H) : rIn K false (.int a) v H Q := by
  obtain ⟨p, vs, rfl, h1, r⟩ := s.seq
  obtain ⟨e1, e2⟩ := inV_int (a := a) r
  exact ⟨p, vs, rfl, h1, rfl, e2, by show Q (.bl (inV (.int a) vs)) H; rw [e1]; exact k⟩
theorem rd_niI {xs : List Int} {a : Int} (s : SeenQ qI K F H v xs) (k : Q (.bl (!decide (a ∈ xs))) H) : rIn K true (.int a) v H Q := by
  obtain ⟨p, vs, rfl, h1, r⟩ := s.seq
  obtain ⟨e1, e2⟩ := inV_int (a := a) r
  exact ⟨p, vs, rfl, h1, rfl, e2, by show Q (.bl (!inV (.int a) vs)) H; rw [e1]; exact k⟩
end
/-! ### == of data -/
/-- what stands for Lean's in the library's data -/
structure Dat {α : Type} (A : R α) where
  d : α → PyData
  dp : ∀ {K : PySem.W.Frag} {F : Hp} {v : V} {a : α}, A.r K F v a → Dp K F v (d a)
  eq : ∀ a b : α, PyData.eqv (d a) (d b) = true ↔ a = b
mutual
theorem Dp.mono {K : PySem.W.Frag} {F F' : Hp} (e : Same F F') : ∀ {v : V} {d : PyData}, Dp K F v d → Dp K F' v d
  | _, _, .non => .non
  | _, _, .bl b => .bl b
  | _, _, .int i => .int i
  | _, _, .str x => .str x
  | _, _, .lst h a => .lst (Same.seq e h) (DpAll.mono e a)
  | _, _, .tup h a => .tup (same_t e h) (DpAll.mono e a)
theorem DpAll.mono {K : PySem.W.Frag} {F F' : Hp} (e : Same F F') : ∀ {vs : List V} {ds : List PyData}, DpAll K F vs ds → DpAll K F' vs ds
  | _, _, .nil => .nil
  | _, _, .cons h a => .cons (Dp.mono e h) (DpAll.mono e a)
end
def dI : Dat qI := ⟨.int, fun {K F v a} h => by cases (show v = .int a from h); exact .int a, fun a b => by simp [PyData.eqv]⟩
def dB : Dat qB := ⟨.bool, fun {K F v a} h => by cases (show v = .bl a from h); exact .bl a, fun a b => by simp [PyData.eqv]⟩
def dS : Dat qS := ⟨.str, fun {K F v a} h => by cases (show v = .str a from h); exact .str a, fun a b => by simp [PyData.eqv]⟩
theorem dpAll {α : Type} {A : R α} (D : Dat A) {K : PySem.W.Frag} {F : Hp} : ∀ {vs : List V} {xs : List α}, Row A K F vs xs → DpAll K F vs (xs.map D.d)
  | _, _, .nil => .nil
  | _, _, .cons r t => .cons (D.dp r) (dpAll D t)
theorem eqvAll_iff {α : Type} {A : R α} (D : Dat A) : ∀ xs ys : List α, PyData.eqvAll (xs.map D.d) (ys.map D.d) = true ↔ xs = ys
  | [], [] => by simp [PyData.eqvAll]
  | [], _ :: _ => by simp [PyData.eqvAll]
  | _ :: _, [] => by simp [PyData.eqvAll]
  | x :: xs, y :: ys => by
    show (PyData.eqv (D.d x) (D.d y) && PyData.eqvAll (xs.map D.d) (ys.map D.d)) = true ↔ _
    rw [Bool.and_eq_true, D.eq x y, eqvAll_iff D xs ys]
    simp
def dL {α : Type} {A : R α} (D : Dat A) : Dat (qL A) := ⟨fun xs => .list (xs.map D.d), fun {K F v a} h => by
    obtain ⟨p, vs, rfl, h2, h3⟩ := h
    exact .lst (SqL.of h2) (dpAll D h3), fun a b => eqvAll_iff D a b⟩
def dT {α : Type} {A : R α} (D : Dat A) : Dat (qT A) := ⟨fun xs => .tuple (xs.map D.d), fun {K F v a} h => by
    obtain ⟨p, vs, rfl, h2, h3⟩ := h
    exact .tup h2 (dpAll D h3), fun a b => eqvAll_iff D a b⟩
def d2 {α β : Type} {A : R α} {B : R β} (D : Dat A) (E : Dat B) : Dat (q2 A B) := ⟨fun x => .tuple [D.d x.1, E.d x.2], fun {K F v a} h => by
    obtain ⟨p, u, w, rfl, h2, h3, h4⟩ := h
    exact .tup h2 (.cons (D.dp h3) (.cons (E.dp h4) .nil)), fun a b => by
    show (PyData.eqv (D.d a.1) (D.d b.1) && (PyData.eqv (E.d a.2) (E.d b.2) && true)) = true ↔ _
    rw [Bool.and_eq_true, Bool.and_eq_true, D.eq, E.eq]
    obtain ⟨a1, a2⟩ := a
    obtain ⟨b1, b2⟩ := b
    simp⟩
def shp {α : Type} {A : R α} (D : Dat A) (a : α) : Bool := SeqAt.shaped (D.d a)
section
variable {α : Type} {A : R α} {K : PySem.W.Frag} {F H F0 H0 : Hp} {P : Addr → Prop} {v w : V} {a b : α} {Q : VK} [DecidableEq α]
theorem SeenR.dp {α : Type} {A : R α} {K : PySem.W.Frag} {F H : Hp} {v : V} {xs : List α} (S : Same F H) (D : Dat A) (h : SeenR A K F H v xs) : Dp K H v (.list (xs.map D.d)) := let ⟨p, vs, h1, h2, h3⟩ := h; by subst h1; exact .lst h2 (dpAll D (Row.mono S h3))
theorem eqv_dec (D : Dat A) (a b : α) : PyData.eqv (D.d a) (D.d b) = decide (a = b) := by
  by_cases e : a = b
  · rw [(D.eq a b).mpr e, decide_eq_true e]
  · rw [decide_eq_false e]
    cases h : PyData.eqv (D.d a) (D.d b) with
    | false => rfl
    | true => exact absurd ((D.eq a b).mp h) e
/-- what is seen of a datum -/
def SeenD (D : Dat A) (K : PySem.W.Frag) (H : Hp) (v : V) (a : α) : Prop := Dp K H v (D.d a)
theorem Sx.d (S : Sx P F0 H0 F H) (D : Dat A) (r : A.r K F v a) : SeenD D K H v a := Dp.mono S.sub (D.dp r)
theorem rd_eqD {D : Dat A} (s : SeenD D K H v a) (t : SeenD D K H w b) (h1 : shp D a = true) (h2 : shp D b = true) (k : Q (.bl (decide (a = b))) H) : rEqD K v w H Q :=
  ⟨_, _, s, t, h1, h2, by rw [eqv_dec]; exact k⟩
theorem rd_neD {D : Dat A} (s : SeenD D K H v a) (t : SeenD D K H w b) (h1 : shp D a = true) (h2 : shp D b = true) (k : Q (.bl (!decide (a = b))) H) : rNeD K v w H Q :=
  ⟨_, _, s, t, h1, h2, by rw [eqv_dec]; exact k⟩
end
section
variable {α : Type} {A : R α} {K : PySem.W.Frag} {F H F0 H0 : Hp} {P : Addr → Prop} {p : Addr} {vs : List V} {xs : List α}
theorem Sx.cd {v : V} {xs : List Int} (S : Sx P F0 H0 F H) (r : qC.r K F v xs) : SeenD (dL dI) K H v xs := SeenR.dp S.sub dI (S.c r)
theorem Ow.d (w : Ow P H0 F H p (.lst vs)) (S : Sx P F0 H0 F H) (D : Dat A) (r : Row A K F vs xs) : SeenD (dL D) K H (.ref p) xs := .lst (SqL.of w.at_) (dpAll D (Row.mono S.sub r))
end
end Gl
namespace Gl
open PySem PySem.Spec PyProof.Rows L2
/-! ## loops -/
def loopS {α S : Type} (f : α → S → Option S) : List α → S → Option S
  | [], s => some s
  | x :: xs, s => (f x s).bind fun s' => loopS f xs s'
def loopC {α S ρ : Type} (f : α → S → Option (Ctl S ρ)) : List α → S → Option (Ctl S ρ)
  | [], s => some (.nx s)
  | x :: xs, s => (f x s).bind fun c => match c with
    | .nx s' => loopC f xs s'
    | .bk s' => some (.nx s')
    | .rt r => some (.rt r)
/-- behind a loop that may return -/
def aft {S ρ : Type} (c : Ctl S ρ) (k : S → Option ρ) : Option ρ := match c with
  | .nx s => k s
  | .bk s => k s
  | .rt r => some r
def fuel : Nat := 1000000000
def whileS {S : Type} (c : S → Option (Bool × S)) (f : S → Option S) : Nat → S → Option S
  | 0, _ => none
  | n + 1, s => (c s).bind fun b => if b.1 = true then (f b.2).bind fun s' => whileS c f n s' else some b.2
/-- what an iterator hands out, one behind another -/
structure Feeds (J : It) (n : Nat) (G : Hp → Prop) (it : Nat → V → Prop) : Prop where
  go : ∀ i H, i < n → G H → J.go i H
  stop : ∀ H, G H → J.stop n H
  yld : ∀ i H x H', i < n → G H → J.yld i H x H' → H' = H ∧ it i x
theorem feedsL {K : PySem.W.Frag} {a : Addr} {vs : List V} : Feeds (Itl K a) vs.length (fun H => SqL K H a vs) (fun i x => vs[i]? = some x) :=
  ⟨fun i H h q => ⟨vs, vs[i], q, by simp [h]⟩, fun H q => ⟨vs, q, Nat.le_refl _⟩, fun i H x H' h q y => ⟨y.1, y.2 vs q⟩⟩
theorem feedsT {K : PySem.W.Frag} {a : Addr} {vs : List V} : Feeds (Itt K a) vs.length (fun H => SqT K H a vs) (fun i x => vs[i]? = some x) :=
  ⟨fun i H h q => ⟨vs, vs[i], q, by simp [h]⟩, fun H q => ⟨vs, q, Nat.le_refl _⟩, fun i H x H' h q y => ⟨y.1, y.2 vs q⟩⟩
theorem feedsS {z : Str} : Feeds (Its z) z.cps.size (fun _ => True) (fun i x => ∃ c, z.cps[i]? = some c ∧ x = .str ⟨#[c]⟩) :=
  ⟨fun i H h _ => h, fun H _ => Nat.le_refl _, fun i H x H' h _ y => y⟩
/-- the items are typed -/
structure Typed {α : Type} (A : R α) (K : PySem.W.Frag) (F : Hp) (n : Nat) (it : Nat → V → Prop) (xs : List α) : Prop where
  len : xs.length = n
  at_ : ∀ i x, it i x → ∃ a, xs[i]? = some a ∧ A.r K F x a
theorem typedRow {α : Type} {A : R α} {K : PySem.W.Frag} {F : Hp} {vs : List V} {xs : List α} (r : Row A K F vs xs) : Typed A K F vs.length (fun i x => vs[i]? = some x) xs :=
  ⟨(pLen r).symm, fun i x h => pGetL r h⟩
theorem typedR {K : PySem.W.Frag} {F : Hp} {a b : Int} : Typed qI K F (b - a).toNat (fun i x => i < (b - a).toNat ∧ x = .int (a + (i : Nat))) (rng a b) :=
  ⟨by unfold rng; simp, fun i x h => ⟨a + (i : Nat), by unfold rng; simp [h.1], h.2⟩⟩
theorem feedsRg {a b : Int} : Feeds (Itr a (b - a).toNat) (b - a).toNat (fun _ => True) (fun i x => i < (b - a).toNat ∧ x = .int (a + (i : Nat))) :=
  ⟨fun i H h _ => h, fun H _ => Nat.le_refl _, fun i H x H' h _ y => ⟨y.1, h, y.2⟩⟩
theorem typedS {K : PySem.W.Frag} {F : Hp} {z : Str} : Typed qS K F z.cps.size (fun i x => ∃ c, z.cps[i]? = some c ∧ x = .str ⟨#[c]⟩) (sgns z) :=
  ⟨by unfold sgns; simp, fun i x h => by
    obtain ⟨c, h1, h2⟩ := h
    exact ⟨⟨#[c]⟩, by unfold sgns; simp [h1], h2⟩⟩

abbrev ForG (J : It) (g : TG) (tb : TS) (D : Ends) (σ : L2.St) (H : Hp) : Prop :=
  ∃ W : Nat → Nat → L2.St → Hp → Prop, (∃ m, W 0 m σ H) ∧ ∀ i m σ H, W i m σ H →
    (J.stop i H ∧ D.nx σ H) ∨ (J.go i H ∧ ∃ N : L2.St → Hp → Prop, (∀ σ' H', N σ' H' → ∃ m', m' < m ∧ W (i + 1) m' σ' H') ∧ ∀ x H', J.yld i H x H' → g x σ H' fun σ2 H2 => tb { D with nx := N, ct := N, bk := D.nx } σ2 H2)
section
variable {J : It} {n : Nat} {G : Hp → Prop} {it : Nat → V → Prop} {α S ρ : Type} {A : R α} {K : PySem.W.Frag} {F : Hp} {xs : List α} {g : TG} {tb : TS} {σ : L2.St} {H : Hp} {Nx Bx Cx : L2.St → Hp → Prop} {Rx : VK}
theorem loopS_at {f : α → S → Option S} {i : Nat} {a : α} {s s1 : S} (h : loopS f (xs.drop i) s = some s1) (ha : xs[i]? = some a) : ∃ s', f a s = some s' ∧ loopS f (xs.drop (i + 1)) s' = some s1 := by
  have hi : i < xs.length := (List.getElem?_eq_some_iff.mp ha).1
  have e : xs.drop i = a :: xs.drop (i + 1) := by
    rw [List.drop_eq_getElem_cons hi]
    rw [(List.getElem?_eq_some_iff.mp ha).2]
  rw [e] at h
  exact bd_some h
theorem loopC_at {f : α → S → Option (Ctl S ρ)} {i : Nat} {a : α} {s : S} {c1 : Ctl S ρ} (h : loopC f (xs.drop i) s = some c1) (ha : xs[i]? = some a) : ∃ c, f a s = some c ∧ (match c with
    | .nx s' => loopC f (xs.drop (i + 1)) s'
    | .bk s' => some (.nx s')
    | .rt r => some (.rt r)) = some c1 := by
  have hi : i < xs.length := (List.getElem?_eq_some_iff.mp ha).1
  have e : xs.drop i = a :: xs.drop (i + 1) := by
    rw [List.drop_eq_getElem_cons hi]
    rw [(List.getElem?_eq_some_iff.mp ha).2]
  rw [e] at h
  exact bd_some h
/-- a loop that goes to its end -/
theorem rd_forS (Fd : Feeds J n G it) (Ty : Typed A K F n it xs) {f : α → S → Option S} {s0 s1 : S} (hm : loopS f xs s0 = some s1) (Iv : S → L2.St → Hp → Prop) (hG : ∀ s σ H, Iv s σ H → G H) (h0 : Iv s0 σ H)
    (turn : ∀ (a : α) (x : V) (s s' : S) (σ : L2.St) (H : Hp), A.r K F x a → Iv s σ H → f a s = some s' → g x σ H fun σ2 H2 => tb ⟨Iv s', Rx, Nx, Iv s'⟩ σ2 H2)
    (done : ∀ σ H, Iv s1 σ H → Nx σ H) : ForG J g tb ⟨Nx, Rx, Bx, Cx⟩ σ H := by
  refine ⟨fun i m σ H => m = n - i ∧ i ≤ n ∧ ∃ s, Iv s σ H ∧ loopS f (xs.drop i) s = some s1, ⟨n, by simp, Nat.zero_le _, s0, h0, hm⟩, ?_⟩
  rintro i m σ H ⟨rfl, hi, s, iv, hl⟩
  by_cases hlt : i < n
  · obtain ⟨a, ha⟩ : ∃ a, xs[i]? = some a := ⟨xs[i]'(by rw [Ty.len]; exact hlt), by simp [Ty.len, hlt]⟩
    obtain ⟨s', e1, e2⟩ := loopS_at hl ha
    refine .inr ⟨Fd.go i H hlt (hG s σ H iv), Iv s', fun σ' H' p' => ⟨n - (i + 1), by omega, rfl, hlt, s', p', e2⟩, fun x H' y => ?_⟩
    obtain ⟨rfl, hx⟩ := Fd.yld i H x H' hlt (hG s σ H iv) y
    obtain ⟨a', ha', r⟩ := Ty.at_ i x hx
    rw [ha] at ha'
    cases ha'
    exact turn a x s s' σ H' r iv e1
  · have e : i = n := by omega
    subst e
    rw [← Ty.len, List.drop_length] at hl
    cases hl
    exact .inl ⟨Fd.stop H (hG _ σ H iv), done σ H iv⟩
/-- a loop that may break off or return -/
theorem rd_forC (Fd : Feeds J n G it) (Ty : Typed A K F n it xs) {f : α → S → Option (Ctl S ρ)} {s0 : S} {c1 : Ctl S ρ} (hm : loopC f xs s0 = some c1) (Iv : S → L2.St → Hp → Prop) (hG : ∀ s σ H, Iv s σ H → G H) (h0 : Iv s0 σ H)
    (turn : ∀ (a : α) (x : V) (s : S) (c : Ctl S ρ) (σ : L2.St) (H : Hp), A.r K F x a → Iv s σ H → f a s = some c → (∀ s' σ' H', c = .bk s' → Iv s' σ' H' → Nx σ' H') → (∀ r, c = .rt r → c1 = .rt r) →
      g x σ H fun σ2 H2 => tb ⟨fun σ' H' => ∃ s', c = .nx s' ∧ Iv s' σ' H', Rx, Nx, fun σ' H' => ∃ s', c = .nx s' ∧ Iv s' σ' H'⟩ σ2 H2)
    (done : ∀ s σ H, c1 = .nx s → Iv s σ H → Nx σ H) : ForG J g tb ⟨Nx, Rx, Bx, Cx⟩ σ H := by
  refine ⟨fun i m σ H => m = n - i ∧ i ≤ n ∧ ∃ s, Iv s σ H ∧ loopC f (xs.drop i) s = some c1, ⟨n, by simp, Nat.zero_le _, s0, h0, hm⟩, ?_⟩
  rintro i m σ H ⟨rfl, hi, s, iv, hl⟩
  by_cases hlt : i < n
  · obtain ⟨a, ha⟩ : ∃ a, xs[i]? = some a := ⟨xs[i]'(by rw [Ty.len]; exact hlt), by simp [Ty.len, hlt]⟩
    obtain ⟨c, e1, e2⟩ := loopC_at hl ha
    refine .inr ⟨Fd.go i H hlt (hG s σ H iv), fun σ' H' => ∃ s', c = .nx s' ∧ Iv s' σ' H', fun σ' H' p' => ?_, fun x H' y => ?_⟩
    · obtain ⟨s', rfl, p'⟩ := p'
      exact ⟨n - (i + 1), by omega, rfl, hlt, s', p', e2⟩
    · obtain ⟨rfl, hx⟩ := Fd.yld i H x H' hlt (hG s σ H iv) y
      obtain ⟨a', ha', r⟩ := Ty.at_ i x hx
      rw [ha] at ha'
      cases ha'
      refine turn a x s c σ H' r iv e1 (fun s' σ' H' e p => ?_) fun r e => ?_
      · subst e
        exact done s' σ' H' (Option.some.inj e2).symm p
      · subst e
        exact (Option.some.inj e2).symm
  · have e : i = n := by omega
    subst e
    rw [← Ty.len, List.drop_length] at hl
    exact .inl ⟨Fd.stop H (hG _ σ H iv), done s σ H (Option.some.inj hl).symm iv⟩
end
section
variable {S ρ : Type} {c : TT} {tb : TS} {σ : L2.St} {H : Hp} {Nx Bx Cx : L2.St → Hp → Prop} {Rx : VK}
/-- while: the test may change the state; f: a turn -/
theorem rd_whileS {cm : S → Option (Bool × S)} {f : S → Option S} {N : Nat} {s0 s1 : S} (hm : whileS cm f N s0 = some s1) (Iv : S → L2.St → Hp → Prop) (h0 : Iv s0 σ H)
    (turn : ∀ (s : S) (b : Bool × S) (σ : L2.St) (H : Hp) (T : L2.St → Hp → Prop) (E : L2.St → Hp → Prop), Iv s σ H → cm s = some b → (∀ σ' H', b.1 = true → Iv b.2 σ' H' → T σ' H') → (∀ σ' H', b.1 = false → Iv b.2 σ' H' → E σ' H') → c σ H fun b H1 => if b = true then T σ H1 else E σ H1)
    (body : ∀ (s s' : S) (σ : L2.St) (H : Hp), Iv s σ H → f s = some s' → tb ⟨Iv s', Rx, Nx, Iv s'⟩ σ H)
    (done : ∀ σ H, Iv s1 σ H → Nx σ H) : tWhile c tb ⟨Nx, Rx, Bx, Cx⟩ σ H := by
  refine ⟨fun m σ H => ∃ s, Iv s σ H ∧ whileS cm f m s = some s1, ⟨N, s0, h0, hm⟩, ?_⟩
  rintro m σ H ⟨s, iv, h⟩
  cases m with
  | zero => cases h
  | succ m =>
    obtain ⟨b, e1, e2⟩ := bd_some h
    refine turn s b σ H (fun σ H1 => ∃ N : L2.St → Hp → Prop, (∀ σ' H', N σ' H' → ∃ m', m' < m + 1 ∧ ∃ s, Iv s σ' H' ∧ whileS cm f m' s = some s1) ∧ tb ⟨N, Rx, Nx, N⟩ σ H1) (fun σ H1 => Nx σ H1) iv e1 (fun σ' H' hb iv' => ?_) fun σ' H' hb iv' => ?_
    · rw [hb] at e2
      obtain ⟨s', e3, e4⟩ := bd_some (show ((f b.2).bind fun s' => whileS cm f m s') = some s1 from e2)
      exact ⟨Iv s', fun σ2 H2 p => ⟨m, Nat.lt_succ_self _, s', p, e4⟩, body b.2 s' σ' H' iv' e3⟩
    · rw [hb] at e2
      cases (show some b.2 = some s1 from e2)
      exact done σ' H' iv'
end
/-! ## comprehensions -/
def fitsE {α : Type} (a : List α) : Bool := decide (a.length ≤ sizeLine)
/-- f: an item's value, if it is kept, and the state behind it -/
def comp {α β S : Type} (f : α → S → Option (Option β × S)) : List α → S → Option (List β × S)
  | [], s => some ([], s)
  | x :: xs, s => (f x s).bind fun o => (comp f xs o.2).bind fun r => some (match o.1 with
    | some y => (y :: r.1, r.2)
    | none => r)
/-- what a comprehension's loop asks -/
abbrev LcG (J : It) (g : TG) (tt : TT) (te : TE) (vs : List Nat) (σ : L2.St) (D : Addr) (Q : VK) (H1 : Hp) : Prop :=
  ∃ W : Nat → Nat → Hp → Prop, (∃ m, W 0 m (upd H1 D (.lst []))) ∧ ∀ i m H, W i m H →
  (J.stop i H ∧ Q (.ref D) H) ∨ (J.go i H ∧ ∃ Nx : Hp → Prop, (∀ H', Nx H' → ∃ m', m' < m ∧ W (i + 1) m' H') ∧ ∀ x H', J.yld i H x H' → g x (wipe σ vs) H' fun σ2 H2 => wipe σ2 vs = wipe σ vs ∧ tt σ2 H2 fun b H3 =>
    if b = true then te σ2 H3 fun y H4 => ∃ acc, H4 D = some (.lst acc) ∧ acc.length < sizeLine ∧ Nx (upd H4 D (.lst (acc ++ [y]))) else Nx H3)
section
variable {J : It} {n : Nat} {G : Hp → Prop} {it : Nat → V → Prop} {α β S : Type} {A : R α} {B : R β} {K : PySem.W.Frag} {F1 H1 : Hp} {xs : List α} {g : TG} {tt : TT} {te : TE} {vs : List Nat} {σ : L2.St} {Q : VK}
theorem comp_at {f : α → S → Option (Option β × S)} {i : Nat} {a : α} {s : S} {r : List β × S} (h : comp f (xs.drop i) s = some r) (ha : xs[i]? = some a) : ∃ o r', f a s = some o ∧ comp f (xs.drop (i + 1)) o.2 = some r' ∧ r = (match o.1 with
    | some y => (y :: r'.1, r'.2)
    | none => r') := by
  have hi : i < xs.length := (List.getElem?_eq_some_iff.mp ha).1
  have e : xs.drop i = a :: xs.drop (i + 1) := by
    rw [List.drop_eq_getElem_cons hi]
    rw [(List.getElem?_eq_some_iff.mp ha).2]
  rw [e] at h
  obtain ⟨o, e1, h2⟩ := bd_some h
  obtain ⟨r', e2, h3⟩ := bd_some h2
  exact ⟨o, r', e1, e2, (Option.some.inj h3).symm⟩
/-- c: the step from the comprehension's start (F1, H1); Ex: what holds of the objects that it changes (Pc) -/
theorem rd_comp (Fd : Feeds J n G it) (Ty : Typed A K F1 n it xs) {f : α → S → Option (Option β × S)} {s0 : S} {r : List β × S} (hm : comp f xs s0 = some r) (hz : fitsE xs = true) {Pc : Addr → Prop} (hlv : ∀ a, Pc a → H1 a ≠ none) (hsub : Same F1 H1) (Ex : S → Hp → Hp → Prop)
    (hG : ∀ s F H, Sx Pc F1 H1 F H → Ex s F H → G H) (h0 : Ex s0 F1 H1) (hEx : ∀ s F H q o, Ex s F H → H1 q = none → H q = none → Ex s F (upd H q o)) (hEp : ∀ s F H q u o, Ex s F H → H1 q = none → H q = some u → Ex s F (upd H q o))
    (turn : ∀ (a : α) (x : V) (s : S) (o : Option β × S) (F H : Hp) (D : Addr) (acc : List V), A.r K F1 x a → Sx Pc F1 H1 F H → Ex s F H → Ow Pc H1 F H D (.lst acc) → H1 D = none → f a s = some o →
      ∀ (E : Hp → Prop) (N : V → Hp → Prop), (∀ y b F' H', o.1 = some b → Sx Pc F H F' H' → B.r K F' y b → Ex o.2 F' H' → N y H') → (∀ F' H', o.1 = none → Sx Pc F H F' H' → Ex o.2 F' H' → E H') →
      g x (wipe σ vs) H fun σ2 H2 => wipe σ2 vs = wipe σ vs ∧ tt σ2 H2 fun b H3 => if b = true then te σ2 H3 N else E H3)
    (done : ∀ D us F H, H1 D = none → Sx Pc F1 H1 F H → Ex r.2 F H → Ow Pc H1 F H D (.lst us) → Row B K F us r.1 → Q (.ref D) H) : ∀ D, H1 D = none → LcG J g tt te vs σ D Q H1 := by
  intro D hD
  refine ⟨fun i m H => m = n - i ∧ i ≤ n ∧ ∃ s F acc ys r', Sx Pc F1 H1 F H ∧ Ex s F H ∧ Ow Pc H1 F H D (.lst acc) ∧ Row B K F acc ys ∧ acc.length ≤ i ∧ comp f (xs.drop i) s = some r' ∧ r = (ys ++ r'.1, r'.2), ⟨n, by simp, Nat.zero_le _, s0, F1, [], [], r, ?_, ?_, ?_, .nil, Nat.le_refl _, hm, rfl⟩, ?_⟩
  · exact (Sx.refl hsub hlv).temp hD
  · exact hEx _ _ _ _ _ h0 hD hD
  · exact (Sx.refl hsub hlv).own hD
  rintro i m H ⟨rfl, hi, s, F, acc, ys, r', S, ex, w, row, hal, hl, hr⟩
  by_cases hlt : i < n
  · obtain ⟨a, ha⟩ : ∃ a, xs[i]? = some a := ⟨xs[i]'(by rw [Ty.len]; exact hlt), by simp [Ty.len, hlt]⟩
    obtain ⟨o, r2, e1, e2, e3⟩ := comp_at hl ha
    refine .inr ⟨Fd.go i H hlt (hG s F H S ex), fun H' => ∃ s F acc ys r', Sx Pc F1 H1 F H' ∧ Ex s F H' ∧ Ow Pc H1 F H' D (.lst acc) ∧ Row B K F acc ys ∧ acc.length ≤ i + 1 ∧ comp f (xs.drop (i + 1)) s = some r' ∧ r = (ys ++ r'.1, r'.2), fun H' p' => ⟨n - (i + 1), by omega, rfl, hlt, p'⟩, fun x H' y => ?_⟩
    obtain ⟨rfl, hx⟩ := Fd.yld i H x H' hlt (hG s F H S ex) y
    obtain ⟨a', ha', ra⟩ := Ty.at_ i x hx
    rw [ha] at ha'
    cases ha'
    have nD : ∀ F' H'', Sx Pc F H' F' H'' → Ow Pc H1 F' H'' D (.lst acc) := fun F' H'' c => w.call c fun z => hlv D z hD
    have hsz : acc.length < sizeLine := by
      have := of_decide_eq_true hz
      rw [Ty.len] at this
      omega
    refine turn a x s o F H' D acc ra S ex w hD e1 _ _ (fun y b F' H'' ho c rb ex' => ?_) fun F' H'' ho c ex' => ?_
    · have w' := nD F' H'' c
      have S' : Sx Pc F1 H1 F' H'' := S.call c fun a z => .inl z
      refine ⟨acc, w'.at_, hsz, o.2, F', acc ++ [y], ys ++ [b], r2, S'.put w', hEp _ _ _ _ _ _ ex' hD w'.at_, w'.put, (Row.mono c.le row).snoc rb, by simp; omega, e2, ?_⟩
      rw [hr, e3, ho]
      simp
    · have w' := nD F' H'' c
      have S' : Sx Pc F1 H1 F' H'' := S.call c fun a z => .inl z
      refine ⟨o.2, F', acc, ys, r2, S', ex', w', Row.mono c.le row, by omega, e2, ?_⟩
      rw [hr, e3, ho]
  · have e : i = n := by omega
    subst e
    rw [← Ty.len, List.drop_length] at hl
    cases hl
    refine .inl ⟨Fd.stop H (hG _ F H S ex), ?_⟩
    rw [hr] at done
    exact done D acc F H hD S ex w (by simpa using row)
end
/-! ## steps: what is new behind each is told by names -/
section
variable {P : Addr → Prop} {F0 H0 F H : Hp} {Q : VK} {α : Type} {A : R α} {K : PySem.W.Frag}
/-- a new object, of one's own -/
theorem al {o : HO} (S : Sx P F0 H0 F H) (k : ∀ p H', H p = none → Sx P0 F H F H' → Ow P H0 F H' p o → Q (.ref p) H') : nK Q H o :=
  fun p hp => k p _ hp ((Sx.refl0 S.sub).temp hp) (S.own hp)
/-- a new object that stands for good -/
theorem alF {o : HO} (S : Sx P F0 H0 F H) (k : ∀ p F' H', Sx P0 F H F' H' → F' p = some o → Q (.ref p) H') : nK Q H o :=
  fun p hp => k p _ _ ((Sx.refl0 S.sub).alloc hp) upd_same
theorem alT {vs : List V} {xs : List α} (S : Sx P F0 H0 F H) (r : Row A K F vs xs) (k : ∀ v F' H', Sx P0 F H F' H' → (qT A).r K F' v xs → Q v H') : nK Q H (.tup vs) :=
  alF S fun p F' H' c h => k _ F' H' c ⟨p, vs, rfl, .inl (.inl h), Row.mono c.le r⟩
theorem alL {vs : List V} {xs : List α} (S : Sx P F0 H0 F H) (r : Row A K F vs xs) (k : ∀ v F' H', Sx P0 F H F' H' → (qL A).r K F' v xs → Q v H') : nK Q H (.lst vs) :=
  alF S fun p F' H' c h => k _ F' H' c ⟨p, vs, rfl, h, Row.mono c.le r⟩
/-- the same where the row is handed on -/
theorem alL' {xs : List α} (S : Sx P F0 H0 F H) (k : ∀ v F' H', Sx P0 F H F' H' → (qL A).r K F' v xs → Q v H') : nL A K F Q H xs :=
  fun p us hp r => alL S r k p hp
theorem alT' {xs : List α} (S : Sx P F0 H0 F H) (k : ∀ v F' H', Sx P0 F H F' H' → (qT A).r K F' v xs → Q v H') : nT A K F Q H xs :=
  fun p us hp r => alT S r k p hp
variable {p : Addr} {vs : List V} {xs : List α}
theorem ap (S : Sx P F0 H0 F H) (w : Ow P H0 F H p (.lst vs)) (r : Row A K F vs xs) {y : V} (h : fits xs = true) (k : ∀ H', Sx (fun a => a = p) F H F H' → Ow P H0 F H' p (.lst (vs ++ [y])) → Q .non H') : rAppend (.ref p) [y] H Q :=
  rd_app w r h (k _ ((Sx.refl S.sub fun a z => by rw [z, w.at_]; exact fun h => nomatch h).put w.arg) w.put)
theorem ex' (S : Sx P F0 H0 F H) (w : Ow P H0 F H p (.lst vs)) (r : Row A K F vs xs) {b : V} {ys : List α} (s : SeenL A K F H b ys) (h : fits2 xs ys = true) (k : ∀ us H', Sx (fun a => a = p) F H F H' → Ow P H0 F H' p (.lst (vs ++ us)) → Row A K F (vs ++ us) (xs ++ ys) → Q .non H') : rExtend (.ref p) [b] H Q :=
  rd_extend w r s h fun us r2 => k us _ ((Sx.refl S.sub fun a z => by rw [z, w.at_]; exact fun h => nomatch h).put w.arg) w.put (pApp r r2)
/-- an own list is let stand for good -/
theorem fz (S : Sx P F0 H0 F H) (w : Ow P H0 F H p (.lst vs)) (h0 : H0 p = none) (r : Row A K F vs xs) : ∃ F', Sx P F0 H0 F' H ∧ Same F F' ∧ (qL A).r K F' (.ref p) xs ∧ F' p ≠ none ∧ ∀ q, q ≠ p → F' q = F q :=
  ⟨upd F p (.lst vs), S.freeze w h0, w.leF, ⟨p, vs, rfl, upd_same, Row.mono w.leF r⟩, by (rw [upd_same]; exact (fun h => nomatch h)), fun q hq => upd_ne hq⟩
theorem Ow.fzO {F' : Hp} {o : HO} {q : Addr} (w : Ow P H0 F H q o) (n : q ≠ p) (e : ∀ q, q ≠ p → F' q = F q) : Ow P H0 F' H q o := ⟨by rw [e q n]; exact w.fr, w.at_, w.mine⟩
end
end Gl
namespace Gl
open PySem PySem.Spec PyProof.Rows L2
/-! ## defs by names -/
def fdDefault : FuncData := PySem.W.fnOf "" "" { posonlyargs := [], args := [], vararg := none, kwonlyargs := [], kw_defaults := [], kwarg := none, defaults := [] } [] { kind := .function, names := [], isGenerator := false, isCoroutine := false } .none .none .none .none none .none .none
def fdOf (K : PySem.W.Frag) (p : Str × Option Str) : FuncData := match K.lookup (He.fAd K p) with
  | some ⟨_, _, .func fd, _⟩ => fd
  | _ => fdDefault
abbrev FnD' (K : PySem.W.Frag) (p : Str × Option Str) (x q : Str) (st : Stmt) : Prop := FunD K x q (defArgs st) (defBody st) (defScope st) [] [] (He.fAd K p) (fdOf K p)
theorem fdOf_eq {K : PySem.W.Frag} {p : Str × Option Str} {x q : Str} {ps : Arguments} {body : List Stmt} {sc : Scope} {dvs : List V} {kws : List (Str × V)} {fd : FuncData} (F : FunD K x q ps body sc dvs kws (He.fAd K p) fd) : fd = fdOf K p := by
  obtain ⟨oc, od, dV, kV, doc, pm, an, cdv, ct, osl, e, lk, _⟩ := F.ex
  unfold fdOf
  rw [lk]
theorem fd_of {fa : List He.Fa} {fn : List He.DefD} {K : PySem.W.Frag} (c : He.SaysD fa fn K) (i : Nat) {d : He.DefD} (h : fn[i]? = some d := by rfl) : FunD K d.name d.qual d.params d.body d.scope (d.dvs K) (d.kws K) (He.fAd K d.at_) (fdOf K d.at_) := by
  obtain ⟨fd, F⟩ := c.def_ i h
  have e := fdOf_eq F
  subst e
  exact F
/-! ## a list of two ints that is drawn from -/
section
variable {P : Addr → Prop} {F0 H0 F H : Hp} {Q : VK} {K : PySem.W.Frag} {p : Addr} {a b c : V}
theorem pool0 (w : Ow P H0 F H p (.lst [a, b])) (k : Q a H) : rIxL K (.ref p) (.int 0) H Q := ⟨p, [a, b], 0, a, rfl, rfl, SqL.of w.at_, rfl, k⟩
theorem pool1 (w : Ow P H0 F H p (.lst [a, b])) (k : Q b H) : rIxL K (.ref p) (.int 1) H Q := ⟨p, [a, b], 1, b, rfl, rfl, SqL.of w.at_, rfl, k⟩
theorem putS (S : Sx P F0 H0 F H) {o u : HO} (w : Ow P H0 F H p o) : Sx (fun a => a = p) F H F (upd H p u) := (Sx.refl S.sub fun a z => by rw [z, w.at_]; exact fun h => nomatch h).put w.arg
theorem pset0 {R : Hp → Prop} (S : Sx P F0 H0 F H) (w : Ow P H0 F H p (.lst [a, b])) (k : ∀ H', Sx (fun a => a = p) F H F H' → Ow P H0 F H' p (.lst [c, b]) → R H') : rSetL (.ref p) (.int 0) c H R := ⟨p, [a, b], 0, 0, rfl, rfl, w.at_, rfl, k _ (putS S w) w.put⟩
theorem pset1 {R : Hp → Prop} (S : Sx P F0 H0 F H) (w : Ow P H0 F H p (.lst [a, b])) (k : ∀ H', Sx (fun a => a = p) F H F H' → Ow P H0 F H' p (.lst [a, c]) → R H') : rSetL (.ref p) (.int 1) c H R := ⟨p, [a, b], 1, 1, rfl, rfl, w.at_, rfl, k _ (putS S w) w.put⟩
end
end Gl
namespace Gl
open PySem PySem.Spec PyProof.Rows L2
/-! ## readings, construct by construct -/
section
variable {σ : L2.St} {H : Hp} {Q : VK} {v : V} {i j : Int} {ta tb tc te : TE} {t u : TT} {r : R2} {D : Ends} {tr : TA} {K : PySem.W.Frag} {b : Bool}
theorem rd_v {i : Nat} (h : σ[i]? = some (some v)) (k : Q v H) : tVar i σ H Q := ⟨v, h, k⟩
theorem rd_c (k : Q v H) : tC v σ H Q := k
theorem rd_op (k : ta σ H fun x H1 => tb σ H1 fun y H2 => r x y H2 Q) : tOp r ta tb σ H Q := k
theorem rd_un {r : V → Hp → VK → Prop} (k : ta σ H fun x H1 => r x H1 Q) : tUn r ta σ H Q := k
theorem rd_I0 {g : Int → Int → V} (k : Q (g i j) H) : rI0 g (.int i) (.int j) H Q := ⟨i, j, rfl, rfl, k⟩
theorem rd_I {C : Int → Int → Prop} {g : Int → Int → V} (c : C i j) (k : Q (g i j) H) : rI C g (.int i) (.int j) H Q := ⟨i, j, rfl, rfl, c, k⟩
theorem rd_U {g : Int → V} (k : Q (g i) H) : rU g (.int i) H Q := ⟨i, rfl, k⟩
theorem rd_S0 {g : Str → Str → V} {x y : Str} (k : Q (g x y) H) : rS0 g (.str x) (.str y) H Q := ⟨x, y, rfl, rfl, k⟩
def rCatS : R2 := fun x y H Q => ∃ i j, x = .str i ∧ y = .str j ∧ i.length + j.length ≤ sizeLine ∧ Q (.str (i ++ j)) H
theorem op_catS {X : Cx} : OpR X (binaryOp .Add) rCatS := op_add_str
theorem rd_catS {x y : Str} (h : catOk x y = true) (k : Q (.str (x ++ y)) H) : rCatS (.str x) (.str y) H Q := ⟨x, y, rfl, rfl, catOk_of h, k⟩
def rInS : R2 := fun x y H Q => ∃ i j, x = .str i ∧ y = .str j ∧ Q (.bl (inS i j)) H
def rNiS : R2 := fun x y H Q => ∃ i j, x = .str i ∧ y = .str j ∧ Q (.bl (!inS i j)) H
theorem op_inS {X : Cx} : OpR X (compareOp .In) rInS := op_in_str
theorem op_niS {X : Cx} : OpR X (compareOp .NotIn) rNiS := op_notin_str
theorem rd_inSS {x y : Str} (k : Q (.bl (inS x y)) H) : rInS (.str x) (.str y) H Q := ⟨x, y, rfl, rfl, k⟩
theorem rd_niSS {x y : Str} (k : Q (.bl (!inS x y)) H) : rNiS (.str x) (.str y) H Q := ⟨x, y, rfl, rfl, k⟩
theorem rd_ixS {x z : Str} (h : ixS x i = some z) (k : Q (.str z) H) : rIxS (.str x) (.int i) H Q := by
  obtain ⟨c, h1, h2, rfl⟩ := ixS_some h
  exact ⟨x, i, c, rfl, rfl, h1, h2, k⟩
theorem rd_slS {z : Str} {lo hi : Option Int} (h : fitsS z = true) (k : Q (.str (cutS z lo hi)) H) : rSlS (.str z) lo hi H Q := ⟨z, rfl, fitsS_of h, k⟩
/-! tests -/
variable {QB : Bool → Hp → Prop}
/-- what is wanted of a truth -/
def bK (QB : Bool → Hp → Prop) : VK := fun x H => ∃ k, x = .bl k ∧ QB k H
theorem rd_test (k : te σ H (bK QB)) : tTest te σ H QB := k
theorem rd_tB (k : te σ H (bK QB)) : tB te σ H QB := k
theorem rd_b (k : QB b H) : bK QB (.bl b) H := ⟨b, rfl, k⟩
theorem rd_and (k : t σ H fun c H1 => if c = true then u σ H1 QB else QB false H1) : tAnd t u σ H QB := k
theorem rd_or (k : t σ H fun c H1 => if c = true then QB true H1 else u σ H1 QB) : tOr t u σ H QB := k
theorem rd_not (k : t σ H fun c H1 => QB (!c) H1) : tNot t σ H QB := k
theorem rd_andV (k : ta σ H (bK fun c H1 => if c = true then tb σ H1 Q else Q (.bl false) H1)) : tAndV ta tb σ H Q := k
theorem rd_orV (k : ta σ H (bK fun c H1 => if c = true then Q (.bl true) H1 else tb σ H1 Q)) : tOrV ta tb σ H Q := k
theorem rd_ifE (k : t σ H fun c H1 => if c = true then ta σ H1 Q else tb σ H1 Q) : tIf t ta tb σ H Q := k
theorem rd_yes (k : QB true H) : tYes σ H QB := k
/-! arguments, calls -/
variable {QA : List V → Hp → Prop}
theorem rd_nil (k : QA [] H) : tNil σ H QA := k
theorem rd_cons (k : te σ H fun x H1 => tr σ H1 fun xs H2 => QA (x :: xs) H2) : tCons te tr σ H QA := k
theorem rd_call {sp : Sp} {dvs : List V} {E : XK} (k : tr σ H fun vs H1 => sp (vs ++ dvs) H1 Q E) : tCall sp dvs E tr σ H Q := k
theorem rd_cb {r : List V → Hp → VK → Prop} (k : tr σ H fun xs H1 => r xs H1 Q) : tCB r tr σ H Q := k
def lK (Q : VK) : List V → Hp → Prop := fun xs H1 => xs.length ≤ sizeLine ∧ ∀ p, H1 p = none → Q (.ref p) (upd H1 p (.lst xs))
def uK (Q : VK) : List V → Hp → Prop := fun xs H1 => xs.length ≤ sizeLine ∧ ∀ p, H1 p = none → Q (.ref p) (upd H1 p (.tup xs))
theorem rd_lst (k : tr σ H (lK Q)) : tLst tr σ H Q := k
theorem rd_lK {xs : List V} (h : Nat.ble xs.length 1000 = true) (k : nK Q H (.lst xs)) : lK Q xs H := ⟨Nat.le_trans (Nat.le_of_ble_eq_true h) (by decide), k⟩
theorem rd_uK {xs : List V} (h : Nat.ble xs.length 1000 = true) (k : nK Q H (.tup xs)) : uK Q xs H := ⟨Nat.le_trans (Nat.le_of_ble_eq_true h) (by decide), k⟩
theorem rd_tup (k : tr σ H (uK Q)) : tTup tr σ H Q := k
theorem rd_bm {T : String} {r : V → List V → Hp → VK → Prop} (k : te σ H fun x H1 => tyV K T x H1 ∧ tr σ H1 fun xs H2 => r x xs H2 Q) : tBM K T r te tr σ H Q := k
theorem rd_ty {A B : Prop} (h : A) (k : B) : A ∧ B := ⟨h, k⟩
theorem rd_thn {k' : V → Hp → VK → Prop} (k : te σ H fun x H1 => k' x H1 Q) : tThen te k' σ H Q := k
/-! slices -/
variable {QO : Option Int → Hp → Prop}
theorem rd_sl {r : V → Option Int → Option Int → Hp → VK → Prop} {tl th : TO} (k : te σ H fun x H1 => tl σ H1 fun l H2 => th σ H2 fun u H3 => r x l u H3 Q) : tSl r te tl th σ H Q := k
theorem rd_np (k : QO none H) : tNoPart σ H QO := k
def iK (QO : Option Int → Hp → Prop) : VK := fun x H => ∃ i, x = .int i ∧ QO (some i) H
theorem rd_pt (k : te σ H (iK QO)) : tPart te σ H QO := k
theorem rd_i (k : QO (some i) H) : iK QO (.int i) H := ⟨i, rfl, k⟩
/-! built-ins -/
def rInt1 : List V → Hp → VK → Prop := fun xs H Q => (∃ i, xs = [.int i] ∧ Q (.int i) H) ∨ ∃ k, xs = [.bl k] ∧ Q (.int (if k then 1 else 0)) H
theorem cr_int {X : Cx} : CallR X (.type "int") rInt1 := call_int1
theorem rd_intI (k : Q (.int i) H) : rInt1 [.int i] H Q := .inl ⟨i, rfl, k⟩
theorem rd_intB (k : Q (.int (b2I b)) H) : rInt1 [.bl b] H Q := .inr ⟨b, rfl, k⟩
def rMax2 : List V → Hp → VK → Prop := fun xs H Q => ∃ i j, xs = [.int i, .int j] ∧ Q (.int (if j > i then j else i)) H
theorem cr_max2 {X : Cx} (hc : X.calm = true) : CallR X (.builtin "max") rMax2 := call_max2 hc
theorem rd_max2 (k : Q (.int (maxI i j)) H) : rMax2 [.int i, .int j] H Q := ⟨i, j, rfl, k⟩
def rMin2 : List V → Hp → VK → Prop := fun xs H Q => ∃ i j, xs = [.int i, .int j] ∧ Q (.int (if j < i then j else i)) H
theorem cr_min2 {X : Cx} (hc : X.calm = true) : CallR X (.builtin "min") rMin2 := call_min2 hc
theorem rd_min2 (k : Q (.int (minI i j)) H) : rMin2 [.int i, .int j] H Q := ⟨i, j, rfl, k⟩
def rLenS : List V → Hp → VK → Prop := fun xs H Q => ∃ z, xs = [.str z] ∧ z.length ≤ sizeLine ∧ Q (.int z.length) H
theorem cr_lenS {X : Cx} : CallR X (.builtin "len") rLenS := call_len_str
theorem rd_lenS {z : Str} (h : fitsS z = true) (k : Q (.int (z.length : Int)) H) : rLenS [.str z] H Q := ⟨z, rfl, fitsS_of h, k⟩
def rLenQ (K : PySem.W.Frag) : List V → Hp → VK → Prop := fun xs H Q => ∃ p ys, xs = [.ref p] ∧ (SqL K H p ys ∨ SqT K H p ys) ∧ Q (.int ys.length) H
theorem cr_lenQ {X : Cx} : CallR X (.builtin "len") (rLenQ X.K) := call_len_seq
theorem rd_lenQ {α : Type} {A : R α} {F : Hp} {xs : List α} (s : SeenQ A K F H v xs) (k : Q (.int (xs.length : Int)) H) : rLenQ K [v] H Q := rd_len s k
def rListQ (K : PySem.W.Frag) : List V → Hp → VK → Prop := fun xs H Q => ∃ p ys, xs = [.ref p] ∧ (SqL K H p ys ∨ SqT K H p ys) ∧ ∀ l, H l = none → Q (.ref l) (upd H l (.lst ys))
theorem cr_listQ {X : Cx} : CallR X (.type "list") (rListQ X.K) := call_list_of
theorem rd_listQ {α : Type} {A : R α} {F : Hp} {xs : List α} (s : SeenQ A K F H v xs) (k : nL A K F Q H xs) : rListQ K [v] H Q := rd_list s k
/-! targets, statements -/
variable {QS : L2.St → Hp → Prop} {g : TG} {ts us : TS} {N B C : L2.St → Hp → Prop} {R : VK}
theorem rd_gn {i : Nat} (k : QS (σ.set i (some v)) H) : gName i v σ H QS := k
theorem rd_gsub {st : TSet} (k : ta σ H fun o H1 => tb σ H1 fun i H2 => st o i v H2 fun H3 => QS σ H3) : gSub ta tb st v σ H QS := k
theorem rd_seq (k : ts ⟨us ⟨N, R, B, C⟩, R, B, C⟩ σ H) : tSeq ts us ⟨N, R, B, C⟩ σ H := k
theorem rd_asg (k : te σ H fun x H1 => g x σ H1 N) : tAsg te g ⟨N, R, B, C⟩ σ H := k
theorem rd_ifS (k : t σ H fun b H1 => if b = true then ts D σ H1 else us D σ H1) : tIfS t ts us D σ H := k
theorem rd_ret (k : te σ H R) : tRet te ⟨N, R, B, C⟩ σ H := k
theorem rd_drop (k : te σ H fun _ H1 => N σ H1) : tDrop te ⟨N, R, B, C⟩ σ H := k
theorem rd_next (k : N σ H) : tNext ⟨N, R, B, C⟩ σ H := k
theorem rd_cut (Mid : L2.St → Hp → Prop) (h : ts ⟨Mid, R, B, C⟩ σ H) (k : ∀ σ' H', Mid σ' H' → us ⟨N, R, B, C⟩ σ' H') : C8.tCut ts us ⟨N, R, B, C⟩ σ H := ⟨Mid, h, k⟩
theorem rd_for {wi : TI} (k : wi σ H fun J H1 => ForG J g ts D σ H1) : tFor wi g ts D σ H := k
theorem rd_lc {wi : TI} {vs : List Nat} (k : wi σ H fun J H1 => ∀ D, H1 D = none → LcG J g t te vs σ D Q H1) : tLc wi g t te vs σ H Q := k
variable {RI : It → Hp → Prop}
/-- what is wanted of a walked list, tuple, text, range -/
def wL (K : PySem.W.Frag) (RI : It → Hp → Prop) : VK := fun x H1 => ∃ a, x = .ref a ∧ (∃ xs, SqL K H1 a xs) ∧ RI (Itl K a) H1
def wT (K : PySem.W.Frag) (RI : It → Hp → Prop) : VK := fun x H1 => ∃ a, x = .ref a ∧ (∃ xs, SqT K H1 a xs) ∧ RI (Itt K a) H1
def wS (RI : It → Hp → Prop) : VK := fun v H1 => ∃ x, v = .str x ∧ RI (Its x) H1
def wR1 (RI : It → Hp → Prop) : List V → Hp → Prop := fun vs H1 => ∃ j : Int, vs = [.int j] ∧ -(2 ^ 62) ≤ j ∧ j < 2 ^ 62 ∧ RI (Itr 0 j.toNat) H1
theorem rd_iL (k : te σ H (wL K RI)) : iList K te σ H RI := k
theorem rd_iT (k : te σ H (wT K RI)) : iTup K te σ H RI := k
/-- over a list or a tuple -/
def iSeq (K : PySem.W.Frag) (te : TE) : TI := fun σ H R => iList K te σ H R ∨ iTup K te σ H R
theorem pi_seq {X : Cx} {tg l : Expr} (hl : PE X l te) : PI X tg l (iSeq X.K te) := ⟨fun pins s σ H R I h => h.elim (fun h => (pi_list hl).run pins s σ H R I h) fun h => (pi_tup hl).run pins s σ H R I h⟩
theorem rd_iS (k : te σ H (wS RI)) : iStr te σ H RI := k
theorem rd_iR1 (k : tr σ H (wR1 RI)) : iRng1 tr σ H RI := k
theorem rd_wS {z : Str} (k : RI (Its z) H) : wS RI (.str z) H := ⟨z, rfl, k⟩
def rgOk (a b : Int) : Bool := (decide (-(2 ^ 62) ≤ a) && decide (a < 2 ^ 62)) && (decide (-(2 ^ 62) ≤ b) && decide (b < 2 ^ 62))
theorem rd_r1 {n : Int} (h : rgOk 0 n = true) (k : RI (Itr 0 (n - 0).toNat) H) : wR1 RI [.int n] H := by
  unfold rgOk at h
  simp only [Bool.and_eq_true, decide_eq_true_eq] at h
  exact ⟨n, rfl, h.2.1, h.2.2, by rw [Int.sub_zero] at k; exact k⟩
end
end Gl
namespace Gl
open PySem PySem.Spec PyProof.Rows L2
theorem if_t {α : Type} {b : Bool} {x y r : α} (h : (if b = true then x else y) = r) (hb : b = true) : x = r := by
  rw [hb] at h; exact h
theorem if_f {α : Type} {b : Bool} {x y r : α} (h : (if b = true then x else y) = r) (hb : b = false) : y = r := by
  rw [hb] at h; exact h
theorem if_tt {A B : Prop} (h : A) : if true = true then A else B := h
theorem aft_nx {S ρ : Type} {s : S} {k : S → Option ρ} {r : Option ρ} (h : aft (.nx s) k = r) : k s = r := h
theorem aft_rt {S ρ : Type} {v : ρ} {k : S → Option ρ} {r : Option ρ} (h : aft (.rt v) k = r) : some v = r := h
/-! ## text times int, list(text) -/
section
variable {X : Cx}
def repS (x : Str) (n : Int) : Str := Txt.mul x n
def repOk (x : Str) (n : Int) : Bool := (decide (-(2 ^ 62) ≤ n) && decide (n < 2 ^ 62)) && decide (x.length * n.toNat ≤ 100000) && decide (x.length ≤ 100000)
theorem repOk_of {x : Str} {n : Int} (h : repOk x n = true) : MulOk x n := by
  unfold repOk at h
  simp only [Bool.and_eq_true, decide_eq_true_eq] at h
  obtain ⟨⟨⟨h1, h2⟩, h3⟩, h4⟩ := h
  refine ⟨?_, fun a _ => ?_, fun a _ => ?_⟩
  · have e1 : decide (n < -(2 ^ 63 : Int)) = false := decide_eq_false (by omega)
    have e2 : decide (n ≥ (2 ^ 63 : Int)) = false := decide_eq_false (by omega)
    rw [e1, e2]; rfl
  · have hn : 0 < n := by omega
    intro c
    have e3 : (x.length : Int) * n ≤ 100000 := by
      have e4 : ((x.length * n.toNat : Nat) : Int) ≤ ((100000 : Nat) : Int) := Int.ofNat_le.mpr h3
      have e5 : (n.toNat : Int) = n := Int.toNat_of_nonneg (by omega)
      rw [Int.natCast_mul, e5] at e4
      have e7 : ((100000 : Nat) : Int) = 100000 := rfl
      rw [e7] at e4
      exact e4
    have e6 : (x.length : Int) ≤ (2 ^ 63 - 1) / n := by
      rw [Int.le_ediv_iff_mul_le hn]
      omega
    omega
  · have e1 : sizeLine = 16777216 := sizeLine_eq
    unfold Builtin.Str.tooLong
    exact decide_eq_false (by omega)
def rRepS : R2 := fun x y H Q => ∃ z n, x = .str z ∧ y = .int n ∧ repOk z n = true ∧ Q (.str (repS z n)) H
theorem op_repS : OpR X (binaryOp .Mult) rRepS := by
  intro pins s σ H x y v u Q I rx ry h
  obtain ⟨z, n, rfl, rfl, ok, q⟩ := h
  obtain ⟨t, rfl⟩ := rx
  obtain ⟨t', rfl⟩ := ry
  exact SB.mul (repOk_of ok) fun t2 k => ⟨.str _, H, I.tok _, ⟨_, rfl⟩, q⟩
theorem rd_repS {H : Hp} {Q : VK} {z : Str} {n : Int} (h : repOk z n = true) (k : Q (.str (repS z n)) H) : rRepS (.str z) (.int n) H Q := ⟨z, n, rfl, rfl, h, k⟩
def rListS : List V → Hp → VK → Prop := fun xs H Q => ∃ z : Str, xs = [.str z] ∧ z.cps.size ≤ sizeLine ∧ ∀ l, H l = none → Q (.ref l) (upd H l (.lst ((sgns z).map V.str)))
theorem vals_signs {z : Str} {acc : Array Value} (h : ItemsOf (SignAt z) acc z.cps.size) : Vals ((sgns z).map V.str) acc.toList := by
  have hs : acc.toList.length = z.cps.size := by rw [Array.length_toList]; exact h.1
  have key : ∀ (l : List Value) (cs : List Nat), l.length = cs.length → (∀ (j : Nat) (u : Value), l[j]? = some u → ∃ (c : Nat) (t : Tok), cs[j]? = some c ∧ u = Value.str ⟨#[c]⟩ t) → Vals ((cs.map fun c => (⟨#[c]⟩ : Str)).map V.str) l := by
    intro l
    induction l with
    | nil => intro cs hl _; cases cs with
      | nil => exact .nil
      | cons c r => cases hl
    | cons u l ih =>
      intro cs hl hj
      cases cs with
      | nil => cases hl
      | cons c r =>
        obtain ⟨c', t, e1, e2⟩ := hj 0 u rfl
        cases e1
        exact .cons ⟨t, e2⟩ (ih r (Nat.succ.inj hl) fun j w e => hj (j + 1) w e)
  refine key acc.toList z.cps.toList (by rw [hs]; rfl) fun j u e => ?_
  have e' : acc[j]? = some u := by rw [← Array.getElem?_toList]; exact e
  obtain ⟨c, t, e1, e2⟩ := h.2 j u e'
  exact ⟨c, t, by rw [Array.getElem?_toList]; exact e1, e2⟩
theorem cr_listS (hc : X.calm = true) : CallR X (.type "list") rListS := by
  intro pins s σ H xs us Q I r h
  obtain ⟨z, rfl, hz, q⟩ := h
  obtain ⟨u, rfl, t, rfl⟩ := vals1 r
  refine PySem.call_list_str (I.ok.hd hc) z t (fun h' tk acc' c' hk hS hacc => ?_) hz
  have hsz : ((sgns z).map V.str).length ≤ sizeLine := by unfold sgns; simpa using hz
  have I1 := I.laid (a := s.heap.objs.size) (o := .lst ((sgns z).map V.str)) (t' := tk) (h' := h') hk (Nat.le_refl _) (show ObjOk X.prog X.w _ _ _ (.lst _) from ⟨hsz, acc'.toList, c', vals_signs hacc, by simpa using hS⟩)
  exact ⟨.ref s.heap.objs.size, _, I1, rfl, q _ (I.hok.fresh (Nat.le_refl _))⟩
theorem row_strs {K : PySem.W.Frag} {F : Hp} : ∀ xs : List Str, Row qS K F (xs.map V.str) xs
  | [] => .nil
  | _ :: xs => .cons rfl (row_strs xs)
theorem rd_listS {K : PySem.W.Frag} {F H : Hp} {Q : VK} {z : Str} (h : fitsS z = true) (k : nL qS K F Q H (sgns z)) : rListS [.str z] H Q :=
  ⟨z, rfl, fitsS_of h, fun l hl => k l _ hl (row_strs _)⟩
end
/-! ## walked rows -/
section
variable {K : PySem.W.Frag} {P : Addr → Prop} {F0 H0 F H : Hp} {v : V} {α : Type} {A : R α} {xs : List α} {RI : It → Hp → Prop} {σ : L2.St} {te : TE}
theorem rd_wLF (S : Sx P F0 H0 F H) (r : (qL A).r K F v xs) (k : ∀ p vs, SqL K F p vs → Row A K F vs xs → RI (Itl K p) H) : wL K RI v H := by
  obtain ⟨p, vs, rfl, h1, h2⟩ := r
  exact ⟨p, rfl, ⟨vs, Same.seq S.sub (SqL.of h1)⟩, k p vs (SqL.of h1) h2⟩
theorem rd_wTF (S : Sx P F0 H0 F H) (r : (qT A).r K F v xs) (k : ∀ p vs, SqT K F p vs → Row A K F vs xs → RI (Itt K p) H) : wT K RI v H := by
  obtain ⟨p, vs, rfl, h1, h2⟩ := r
  exact ⟨p, rfl, ⟨vs, same_t S.sub h1⟩, k p vs h1 h2⟩
/-- over a list or a tuple: whichever it is -/
theorem rd_wSeq (S : Sx P F0 H0 F H) (r : (qQ A).r K F v xs) (hv : ∀ Q : VK, Q v H → te σ H Q)
    (k : ∀ (J : It) (n : Nat) (G : Hp → Prop) (it : Nat → V → Prop), Feeds J n G it → Typed A K F n it xs → (∀ F' H', Same F F' → Same F' H' → G H') → RI J H) : iSeq K te σ H RI := by
  rcases r with ⟨p, vs, rfl, h1, h2⟩ | ⟨p, vs, rfl, h1, h2⟩
  · refine .inl (hv _ ⟨p, rfl, ⟨vs, Same.seq S.sub (SqL.of h1)⟩, k _ _ _ _ feedsL (typedRow h2) fun F' H' e1 e2 => Same.seq e2 (Same.seq e1 (SqL.of h1))⟩)
  · refine .inr (hv _ ⟨p, rfl, ⟨vs, same_t S.sub h1⟩, k _ _ _ _ feedsT (typedRow h2) fun F' H' e1 e2 => same_t e2 (same_t e1 h1)⟩)
end
/-! ## targets of two names; a block's slots -/
section
variable {K : PySem.W.Frag} {σ : L2.St} {H : Hp} {p : Addr} {u w : V} {QS : L2.St → Hp → Prop} {t g : TG} {ts : TGs} {n : Nat} {vs : List V}
theorem rd_gc {v : V} (k : g v σ H fun σ' H' => ts vs σ' H' QS) : gCons g ts (v :: vs) σ H QS := ⟨v, vs, rfl, k⟩
theorem rd_gl (k : QS σ H) : gNil [] σ H QS := ⟨rfl, k⟩
theorem rd_wp {A B : Prop} (h : A) (k : B) : A ∧ B := ⟨h, k⟩
end
/-! ## isinstance of a value whose kind is known -/
section
variable {K : PySem.W.Frag} {P : Addr → Prop} {F0 H0 F H : Hp} {v : V} {α β : Type} {A : R α} {B : R β} {xs : List α} {Q : VK}
theorem tx_int {i : Int} : TyX K H (.int i) (.type "int") := .base (.int i)
theorem tx_bl {i : Bool} : TyX K H (.bl i) (.type "bool") := .base (.bl i)
theorem tx_str {i : Str} : TyX K H (.str i) (.type "str") := .base (.str i)
theorem tx_non : TyX K H .non (.type "NoneType") := .base .non
theorem tx_list (s : SeenR A K F H v xs) : TyX K H v (.type "list") := by
  obtain ⟨p, vs, rfl, (h | ⟨o, h⟩) | ⟨o, its, n, h1, h2, _⟩, _⟩ := s
  · exact .base (.lst h)
  · exact .base (.frz h)
  · exact .kList h1 h2
theorem tx_sqt {p : Addr} {vs : List V} (h : SqT K H p vs) : TyX K H (.ref p) (.type "tuple") := by
  rcases h with (h | ⟨o, h⟩) | ⟨o, its, n, h1, h2, _⟩
  · exact .base (.tup h)
  · exact .fTuple h
  · exact .kTuple h1 h2
theorem rd_isi {t : Value} {n : String} {b : Bool} (s : TyX K H v t) (h : PySem.W.kitOne [] t (.type n) = some b) (k : Q (.bl b) H) (hk : PySem.W.kitOne K t (.type n) = PySem.W.kitOne [] t (.type n) := by rfl) : rIsi K [v, .ty n] H Q :=
  ⟨v, .ty n, t, .type n, b, rfl, .ty n, s, hk.trans h, k⟩
end
/-! ## list(range(..)) -/
section
variable {σ : L2.St} {H : Hp} {Q : VK} {ta tb : TE} {tr : L2.St → Hp → (Int → Int → Hp → Prop) → Prop} {K : PySem.W.Frag} {F : Hp} {QI : Int → Int → Hp → Prop}
def rgFit (a b : Int) : Bool := (decide (-(2 ^ 62) ≤ a) && decide (a < 2 ^ 62)) && (decide (-(2 ^ 62) ≤ b) && (decide (b < 2 ^ 62) && decide ((b - a).toNat ≤ 16000000)))
def gK (Q : VK) : Int → Int → Hp → Prop := fun a b H1 => RgOk a b ∧ ∀ q, H1 q = none → Q (.ref q) (upd H1 q (.lst (rgV a b)))
theorem rd_lrg (k : tr σ H (gK Q)) : tLstRg tr σ H Q := k
def g2K (Q : Int → Int → Hp → Prop) : V → V → Hp → Prop := fun x y H2 => ∃ i j, x = .int i ∧ y = .int j ∧ Q i j H2
theorem rd_g2 (k : ta σ H fun x H1 => tb σ H1 fun y H2 => g2K QI x y H2) : tRg2 ta tb σ H QI := k
theorem rd_g2i {i j : Int} (k : QI i j H) : g2K QI (.int i) (.int j) H := ⟨i, j, rfl, rfl, k⟩
theorem row_rg {a b : Int} : Row qI K F (rgV a b) (rng a b) := by
  unfold rgV rng
  have : ∀ l : List Nat, Row qI K F (l.map fun i : Nat => V.int (a + (i : Nat))) (l.map fun i : Nat => a + (i : Nat)) := fun l => by
    induction l with
    | nil => exact .nil
    | cons x l ih => exact .cons rfl ih
  exact this _
theorem rd_lrgE {a b : Int} (h : rgFit a b = true) (k : nL qI K F Q H (rng a b)) : gK Q a b H := by
  unfold rgFit at h
  simp only [Bool.and_eq_true, decide_eq_true_eq] at h
  obtain ⟨⟨h1, h2⟩, h3, h4, h5⟩ := h
  exact ⟨⟨h1, h2, h3, h4, by omega⟩, fun q hq => k q _ hq row_rg⟩
end
/-! ## a def's promise, its end -/
theorem live1 {P : Addr → Prop} {H0 F H : Hp} {p : Addr} {o : HO} (w : Ow P H0 F H p o) : ∀ a, a = p → H a ≠ none := fun a z => by rw [z, w.at_]; exact fun h => nomatch h
end Gl
namespace Gl
open PySem PySem.Spec PyProof.Rows L2
theorem ifE_j {b : Bool} {u1 u2 : VK → Prop} {Q : VK} (J : V → Hp → Prop) (h1 : b = true → ∀ Q' : VK, (∀ c H', J c H' → Q' c H') → u1 Q') (h2 : b = false → ∀ Q' : VK, (∀ c H', J c H' → Q' c H') → u2 Q') (k : ∀ c H', J c H' → Q c H') : if b = true then u1 Q else u2 Q := by
  cases b with
  | true => exact h1 rfl Q k
  | false => exact h2 rfl Q k
end Gl
namespace Gl
open PySem PySem.Spec PyProof.Rows L2
/-! ## what is never reached -/
theorem if_ff {A B : Prop} (h : B) : if false = true then A else B := h
section
variable {X : Cx}
theorem ps_dead {st : Stmt} : PS X st (fun _ _ _ => False) := ⟨fun _ _ _ _ _ _ h => h.elim⟩
theorem pss_dead {ss : List Stmt} : PSs X ss (fun _ _ _ => False) := ⟨fun _ _ _ _ _ _ h => h.elim⟩
end
end Gl
namespace Gl
open PySem PySem.Spec PyProof.Rows L2
/-! ## a thing of any plain kind -/
inductive Th where
  | d (x : PyData) | dct
def qTh : R Th := ⟨fun K F v a => match a with
  | .d x => Dp K F v x
  | .dct => ∃ p, v = .ref p ∧ F p = some (.dK []), fun {K F F' v a} e h => by
    cases a with
    | d x => exact Dp.mono e h
    | dct =>
      obtain ⟨p, h1, h2⟩ := h
      exact ⟨p, h1, e _ _ h2⟩⟩
def thK : Th → String
  | .d .none => "NoneType"
  | .d (.bool _) => "bool"
  | .d (.int _) => "int"
  | .d (.str _) => "str"
  | .d (.list _) => "list"
  | .d (.tuple _) => "tuple"
  | .d (.dict _) => "dict"
  | .dct => "dict"
def isK (k n : String) : Bool := k == n || (k == "bool" && n == "int")
def thIs (n : String) (a : Th) : Bool := isK (thK a) n
def thS : Th → Option Str
  | .d (.str s) => some s
  | _ => none
def thI : Th → Option Int
  | .d (.int s) => some s
  | _ => none
section
variable {K : PySem.W.Frag} {P : Addr → Prop} {F0 H0 F H : Hp} {v : V} {a : Th} {Q : VK}
theorem thS_fact {s : Str} (r : qTh.r K F v a) (h : thS a = some s) : v = .str s := by
  cases a with
  | dct => cases h
  | d x =>
    cases x with
    | str z =>
      cases (show some z = some s from h)
      cases (show Dp K F v (.str _) from r)
      rfl
    | _ => cases h
theorem thI_fact {s : Int} (r : qTh.r K F v a) (h : thI a = some s) : v = .int s := by
  cases a with
  | dct => cases h
  | d x =>
    cases x with
    | int z =>
      cases (show some z = some s from h)
      cases (show Dp K F v (.int _) from r)
      rfl
    | _ => cases h
theorem tx_sql {p : Addr} {vs : List V} (h : SqL K H p vs) : TyX K H (.ref p) (.type "list") := by
  rcases h with (h | ⟨o, h⟩) | ⟨o, its, n, h1, h2, _⟩
  · exact .base (.lst h)
  · exact .base (.frz h)
  · exact .kList h1 h2
theorem tx_th (S : Sx P F0 H0 F H) (r : qTh.r K F v a) : TyX K H v (.type (thK a)) := by
  cases a with
  | dct =>
    obtain ⟨p, rfl, h⟩ := r
    exact .base (.dK (S.sub _ _ h))
  | d x =>
    cases x with
    | none => cases (show Dp K F v .none from r); exact tx_non
    | bool b => cases (show Dp K F v (.bool b) from r); exact tx_bl
    | int b => cases (show Dp K F v (.int b) from r); exact tx_int
    | str b => cases (show Dp K F v (.str b) from r); exact tx_str
    | list b =>
      cases (show Dp K F v (.list b) from r) with
      | lst h _ => exact tx_sql (Same.seq S.sub h)
    | tuple b =>
      cases (show Dp K F v (.tuple b) from r) with
      | tup h _ => exact tx_sqt (same_t S.sub h)
    | dict b => cases (show Dp K F v (.dict b) from r)
theorem rd_isiTh {n : String} (s : TyX K H v (.type (thK a))) (h : (["NoneType", "bool", "int", "str", "list", "tuple", "dict"].all fun k => decide (PySem.W.kitOne [] (.type k) (.type n) = some (isK k n))) = true) (k : Q (.bl (thIs n a)) H) (hk : ∀ t, PySem.W.kitOne K (.type t) (.type n) = PySem.W.kitOne [] (.type t) (.type n) := by intro t; rfl) : rIsi K [v, .ty n] H Q := by
  refine ⟨v, .ty n, _, .type n, thIs n a, rfl, .ty n, s, (hk _).trans ?_, k⟩
  have hm : thK a ∈ ["NoneType", "bool", "int", "str", "list", "tuple", "dict"] := by
    cases a with
    | dct => decide
    | d x => cases x <;> simp [thK]
  exact of_decide_eq_true (List.all_eq_true.mp h _ hm)
end
end Gl
namespace Gl
open PySem PySem.Spec PyProof.Rows L2
/-! ## instances -/
section
variable {K : PySem.W.Frag} {P : Addr → Prop} {F0 H0 F H : Hp} {v : V} {Q : VK} {σ : L2.St} {ta te to : TE} {C p dx : Addr} {m f : Str} {sp : Sp} {E : XK} {t : TA} {dvs : List V} {fs : List (Str × V)}
def fdK (K : PySem.W.Frag) (f : Str) (Q : VK) : VK := fun x H1 => ∃ a C dx fs v, x = .ref a ∧ H1 a = some (.ins C dx fs) ∧ Cls K C ∧ NoAttr K C f ∧ fs.lookup f = some v ∧ Q v H1
theorem rd_fld (k : ta σ H (fdK K f Q)) : tFld K ta f σ H Q := k
theorem fd_at {u : V} (h : H p = some (.ins C dx fs)) (c : Cls K C) (n : NoAttr K C f) (l : fs.lookup f = some u) (k : Q u H) : fdK K f Q (.ref p) H := ⟨p, C, dx, fs, u, rfl, h, c, n, l, k⟩
def fsK (K : PySem.W.Frag) (f : Str) (y : V) (R : Hp → Prop) : VK := fun x H2 => ∃ a C dx fs, x = .ref a ∧ H2 a = some (.ins C dx fs) ∧ Cls K C ∧ NoAttr K C f ∧ fs.length < 1000 ∧ R (upd H2 a (.ins C dx (putF f y fs)))
theorem rd_sfld {N B C : L2.St → Hp → Prop} {R : VK} (k : te σ H fun y H1 => to σ H1 (fsK K f y (N σ))) : sFld K to te f ⟨N, R, B, C⟩ σ H := k
theorem fset {y : V} {R : Hp → Prop} {fs' : List (Str × V)} (S : Sx P F0 H0 F H) (w : Ow P H0 F H p (.ins C dx fs)) (c : Cls K C) (n : NoAttr K C f) (l : Nat.ble fs.length 900 = true) (e : putF f y fs = fs') (k : ∀ H', Sx (fun a => a = p) F H F H' → Ow P H0 F H' p (.ins C dx fs') → R H') : fsK K f y R (.ref p) H :=
  ⟨p, C, dx, fs, rfl, w.at_, c, n, Nat.lt_of_le_of_lt (Nat.le_of_ble_eq_true l) (by decide), by rw [e]; exact k _ (putS S w) w.put⟩
def mtK (C : Addr) (m : Str) (G : V → Hp → Prop) : VK := fun x H1 => ∃ a dx fs, x = .ref a ∧ H1 a = some (.ins C dx fs) ∧ fs.lookup m = none ∧ G x H1
theorem rd_meth (k : ta σ H (mtK C m fun x H1 => t σ H1 fun vs H2 => sp (x :: (vs ++ dvs)) H2 Q E)) : tMeth C m sp dvs E ta t σ H Q := k
theorem mt_at {G : V → Hp → Prop} (h : H p = some (.ins C dx fs)) (l : fs.lookup m = none) (k : G (.ref p) H) : mtK C m G (.ref p) H := ⟨p, dx, fs, rfl, h, l, k⟩
/-- a new instance: what is wanted of it -/
def mkK (C : Addr) (sp : Sp) (E : XK) (Q : VK) : List V → Hp → Prop := fun vs H1 => ∀ x dx, H1 x = none → H1 dx = none → dx ≠ x → sp (.ref x :: vs) (upd (upd H1 dx (.own x)) x (.ins C dx [])) (fun v H2 => v = .non ∧ Q (.ref x) H2) E
theorem rd_makeR (k : t σ H (mkK C sp E Q)) : StX.tMakeR C sp E t σ H Q := k
theorem rd_make (k : t σ H (mkK C (fun vs => sp (vs ++ dvs)) E Q)) : tMake C sp dvs E t σ H Q := k
/-- what a def with a star parameter promises, by what its body does -/
def starSp (n : Nat) (sp : Sp) : Sp := fun vs H Q E => ∃ ws rest, vs = ws ++ rest ∧ ws.length = n ∧ rest.length ≤ sizeLine ∧ ∀ p, H p = none → sp (ws ++ [.ref p]) (upd H p (.tup rest)) Q E
theorem mk_star {α : Type} {A : R α} {vs : List V} {xs : List α} (S : Sx P F0 H0 F H) (r : Row A K F vs xs) (hl : Nat.ble vs.length 900 = true)
    (k : ∀ x dx v F1 H1, H x = none → Sx P0 F H F1 H1 → Ow (fun a => a = x) H1 F1 H1 x (.ins C dx []) → (qT A).r K F1 v xs → sp [.ref x, v] H1 (fun v H2 => v = .non ∧ Q (.ref x) H2) E) : mkK C (starSp 1 sp) E Q vs H := by
  intro x dx hx hdx ne
  refine ⟨[.ref x], vs, rfl, rfl, Nat.le_trans (Nat.le_of_ble_eq_true hl) (Nat.le_trans (by decide) (show 1000 ≤ sizeLine by rw [sizeLine_eq]; decide)), fun p hp => ?_⟩
  have hdx2 : upd H dx (.own x) x = none := by rw [upd_ne (Ne.symm ne)]; exact hx
  have c1 : Sx P0 F H F (upd (upd H dx (.own x)) x (.ins C dx [])) := ((Sx.refl0 S.sub).temp hdx).temp hdx2
  have hxp : x ≠ p := fun e => by subst e; rw [upd_same] at hp; cases hp
  have c2 := c1.alloc (o := .tup vs) hp
  refine k x dx (.ref p) _ _ hx c2 ⟨?_, ?_, .inr rfl⟩ ⟨p, vs, rfl, .inl (.inl upd_same), Row.mono c2.le r⟩
  · rw [upd_ne hxp]
    exact S.free hx
  · rw [upd_ne hxp, upd_same]
/-- a new instance without a star parameter -/
theorem mk_plain {vs : List V} (S : Sx P F0 H0 F H)
    (k : ∀ x dx H1, H x = none → Sx P0 F H F H1 → Ow (fun a => a = x) H1 F H1 x (.ins C dx []) → sp (.ref x :: vs) H1 (fun v H2 => v = .non ∧ Q (.ref x) H2) E) : mkK C sp E Q vs H := by
  intro x dx hx hdx ne
  have hdx2 : upd H dx (.own x) x = none := by rw [upd_ne (Ne.symm ne)]; exact hx
  exact k x dx _ hx (((Sx.refl0 S.sub).temp hdx).temp hdx2) ⟨S.free hx, upd_same, .inr rfl⟩
/-- what __init__ has made is let stand for good -/
theorem fzI {x : Addr} {F1 H1 F' H' : Hp} {o : HO} (c1 : Sx P0 F H F1 H1) (hx : H x = none) (c : Sx (fun a => a = x) F1 H1 F' H') (w : Ow (fun a => a = x) H1 F' H' x o) : ∃ F'', Sx P0 F H F'' H' ∧ Same F' F'' ∧ F'' x = some o := by
  have S2 : Sx P0 F H F' H' := c1.call c fun a e => by subst e; exact .inr hx
  have w2 : Ow P0 H F' H' x o := ⟨w.fr, w.at_, .inl hx⟩
  exact ⟨_, S2.freeze w2 hx, w2.leF, upd_same⟩
end
/-! ## join, xs[i] = v -/
section
variable {K : PySem.W.Frag} {P : Addr → Prop} {F0 H0 F H : Hp} {v : V} {Q : VK} {α : Type} {A : R α} {xs : List α} {p : Addr} {vs : List V} {i : Int}
def joinOk (a : Str) (ys : List Str) : Bool := decide ((ys.map (·.length)).sum + ys.length * a.length ≤ 16777216)
end
section
variable {K : PySem.W.Frag} {P : Addr → Prop} {F0 H0 F H : Hp} {v : V} {Q : VK} {α : Type} {A : R α} {xs : List α} {lo hi : Option Int}
theorem rd_slA (S : Sx P F0 H0 F H) (r : (qT A).r K F v xs) (k : ∀ v' F' H', Sx P0 F H F' H' → (qT A).r K F' v' (cut xs lo hi) → Q v' H') : rSlA K v lo hi H Q := by
  obtain ⟨p, vs, rfl, h1, h2⟩ := id r
  refine ⟨p, vs, rfl, same_t S.sub h1, fun hw => ?_, fun _ q hq => alT' S k q _ hq (row_cut h2 lo hi)⟩
  refine k _ F H (Sx.refl0 S.sub) ?_
  have e : cut xs lo hi = xs := by
    unfold cut
    rw [← pLen h2, hw.1, hw.2, List.drop_zero, Nat.sub_zero, List.take_of_length_le (by rw [pLen h2]; exact Nat.le_refl _)]
  rw [e]
  exact r
end
section
variable {X : Cx} {K : PySem.W.Frag} {e l tg : Expr} {te : TE} {f : Str} {pos : Pos}
theorem pi_tupK (hl : PE X l te) (hK : X.K = K := by rfl) : PI X tg l (iTup K te) := by subst hK; exact pi_tup hl
theorem pi_listK (hl : PE X l te) (hK : X.K = K := by rfl) : PI X tg l (iList K te) := by subst hK; exact pi_list hl
theorem pg_tupK {es : List Expr} {k n : Nat} {t : TGs} (hc : X.calm = true) (h : PGs X es t) (hK : X.K = K := by rfl)
    (hn : (assignEach es X.env).length = n := by rfl) (hst : (assignEach es X.env).findIdx? (·.1) = none := by rfl) : PG X (.Tuple es k pos) (gTup K n t) := by subst hK; exact pg_tup hc h hn hst
theorem pe_fldK (he : PE X e te) (hb : attributeBase e f X.env (eval e X.env) = eval e X.env) (hK : X.K = K := by rfl) : PE X (.Attribute e f pos) (tFld K te f) := by subst hK; exact pe_fld he hb
end
end Gl
namespace Gl
open PySem PySem.Spec PyProof.Rows L2
end Gl
namespace Gl
open PySem PySem.Spec PyProof.Rows L2
/-! ## x in o, o of a class of the program's own -/
section
variable {M : Model} {A : Around} {E : Value → Shared → Prop} {s : Shared} {K : PySem.W.Frag} {x C f : Addr} {ox : Obj} {od : Option Obj} {u : Value}
theorem contains_own {Q : Bool → Shared → Prop} (X' : K.In s.heap) (I : PySem.W.InstAt s.heap x ox C od) (hs : PySem.W.findIn K (.ref C) "__contains__" = some (some (.ref f))) (hf : PySem.W.isFn K (.ref f) = true)
    (h : wpAny M A (call (.ref f) [.ref x, u]) (fun v s' => ∃ b, v = .bool b ∧ Q b s') E s) : wpAny M A (contains (.ref x) u) Q E s := by
  unfold contains
  refine wpAny_holding ?_
  have e0 : stdlibNamesSay? (.ref x) u = none := rfl
  rw [e0]
  refine wpAny_bind (wpAny_bind (I.type.here ((PySem.W.looks_findIn X' hs).here ?_)))
  have e1 : (some (Value.ref f) == some Value.none) = false := rfl
  rw [if_neg (by rw [e1]; decide)]
  refine wpAny_bind ?_
  unfold callSpecialUnlessNone?
  refine wpAny_bind (wpAny_bind (I.type.here ((PySem.W.looks_findIn X' hs).here ?_)))
  refine wpAny_holding (wpAny_bind ((PySem.W.bind_fn X' _ (beq_iff_eq.mp hf)).here ?_))
  refine wpAny_bind (wpAny_mono h (fun v s' ⟨b, e, q⟩ => ?_) fun _ _ z => z)
  subst e
  refine wpAny_pure ?_
  show wpAny M A (truthy (.bool b)) Q E s'
  unfold truthy
  exact wpAny_pure q
end
/-- what is wanted of a truth that a method of one's own gives -/
def rInO (C : Addr) (sp : Sp) (E : XK) : R2 := fun x y H Q => ∃ a dx fs, y = .ref a ∧ H a = some (.ins C dx fs) ∧ sp [.ref a, x] H (fun v H2 => ∃ b, v = .bl b ∧ Q (.bl b) H2) E
section
variable {X : Cx} {CX : CXT} {k : Nat} {C f : Addr} {fd : FuncData} {ps : List Str} {sp : Sp} {E : XK}
theorem in_own {pins : List (Addr × Obj)} {σ : L2.St} {H : Hp} {s : Shared} {a dx : Addr} {fs : List (Str × V)} {x : V} {u : Value} {Q : VK} {R : Bool → Shared → Prop} (hm : Meth X.K C "__contains__" f) (F : FnOk X.prog X.w X.K X.mg X.base CX k f fd ps sp) (hr : Room k X.A) (hb : Binds X.K fd ps []) (hx : Passes CX X E) (I : Inv X pins σ H s) (e : H a = some (.ins C dx fs)) (rx : RelV x u)
    (h : sp [.ref a, x] H Q E) (q : ∀ v s', EP X pins σ Q v s' → ∃ b, v = .bool b ∧ R b s') : wpAny (model X.prog X.w) X.A (contains (.ref a) u) R X.xe s := by
  obtain ⟨ox, od, J, _⟩ := StX.insC_at I (.inr ⟨dx, fs, e⟩)
  refine contains_own I.kIn J hm.at_ hm.fn ?_
  have r := run_fn (X := X) (us := [.ref a, u]) (vs := [.ref a, x]) (dvs := []) (ds := []) F hr hb .nil hx I (.cons rfl (.cons rx .nil)) (Q := Q) h
  exact wpAny_mono r q fun _ _ z => z
end
def inK (Q : VK) : VK := fun v H2 => ∃ b, v = .bl b ∧ Q (.bl b) H2
theorem in_at {C p dx : Addr} {fs : List (Str × V)} {sp : Sp} {E : XK} {x : V} {H : Hp} {Q : VK} (h : H p = some (.ins C dx fs)) (k : sp [.ref p, x] H (inK Q) E) : rInO C sp E x (.ref p) H Q := ⟨p, dx, fs, rfl, h, k⟩
end Gl
namespace Gl
open PySem PySem.Spec PyProof.Rows L2
/-! ## dicts whose keys are tuples of any depth, their values True -/
mutual
inductive NKv (K : PySem.W.Frag) (H : Hp) : NestedKey → V → Prop
  | non : NKv K H .none .non
  | bl (b : Bool) : NKv K H (.num (if b = true then 1 else 0)) (.bl b)
  | int (i : Int) : NKv K H (.num i) (.int i)
  | txt (x : Str) : NKv K H (.text x) (.str x)
  | tup {p : Addr} {vs : List V} {ks : List NestedKey} : SqT K H p vs → NKs K H ks vs → NKv K H (.tup ks) (.ref p)
inductive NKs (K : PySem.W.Frag) (H : Hp) : List NestedKey → List V → Prop
  | nil : NKs K H [] []
  | cons {k : NestedKey} {v : V} {ks : List NestedKey} {vs : List V} : NKv K H k v → NKs K H ks vs → NKs K H (k :: ks) (v :: vs)
end
mutual
theorem NKv.mono {K : PySem.W.Frag} {F F' : Hp} (e : Same F F') : ∀ {k : NestedKey} {v : V}, NKv K F k v → NKv K F' k v
  | _, _, .non => .non
  | _, _, .bl b => .bl b
  | _, _, .int i => .int i
  | _, _, .txt x => .txt x
  | _, _, .tup h a => .tup (same_t e h) (NKs.mono e a)
theorem NKs.mono {K : PySem.W.Frag} {F F' : Hp} (e : Same F F') : ∀ {ks : List NestedKey} {vs : List V}, NKs K F ks vs → NKs K F' ks vs
  | _, _, .nil => .nil
  | _, _, .cons h a => .cons (NKv.mono e h) (NKs.mono e a)
end
section
variable {X : Cx} {pins : List (Addr × Obj)} {σ : L2.St} {H : Hp} {s : Shared}
mutual
theorem NKv.is (I : Inv X pins σ H s) : ∀ {k : NestedKey} {v : V} {u : Value}, NKv X.K H k v → RelV v u → NestedIs s.heap k u
  | _, _, u, .non, r => by
    cases r
    exact .none
  | _, _, u, .bl b, r => by
    cases r
    exact .bool rfl
  | _, _, u, .int i, r => by
    obtain ⟨t, rfl⟩ := r
    exact .int i t
  | _, _, u, .txt x, r => by
    obtain ⟨t, rfl⟩ := r
    exact .text x t
  | _, _, u, .tup h a, r => by
    cases (show u = Value.ref _ from r)
    obtain ⟨its, rv, ⟨o, e1, e2, n, e3⟩, _⟩ := I.tuple h
    exact .tup e1 e2 e3 (by simpa using NKs.is I a rv)
theorem NKs.is (I : Inv X pins σ H s) : ∀ {ks : List NestedKey} {vs : List V} {us : List Value}, NKs X.K H ks vs → Vals vs us → NestedAll s.heap ks us
  | _, _, _, .nil, .nil => .nil
  | _, _, _, .cons h a, .cons r rs => .cons (NKv.is I h r) (NKs.is I a rs)
end
end
/-- what stands for a key -/
structure Kd {α : Type} (A : R α) where
  k : α → NestedKey
  is : ∀ {K : PySem.W.Frag} {F : Hp} {v : V} {a : α}, A.r K F v a → NKv K F (k a) v
  inj : ∀ a b : α, k a = k b → a = b
  dep : ∀ a : α, (k a).depth ≤ 8
end Gl
namespace Gl
open PySem PySem.W PySem.Calls PyProof.Rows
/-! ## a & b, a | b of instances whose classes find the method in the program -/
section
variable {prog : Program} {w : World} {A : Around} {E : Value → Shared → Prop} {s : Shared} {K : Frag} {x y C D f g : Addr} {ox oy : Obj} {od oe : Option Obj}
theorem bin_own {op : Operator} {Q : Value → Shared → Prop} (X : K.In s.heap) (I : InstAt s.heap x ox C od) (J : InstAt s.heap y oy D oe) (hc : selfFirst K C = true) (hd : selfFirst K D = true)
    (hs : findIn K (.ref C) (PySem.dunder op.info.2) = some (some (.ref f))) (hf : isFn K (.ref f) = true) (hr : findIn K (.ref C) (dunderR op.info.2) = some none)
    (hs2 : findIn K (.ref D) (PySem.dunder op.info.2) = some (some (.ref g))) (hr2 : findIn K (.ref D) (dunderR op.info.2) = some none) (hsub : C = D ∨ subIn K (.ref D) (.ref C) = some false)
    (h : wpAny (model prog w) A (call (.ref f) [.ref x, .ref y]) (PySem.W.CmpBack Q) E s) : wpAny (model prog w) A (binaryOp op (.ref x) (.ref y)) Q E s := by
  obtain ⟨cd, rest, hcd, hm⟩ := ksp_first hc
  obtain ⟨cd2, rest2, hcd2, hm2⟩ := ksp_first hd
  rcases hi : op.info with ⟨sym, nm'⟩
  rw [hi] at hs hr hs2 hr2
  dsimp only at hs hr hs2 hr2
  have one := ksp_try X I hs hf h
  obtain ⟨hh, g', d, tt, os⟩ := s
  have L1 : Looks (model prog w) hh (typeOf (.ref x)) (.ref C) := I.type
  have L2 : Looks (model prog w) hh (typeOf (.ref y)) (.ref D) := J.type
  have L3 : Looks (model prog w) hh (fillsNumberSlot (.ref C) nm') true := fills_K X hcd hm hs
  have L4 : Looks (model prog w) hh (fillsNumberSlot (.ref D) nm') true := fills_K X hcd2 hm2 hs2
  have L6 : Looks (model prog w) hh (numberSlotInPython (.ref C) nm') true := ksp_inPy X hs hr (.inl rfl)
  have L7 : Looks (model prog w) hh (numberSlotInPython (.ref D) nm') true := ksp_inPy X hs2 hr2 (.inl rfl)
  simp only [binaryOp, hi]
  refine wpAny_holding (wpAny_bind ?_)
  unfold binaryOp1
  refine wpAny_bind (L1.at (wpAny_bind (L2.at (wpAny_bind (L3.at ?_)))))
  by_cases hCD : C = D
  · subst hCD
    have he : (Value.ref C == Value.ref C) = true := beq_self_eq_true _
    simp only [he, if_true]
    ksp_lk
    refine wpAny_mono one (fun r s' hr' => ?_) fun _ _ e => e
    obtain ⟨v, rfl, hq⟩ := hr'
    ksp_lk
    exact hq
  · have hsub := hsub.resolve_left hCD
    have hne : (Value.ref C == Value.ref D) = false := Bool.eq_false_iff.mpr fun q => hCD (by cases beq_iff_eq.mp q; rfl)
    have L5 : Looks (model prog w) hh (isSubtype (.ref D) (.ref C)) false := looks_subIn X hsub
    simp only [hne, Bool.false_eq_true, if_false]
    ksp_lk
    refine wpAny_mono one (fun r s' hr' => ?_) fun _ _ e => e
    obtain ⟨v, rfl, hq⟩ := hr'
    ksp_lk
    exact hq
end
end Gl
namespace Gl
open PySem PySem.Spec PyProof.Rows L2
/-- what a class must have for its operator of the program's own -/
structure OwnOp (K : PySem.W.Frag) (C : Addr) (nm : String) (f : Addr) : Prop where
  first : PySem.W.selfFirst K C = true
  at_ : PySem.W.findIn K (.ref C) (PySem.dunder nm) = some (some (.ref f))
  fn : PySem.W.isFn K (.ref f) = true
  rev : PySem.W.findIn K (.ref C) (dunderR nm) = some none
def rBinO (K : PySem.W.Frag) (nm : String) (f : Addr) (sp : Sp) (E : XK) : R2 := fun x y H Q => ∃ a b C D dx dy fs gs g, x = .ref a ∧ y = .ref b ∧ H a = some (.ins C dx fs) ∧ H b = some (.ins D dy gs) ∧ OwnOp K C nm f ∧ OwnOp K D nm g ∧ (C = D ∨ PySem.W.subIn K (.ref D) (.ref C) = some false) ∧ sp [x, y] H Q E
section
variable {X : Cx} {CX : CXT} {k : Nat} {f : Addr} {fd : FuncData} {ps : List Str} {sp : Sp} {E : XK}
theorem op_binO {op : Operator} (F : FnOk X.prog X.w X.K X.mg X.base CX k f fd ps sp) (hr : Room k X.A) (hb : Binds X.K fd ps []) (hx : Passes CX X E) : OpR X (binaryOp op) (rBinO X.K op.info.2 f sp E) := by
  intro pins s σ H x y v u Q I rx ry h
  obtain ⟨a, b, C, D, dx, dy, fs, gs, g, rfl, rfl, e1, e2, o1, o2, hs, h⟩ := h
  cases rx; cases ry
  obtain ⟨ox, od, J, _⟩ := StX.insC_at I (.inr ⟨dx, fs, e1⟩)
  obtain ⟨oy, oe, J2, _⟩ := StX.insC_at I (.inr ⟨dy, gs, e2⟩)
  refine bin_own I.kIn J J2 o1.first o2.first o1.at_ o1.fn o1.rev o2.at_ o2.rev hs ?_
  have r := run_fn (X := X) (us := [.ref a, .ref b]) (vs := [.ref a, .ref b]) (dvs := []) (ds := []) F hr hb .nil hx I (.cons rfl (.cons rfl .nil)) (Q := Q) h
  refine wpAny_mono r (fun z s' hz => ?_) fun _ _ z => z
  obtain ⟨w', H', I', rw', q⟩ := id hz
  cases z with
  | notImplemented => cases w' <;> first | (obtain ⟨t, ht⟩ := rw'; cases ht; done) | (cases rw'; done) | exact absurd rw' (fun z => nomatch z)
  | _ => exact hz
end
end Gl
namespace Gl
open PySem PySem.W PySem.Calls PyProof.Rows
end Gl
namespace Gl
open PySem PySem.Spec PyProof.Rows L2
end Gl
namespace PySem
namespace OwnE
open PySem.W PySem.Calls PyProof.Rows PySem.HandSPX
end OwnE
end PySem
namespace Gl
open PySem PySem.Spec PyProof.Rows L2

end Gl
namespace Gl
open PySem PySem.Spec PyProof.Rows L2

open He (ga ma)
end Gl
namespace Gl
open PySem PySem.Spec PyProof.Rows L2
/-! ## options as data -/
/-- a datum that is not None -/
class NotNone {α : Type} {A : R α} (D : Dat A) : Prop where
  l : ∀ a, PyData.eqv (D.d a) .none = false
  r : ∀ a, PyData.eqv .none (D.d a) = false
instance : NotNone dI := ⟨fun _ => rfl, fun _ => rfl⟩
instance : NotNone dB := ⟨fun _ => rfl, fun _ => rfl⟩
instance : NotNone dS := ⟨fun _ => rfl, fun _ => rfl⟩
instance {α : Type} {A : R α} {D : Dat A} : NotNone (dL D) := ⟨fun _ => rfl, fun _ => rfl⟩
instance {α : Type} {A : R α} {D : Dat A} : NotNone (dT D) := ⟨fun _ => rfl, fun _ => rfl⟩
instance {α β : Type} {A : R α} {B : R β} {D : Dat A} {E : Dat B} : NotNone (d2 D E) := ⟨fun _ => rfl, fun _ => rfl⟩
def dO {α : Type} {A : R α} (D : Dat A) [N : NotNone D] : Dat (qO A) := ⟨fun
    | none => .none
    | some a => D.d a, fun {K F v a} h => by
    cases a with
    | none => cases (show v = .non from h); exact .non
    | some a => exact D.dp h, fun a b => by
    cases a with
    | none => cases b with
      | none => simp [PyData.eqv]
      | some b =>
        show PyData.eqv .none (D.d b) = true ↔ _
        rw [N.r b]; simp
    | some a => cases b with
      | none =>
        show PyData.eqv (D.d a) .none = true ↔ _
        rw [N.l a]; simp
      | some b =>
        show PyData.eqv (D.d a) (D.d b) = true ↔ _
        rw [D.eq]; simp⟩

/-! ## o.m(..), whatever class o is of: the answer names it -/
def MOk (X : Cx) (m : Str) (C : Addr) (sp : Sp) (E : XK) : Prop := ∃ (f : Addr) (k : Nat) (fd : FuncData) (ps : List Str) (CX : CXT), Cls X.K C ∧ Meth X.K C m f ∧ FnOk X.prog X.w X.K X.mg X.base CX k f fd ps sp ∧ Room k X.A ∧ Binds X.K fd ps [] ∧ Passes CX X E
def mvK (X : Cx) (m : Str) (E : XK) (t : (List V → Hp → Prop) → Hp → Prop) (Q : VK) : VK := fun x H1 => ∃ a dx fs C sp, x = .ref a ∧ H1 a = some (.ins C dx fs) ∧ fs.lookup m = none ∧ MOk X m C sp E ∧ t (fun vs H2 => sp (x :: vs) H2 Q E) H1
def tMethV (X : Cx) (m : Str) (E : XK) (ta : TE) (t : TA) : TE := fun σ H Q => ta σ H (mvK X m E (fun q H1 => t σ H1 q) Q)
section
variable {X : Cx} {o e : Expr} {es : List Expr} {m : Str} {ta : TE} {t : TA} {E : XK} {apos pos : Pos}
theorem pe_methV {pl : Sem Bool} (he : PE X o ta) (ha : PA X (e :: es) t)
    (hst : starEach (e :: es) X.env = (false, eval e X.env) :: starEach es X.env := by rfl) (hpl : (backTo pos (starEach es X.env)).any (·.1) = false := by rfl)
    (ht : eval (.Call (.Attribute o m apos) (e :: es) [] pos) X.env = (do
      let ov ← eval o X.env
      standAt apos.atName
      let (f, first) ← holding [ov] (getMethod ov m pl)
      callWith pos f first (backTo pos (starEach (e :: es) X.env)) (backToKw pos (keywordEach [] X.env))) := by rfl) :
    PE X (.Call (.Attribute o m apos) (e :: es) [] pos) (tMethV X m E ta t) := by
  refine ⟨fun pins s σ H Q I h => ?_⟩
  refine PySem.W.methodCall_KW (pl := pl) (thn (he.run pins s σ H _ I h) fun u s1 ⟨x, H1, I1, rx, a, dx, fs, C, sp, ex, ea, l, ⟨f, k, fd, ps, CX, c, hm, F, hr, hb, hx⟩, q⟩ => ?_) ht
  subst ex
  obtain rfl : u = Value.ref a := rx
  refine getmeth_ok I1 ea c hm l ?_
  refine PySem.W.callWith_K (first := [.ref a]) (h₀ := X.base) I.ok.mod.kin hm.kp (thn (ha.run pos pins s1 σ H1 _ I1 q) fun us s2 ⟨vs, H2, I2, r, q2⟩ => ⟨I2.kIn, ?_⟩) hst hpl
  exact run_fn (us := .ref a :: us) (vs := .ref a :: vs) (dvs := []) (ds := []) F hr hb .nil hx I2 (.cons rfl r) (by rw [List.append_nil]; exact q2)
theorem pe_methV0 {pl : Sem Bool} (he : PE X o ta)
    (ht : eval (.Call (.Attribute o m apos) [] [] pos) X.env = (do
      let ov ← eval o X.env
      standAt apos.atName
      let (f, first) ← holding [ov] (getMethod ov m pl)
      callWith pos f first (backTo pos (starEach [] X.env)) (backToKw pos (keywordEach [] X.env))) := by rfl) :
    PE X (.Call (.Attribute o m apos) [] [] pos) (tMethV X m E ta tNil) := by
  refine ⟨fun pins s σ H Q I h => ?_⟩
  refine PySem.W.methodCall_KW (pl := pl) (thn (he.run pins s σ H _ I h) fun u s1 ⟨x, H1, I1, rx, a, dx, fs, C, sp, ex, ea, l, ⟨f, k, fd, ps, CX, c, hm, F, hr, hb, hx⟩, q⟩ => ?_) ht
  subst ex
  obtain rfl : u = Value.ref a := rx
  refine getmeth_ok I1 ea c hm l ?_
  exact PySem.W.callWith_K0 (first := [.ref a]) I1.kIn hm.kp (run_fn (us := [.ref a]) (vs := [.ref a]) (dvs := []) (ds := []) F hr hb .nil hx I1 (.cons rfl .nil) q)
theorem rd_methV {σ : L2.St} {H : Hp} {Q : VK} (k : ta σ H (mvK X m E (fun q H1 => t σ H1 q) Q)) : tMethV X m E ta t σ H Q := k
end
/-! ## patterns -/
inductive Pat where
  | form (ps : List Str) | both (l r : Pat) | either (l r : Pat)
  deriving DecidableEq
def Pat.forms : Pat → List (List Str)
  | .form ps => [ps]
  | .both l r => l.forms ++ r.forms
  | .either l r => l.forms ++ r.forms
def Pat.ht : Pat → Nat
  | .form _ => 0
  | .both l r => max l.ht r.ht + 1
  | .either l r => max l.ht r.ht + 1
/-- what a class must show for & | of its own -/
def ownOpB (K : PySem.W.Frag) (x : Str) (nm : String) (f : Addr) : Bool := PySem.W.selfFirst K (He.ga K x) && (He.eqO (PySem.W.findIn K (.ref (He.ga K x)) (PySem.dunder nm)) (some (some (.ref f))) && (PySem.W.isFn K (.ref f) && He.eqO (PySem.W.findIn K (.ref (He.ga K x)) (dunderR nm)) (some none)))
theorem ownOpB_ok {K : PySem.W.Frag} {x : Str} {nm : String} {f : Addr} (h : ownOpB K x nm f = true) : OwnOp K (He.ga K x) nm f := by
  unfold ownOpB at h
  obtain ⟨h1, h⟩ := He.ba h
  obtain ⟨h2, h⟩ := He.ba h
  obtain ⟨h3, h4⟩ := He.ba h
  exact ⟨h1, He.eqO_ok h2, h3, He.eqO_ok h4⟩
/-- classes x and y: the same, or y is not below x -/
def apartB (K : PySem.W.Frag) (x y : Str) : Bool := decide (He.ga K x = He.ga K y) || decide (PySem.W.subIn K (.ref (He.ga K y)) (.ref (He.ga K x)) = some false)
theorem apartB_ok {K : PySem.W.Frag} {x y : Str} (h : apartB K x y = true) : He.ga K x = He.ga K y ∨ PySem.W.subIn K (.ref (He.ga K y)) (.ref (He.ga K x)) = some false := by
  unfold apartB at h
  rcases Bool.or_eq_true_iff.mp h with h | h
  · exact .inl (of_decide_eq_true h)
  · exact .inr (of_decide_eq_true h)
def isaB (K : PySem.W.Frag) (x y : Str) (b : Bool) : Bool := decide (PySem.W.kitOne K (.ref (He.ga K x)) (.ref (He.ga K y)) = some b)
theorem isaB_ok {K : PySem.W.Frag} {x y : Str} {b : Bool} (h : isaB K x y b = true) : PySem.W.kitOne K (.ref (He.ga K x)) (.ref (He.ga K y)) = some b := of_decide_eq_true h

def qForm : R (List Str) := ⟨fun K F v a => ∃ (p dx : Addr) (u0 : V), v = .ref p ∧ F p = some (.ins (He.ga K "Form") dx [("pieces", u0)]) ∧ (qT qS).r K F u0 a, fun e ⟨p, dx, u0, h1, h2, k0⟩ => ⟨p, dx, u0, h1, e _ _ h2, (qT qS).mono e k0⟩⟩
def qPatR (K : PySem.W.Frag) (F : Hp) : V → Pat → Prop
  | v, .form ps => qForm.r K F v ps
  | v, .both l r => ∃ (p dx : Addr) (u w : V), v = .ref p ∧ F p = some (.ins (He.ga K "Both") dx [("left", u), ("right", w)]) ∧ qPatR K F u l ∧ qPatR K F w r
  | v, .either l r => ∃ (p dx : Addr) (u w : V), v = .ref p ∧ F p = some (.ins (He.ga K "Either") dx [("left", u), ("right", w)]) ∧ qPatR K F u l ∧ qPatR K F w r
theorem qPatR_mono {K : PySem.W.Frag} {F F' : Hp} (e : Same F F') : ∀ {v : V} {a : Pat}, qPatR K F v a → qPatR K F' v a
  | _, .form _, h => qForm.mono e h
  | _, .both _ _, ⟨p, dx, u, w, h1, h2, h3, h4⟩ => ⟨p, dx, u, w, h1, e _ _ h2, qPatR_mono e h3, qPatR_mono e h4⟩
  | _, .either _ _, ⟨p, dx, u, w, h1, h2, h3, h4⟩ => ⟨p, dx, u, w, h1, e _ _ h2, qPatR_mono e h3, qPatR_mono e h4⟩
def qPat : R Pat := ⟨fun K F v a => qPatR K F v a, fun e h => qPatR_mono e h⟩
def Pat.cls : Pat → Str
  | .form _ => "Form"
  | .both _ _ => "Both"
  | .either _ _ => "Either"
def Pat.holds : Pat → List Bool → Option Bool
  | .form _, t => atI t 0
  | .both l r, t => (l.holds (cut t none (some (l.forms.length : Int)))).bind fun b => if b = true then r.holds (cut t (some (l.forms.length : Int)) none) else some false
  | .either l r, t => (l.holds (cut t none (some (l.forms.length : Int)))).bind fun b => if b = true then some true else r.holds (cut t (some (l.forms.length : Int)) none)
def patN {α : Type} (n : Nat) (a : Pat) (x : Option α) : Option α := gd (decide (a.ht ≤ n)) <| gd (decide (a.forms.length ≤ 16)) x
def m_pat_forms (a : Pat) : Option (List (List Str)) := patN 3 a (some a.forms)
def m_pat_holds (a : Pat) (t : List Bool) : Option Bool := patN 3 a (a.holds t)
theorem patN_some {α : Type} {n : Nat} {a : Pat} {x : Option α} {r : α} (h : patN n a x = some r) : a.ht ≤ n ∧ a.forms.length ≤ 16 ∧ x = some r := by
  obtain ⟨h1, h⟩ := gd_some h
  obtain ⟨h2, h⟩ := gd_some h
  exact ⟨of_decide_eq_true h1, of_decide_eq_true h2, h⟩
theorem patN_of {α : Type} {n : Nat} {a : Pat} {x : Option α} (h1 : a.ht ≤ n) (h2 : a.forms.length ≤ 16) : patN n a x = x := by
  unfold patN
  rw [gd_true (decide_eq_true h1), gd_true (decide_eq_true h2)]
def isPatC (x : Str) : Prop := x = "Form" ∨ x = "Both" ∨ x = "Either"
theorem Pat.isC (a : Pat) : isPatC a.cls := by
  cases a with
  | form => exact .inl rfl
  | both => exact .inr (.inl rfl)
  | either => exact .inr (.inr rfl)
/-- a method of all three classes: what each keeps -/
structure VM (P : Program) (w : World) (K : PySem.W.Frag) (mg : Str → Option Value) (base : Heap) (k : Nat) (m : Str) (ps : List Str) (sp : Str → Sp) : Prop where
  go : ∀ x, isPatC x → Cls K (He.ga K x) ∧ Meth K (He.ga K x) m (He.fAd K (x, some m)) ∧ FnOk P w K mg base CX0 k (He.fAd K (x, some m)) (fdOf K (x, some m)) ps (sp x) ∧ Binds K (fdOf K (x, some m)) ps []
theorem qPat_ins {K : PySem.W.Frag} {F H : Hp} {v : V} {a : Pat} (r : qPat.r K F v a) (s : Same F H) : ∃ p dx fs, v = .ref p ∧ H p = some (.ins (He.ga K a.cls) dx fs) ∧ ∀ m : Str, m ≠ "pieces" → m ≠ "left" → m ≠ "right" → fs.lookup m = none := by
  cases a with
  | form ps =>
    obtain ⟨p, dx, u0, h1, h2, _⟩ := (show qForm.r K F v ps from r)
    exact ⟨p, dx, _, h1, s _ _ h2, fun m n1 n2 n3 => by simp [List.lookup, beq_eq_false_iff_ne.mpr n1]⟩
  | both l r' =>
    obtain ⟨p, dx, u, w, h1, h2, _⟩ := (show qPatR K F v (.both l r') from r)
    exact ⟨p, dx, _, h1, s _ _ h2, fun m n1 n2 n3 => by simp [List.lookup, beq_eq_false_iff_ne.mpr n2, beq_eq_false_iff_ne.mpr n3]⟩
  | either l r' =>
    obtain ⟨p, dx, u, w, h1, h2, _⟩ := (show qPatR K F v (.either l r') from r)
    exact ⟨p, dx, _, h1, s _ _ h2, fun m n1 n2 n3 => by simp [List.lookup, beq_eq_false_iff_ne.mpr n2, beq_eq_false_iff_ne.mpr n3]⟩
section
variable {X : Cx} {k : Nat} {m : Str} {ps : List Str} {sp : Str → Sp} {F H F0 H0 : Hp} {P' : Addr → Prop} {v : V} {a : Pat} {Q : VK} {t : (List V → Hp → Prop) → Hp → Prop} {E : XK}
theorem VM.call (V : VM X.prog X.w X.K X.mg X.base k m ps sp) (hr : Room k X.A) (S : Sx P' F0 H0 F H) (r : qPat.r X.K F v a) (kt : t (fun vs H2 => sp a.cls (v :: vs) H2 Q E) H)
    (n1 : m ≠ "pieces" := by decide) (n2 : m ≠ "left" := by decide) (n3 : m ≠ "right" := by decide) : mvK X m E t Q v H := by
  obtain ⟨p, dx, fs, rfl, h2, h3⟩ := qPat_ins r S.sub
  obtain ⟨c, me, F, b⟩ := V.go a.cls a.isC
  exact ⟨p, dx, fs, _, sp a.cls, rfl, h2, h3 m n1 n2 n3, ⟨_, k, _, ps, CX0, c, me, F, hr, b, pass0⟩, kt⟩
end
def sp_pat_forms (n : Nat) (x : Str) (K : PySem.W.Frag) : Sp := fun vs H Q _ => ∃ (F : Hp) (v_self : V) (a_self : Pat) (r : List (List Str)), vs = [v_self] ∧ Same F H ∧ qPat.r K F v_self a_self ∧ a_self.cls = x ∧ patN n a_self (some a_self.forms) = some r ∧ ∀ v F' H', Sx P0 F H F' H' → (qL qForm).r K F' v r → Q v H'
def sp_pat_holds (n : Nat) (x : Str) (K : PySem.W.Frag) : Sp := fun vs H Q _ => ∃ (F : Hp) (v_self : V) (a_self : Pat) (v_truths : V) (a_truths : List Bool) (r : Bool), vs = [v_self, v_truths] ∧ Same F H ∧ qPat.r K F v_self a_self ∧ a_self.cls = x ∧ (qL qB).r K F v_truths a_truths ∧ patN n a_self (a_self.holds a_truths) = some r ∧ ∀ v F' H', Sx P0 F H F' H' → qB.r K F' v r → Q v H'

structure InsF (K : PySem.W.Frag) (C : Addr) : Prop where
  ha : PySem.W.findIn K (.ref C) "__class__" = some (some (.builtin "object.__class__"))
  hn : PySem.W.specialIn K (.builtin "object.__class__") "__get__" = some (some (.builtin "getset_descriptor.__get__"))
  htk : PySem.W.takesIn K (.builtin "object.__class__") = some true
  hm : PySem.W.mroIn K C (.type "object") = some true
def insB (K : PySem.W.Frag) (C : Addr) : Bool := He.eqO (PySem.W.findIn K (.ref C) "__class__") (some (some (.builtin "object.__class__"))) && (decide (PySem.W.specialIn K (.builtin "object.__class__") "__get__" = some (some (.builtin "getset_descriptor.__get__"))) && (decide (PySem.W.takesIn K (.builtin "object.__class__") = some true) && decide (PySem.W.mroIn K C (.type "object") = some true)))
theorem insB_ok {K : PySem.W.Frag} {C : Addr} (h : insB K C = true) : InsF K C := by
  unfold insB at h
  obtain ⟨h1, h⟩ := He.ba h
  obtain ⟨h2, h⟩ := He.ba h
  obtain ⟨h3, h4⟩ := He.ba h
  exact ⟨He.eqO_ok h1, of_decide_eq_true h2, of_decide_eq_true h3, of_decide_eq_true h4⟩
/-- what the head says of the three classes -/
structure PatF (K : PySem.W.Frag) : Prop where
  cls : ∀ x, isPatC x → Cls K (He.ga K x)
  ins : ∀ x, isPatC x → InsF K (He.ga K x)
  isa : ∀ x, isPatC x → PySem.W.kitOne K (.ref (He.ga K x)) (.ref (He.ga K "Pattern")) = some true
  and_ : ∀ x, isPatC x → OwnOp K (He.ga K x) "and" (He.fAd K ("Pattern", some "__and__"))
  or_ : ∀ x, isPatC x → OwnOp K (He.ga K x) "or" (He.fAd K ("Pattern", some "__or__"))
  ap : ∀ x y, isPatC x → isPatC y → He.ga K x = He.ga K y ∨ PySem.W.subIn K (.ref (He.ga K y)) (.ref (He.ga K x)) = some false
def patCs : List Str := ["Form", "Both", "Either"]
theorem patCs_mem {x : Str} (h : isPatC x) : x ∈ patCs := by
  rcases h with rfl | rfl | rfl <;> simp [patCs]
def patB (K : PySem.W.Frag) : Bool := patCs.all fun x => insB K (He.ga K x) && (isaB K x "Pattern" true && (ownOpB K x "and" (He.fAd K ("Pattern", some "__and__")) && (ownOpB K x "or" (He.fAd K ("Pattern", some "__or__")) && patCs.all (apartB K x))))
theorem patB_ok {K : PySem.W.Frag} (h : patB K = true) (c1 : Cls K (He.ga K "Form")) (c2 : Cls K (He.ga K "Both")) (c3 : Cls K (He.ga K "Either")) : PatF K := by
  have z := fun x (hx : isPatC x) => List.all_eq_true.mp h x (patCs_mem hx)
  refine ⟨fun x hx => ?_, fun x hx => ?_, fun x hx => ?_, fun x hx => ?_, fun x hx => ?_, fun x y hx hy => ?_⟩
  · rcases hx with rfl | rfl | rfl
    · exact c1
    · exact c2
    · exact c3
  · exact insB_ok (He.ba (z x hx)).1
  · exact isaB_ok (He.ba (He.ba (z x hx)).2).1
  · exact ownOpB_ok (He.ba (He.ba (He.ba (z x hx)).2).2).1
  · exact ownOpB_ok (He.ba (He.ba (He.ba (He.ba (z x hx)).2).2).2).1
  · exact apartB_ok (List.all_eq_true.mp (He.ba (He.ba (He.ba (He.ba (z x hx)).2).2).2).2 y (patCs_mem hy))
section
variable {K : PySem.W.Frag} {F H F0 H0 : Hp} {P' : Addr → Prop} {v w : V} {a b : Pat} {Q : VK} {sp : Sp} {E : XK}
theorem tx_pat (T : PatF K) (S : Sx P' F0 H0 F H) (r : qPat.r K F v a) : TyX K H v (.ref (He.ga K a.cls)) := by
  obtain ⟨p, dx, fs, rfl, h2, h3⟩ := qPat_ins r S.sub
  obtain ⟨i1, i2, i3, i4⟩ := T.ins a.cls a.isC
  exact .base (.ins h2 (T.cls a.cls a.isC) i1 i2 i3 i4)
theorem rd_isPat (T : PatF K) (S : Sx P' F0 H0 F H) (r : qPat.r K F v a) (k : Q (.bl true) H) : rIsi K [v, .ref (He.ga K "Pattern")] H Q :=
  ⟨v, _, _, _, true, rfl, .own _, tx_pat T S r, T.isa a.cls a.isC, k⟩
theorem pat_op {nm : String} {f : Addr} (o : ∀ x, isPatC x → OwnOp K (He.ga K x) nm f) (T : PatF K) (S : Sx P' F0 H0 F H) (r : qPat.r K F v a) (r2 : qPat.r K F w b) (k : sp [v, w] H Q E) : rBinO K nm f sp E v w H Q := by
  obtain ⟨p, dx, fs, rfl, h2, h3⟩ := qPat_ins r S.sub
  obtain ⟨q, dy, gs, rfl, h5, h6⟩ := qPat_ins r2 S.sub
  exact ⟨p, q, _, _, dx, dy, fs, gs, f, rfl, rfl, h2, h5, o a.cls a.isC, o b.cls b.isC, T.ap a.cls b.cls a.isC b.isC, k⟩
theorem pat_and (T : PatF K) (S : Sx P' F0 H0 F H) (r : qPat.r K F v a) (r2 : qPat.r K F w b) (k : sp [v, w] H Q E) : rBinO K "and" (He.fAd K ("Pattern", some "__and__")) sp E v w H Q := pat_op T.and_ T S r r2 k
theorem pat_or (T : PatF K) (S : Sx P' F0 H0 F H) (r : qPat.r K F v a) (r2 : qPat.r K F w b) (k : sp [v, w] H Q E) : rBinO K "or" (He.fAd K ("Pattern", some "__or__")) sp E v w H Q := pat_op T.or_ T S r r2 k
end
/-! ## x is None -/
class NN {α : Type} (A : R α) : Prop where
  n : ∀ {K : PySem.W.Frag} {F : Hp} {v : V} {a : α}, A.r K F v a → v ≠ .non
instance : NN qI := ⟨fun h => by cases (show _ = V.int _ from h); exact fun z => nomatch z⟩
instance : NN qS := ⟨fun h => by cases (show _ = V.str _ from h); exact fun z => nomatch z⟩
instance : NN qB := ⟨fun h => by cases (show _ = V.bl _ from h); exact fun z => nomatch z⟩
instance {α : Type} {A : R α} : NN (qL A) := ⟨fun ⟨p, vs, h, _⟩ => by subst h; exact fun z => nomatch z⟩
instance {α : Type} {A : R α} : NN (qT A) := ⟨fun ⟨p, vs, h, _⟩ => by subst h; exact fun z => nomatch z⟩
instance {α β : Type} {A : R α} {B : R β} : NN (q2 A B) := ⟨fun ⟨p, u, w, h, _⟩ => by subst h; exact fun z => nomatch z⟩
instance {α β γ : Type} {A : R α} {B : R β} {C : R γ} : NN (q3 A B C) := ⟨fun ⟨p, u, w, z, h, _⟩ => by subst h; exact fun z => nomatch z⟩
instance : NN qForm := ⟨fun ⟨p, dx, u, h, _⟩ => by subst h; exact fun z => nomatch z⟩
instance : NN qPat := ⟨fun h => by obtain ⟨p, _, _, rfl, _⟩ := qPat_ins h (Same.refl _); exact fun z => nomatch z⟩
def rIsN0 : R2 := fun x y H Q => y = .non ∧ Q (.bl (decide (x = .non))) H
def rNotN0 : R2 := fun x y H Q => y = .non ∧ Q (.bl (!decide (x = .non))) H
theorem op_isN' {X : Cx} : OpR X (compareOp .Is) rIsN0 := op_isN
theorem op_notN' {X : Cx} : OpR X (compareOp .IsNot) rNotN0 := op_notN
section
variable {α : Type} {A : R α} {K : PySem.W.Frag} {F H : Hp} {v : V} {Q : VK} {a : Option α} {b : α}
theorem qO_non [N : NN A] (r : (qO A).r K F v a) : decide (v = .non) = a.isNone := by
  cases a with
  | none => cases (show v = .non from r); rfl
  | some a => exact decide_eq_false (N.n r)
theorem rd_isN [NN A] (r : (qO A).r K F v a) (k : Q (.bl a.isNone) H) : rIsN0 v .non H Q := ⟨rfl, by rw [qO_non r]; exact k⟩
theorem rd_notN [NN A] (r : (qO A).r K F v a) (k : Q (.bl (!a.isNone)) H) : rNotN0 v .non H Q := ⟨rfl, by rw [qO_non r]; exact k⟩
/-- what is known to be there -/
theorem qO_some (r : (qO A).r K F v a) (h : a = some b) : A.r K F v b := by subst h; exact r
end
end Gl
namespace Gl
open PySem PySem.Spec PyProof.Rows L2
/-- data of one kind, which can be put in order -/
class Ord1 {α : Type} {A : R α} (D : Dat A) where
  n : Nat
  al : ∀ a b, PySem.W.alike (D.d a) (D.d b) = true
  dep : ∀ a, (D.d a).depth ≤ n
class Ordd {α : Type} {A : R α} (D : Dat A) extends Ord1 D where
  srt : ∀ bs : List α, PySem.W.Sortable (bs.map D.d)
theorem depAllQ {α : Type} {A : R α} (D : Dat A) (n : Nat) (h : ∀ a, (D.d a).depth ≤ n) : ∀ xs : List α, PyData.depthAll (xs.map D.d) ≤ n
  | [] => by simp [PyData.depthAll]
  | x :: xs => by
    rw [List.map_cons, PyData.depthAll]
    exact Nat.max_le.mpr ⟨h x, depAllQ D n h xs⟩
theorem alAll {α : Type} {A : R α} (D : Dat A) [o : Ord1 D] : ∀ xs ys : List α, PySem.W.alikeAll (xs.map D.d) (ys.map D.d) = true
  | [], _ => by simp [PySem.W.alikeAll]
  | _ :: _, [] => by simp [PySem.W.alikeAll]
  | x :: xs, y :: ys => by
    rw [List.map_cons, List.map_cons, PySem.W.alikeAll, alAll D xs ys, o.al x y]; rfl
instance oI : Ordd dI where
  n := 0
  al := fun _ _ => rfl
  dep := fun _ => Nat.zero_le _
  srt := fun bs => PySem.W.Sortable.others fun b => ⟨(fun z => nomatch z), fun _ z => nomatch z⟩
instance oS : Ordd dS where
  n := 0
  al := fun _ _ => rfl
  dep := fun _ => Nat.zero_le _
  srt := fun bs => PySem.W.Sortable.others fun b => ⟨(fun z => nomatch z), fun _ z => nomatch z⟩
instance oB : Ordd dB where
  n := 0
  al := fun _ _ => rfl
  dep := fun _ => Nat.zero_le _
  srt := fun bs => PySem.W.Sortable.others fun b => ⟨(fun z => nomatch z), fun _ z => nomatch z⟩
instance oT {α : Type} {A : R α} {D : Dat A} [o : Ord1 D] : Ord1 (dT D) where
  n := o.n + 1
  al := fun a b => by
    show PySem.W.alike (.tuple (a.map D.d)) (.tuple (b.map D.d)) = true
    rw [PySem.W.alike]; exact alAll D a b
  dep := fun a => by
    show (PyData.tuple (a.map D.d)).depth ≤ _
    rw [PyData.depth]
    have := depAllQ D o.n o.dep a
    omega
instance oL {α : Type} {A : R α} {D : Dat A} [o : Ord1 D] : Ordd (dL D) where
  n := o.n + 1
  al := fun a b => by
    show PySem.W.alike (.list (a.map D.d)) (.list (b.map D.d)) = true
    rw [PySem.W.alike]; exact alAll D a b
  dep := fun a => by
    show (PyData.list (a.map D.d)).depth ≤ _
    rw [PyData.depth]
    have := depAllQ D o.n o.dep a
    omega
  srt := fun bs => PySem.W.Sortable.others fun b => ⟨(fun z => nomatch z), fun _ z => nomatch z⟩
instance o2 {α β : Type} {A : R α} {B : R β} {D : Dat A} {E : Dat B} [o : Ord1 D] [p : Ord1 E] : Ordd (d2 D E) where
  n := max o.n p.n + 1
  al := fun a b => by
    show PySem.W.alike (.tuple [D.d a.1, E.d a.2]) (.tuple [D.d b.1, E.d b.2]) = true
    simp [PySem.W.alike, PySem.W.alikeAll, o.al, p.al]
  dep := fun a => by
    show (PyData.tuple [D.d a.1, E.d a.2]).depth ≤ _
    have h1 := o.dep a.1
    have h2 := p.dep a.2
    simp only [PyData.depth, PyData.depthAll]
    omega
  srt := fun bs => PySem.W.Sortable.tuples fun b => ⟨_, _, rfl⟩
end Gl
namespace Gl
open PySem PySem.Spec PyProof.Rows L2
end Gl
namespace Gl
open PySem PySem.Spec PyProof.Rows L2
/-! ## any, all, sum, pop, insert, index, clear -/
section
variable {K : PySem.W.Frag} {P : Addr → Prop} {F0 H0 F H F' : Hp} {v : V} {Q : VK} {α : Type} {A : R α} {p : Addr} {vs : List V}
theorem row_bl {K : PySem.W.Frag} {F : Hp} {vs : List V} {xs : List Bool} (r : Row qB K F vs xs) : vs = xs.map V.bl := by
  induction r with
  | nil => rfl
  | cons h t ih => rw [ih, show _ = _ from h]; rfl
def rAnyK (K : PySem.W.Frag) : List V → Hp → VK → Prop := fun vs H Q => ∃ (a : Addr) (bs : List Bool), vs = [V.ref a] ∧ SqL K H a (bs.map V.bl) ∧ Q (.bl (bs.any id)) H
theorem cr_anyK {X : Cx} (hc : X.calm = true) : CallR X (.builtin "any") (rAnyK X.K) := cr_any hc
theorem rd_any {xs : List Bool} (s : SeenR qB K F H v xs) (k : Q (.bl (xs.any id)) H) : rAnyK K [v] H Q := by
  obtain ⟨p, vs, rfl, h1, r⟩ := s
  obtain rfl := row_bl r
  exact ⟨p, xs, rfl, h1, k⟩
theorem pErase {α β : Type} {R : α → β → Prop} : ∀ {xs : List α} {ys : List β} (i : Nat), Paired R xs ys → Paired R (xs.eraseIdx i) (ys.eraseIdx i)
  | _, _, _, .nil => .nil
  | _, _, 0, .cons _ t => t
  | _, _, i + 1, .cons q t => .cons q (pErase i t)
/-- xs.pop(i) -/
def popAt {α : Type} (xs : List α) (i : Int) : Option (α × List α) := gd (decide (-(2 ^ 63) ≤ i) && decide (i < 2 ^ 63)) <| (seqIndex? i xs.length).bind fun k => xs[k]?.map fun a => (a, xs.eraseIdx k)
theorem rd_popAt {xs : List α} {i : Int} {a : α × List α} (S : Sx P F0 H0 F H) (w : Ow P H0 F H p (.lst vs)) (r : Row A K F vs xs) (h : popAt xs i = some a) (k : ∀ u H' us, A.r K F u a.1 → Sx (fun a => a = p) F H F H' → Ow P H0 F H' p (.lst us) → Row A K F us a.2 → Q u H') : rPopAt (.ref p) [.int i] H Q := by
  obtain ⟨g, h⟩ := gd_some h
  obtain ⟨g1, g2⟩ := Bool.and_eq_true_iff.mp g
  obtain ⟨j, h0, h⟩ := bd_some h
  obtain ⟨b, h1, rfl⟩ := Option.map_eq_some_iff.mp h
  obtain ⟨u, h2, h3⟩ := pGet r h1
  exact ⟨p, vs, i, j, u, rfl, rfl, w.at_, of_decide_eq_true g1, of_decide_eq_true g2, by rw [pLen r]; exact h0, h2, k u _ _ h3 (putS S w) w.put (pErase j r)⟩
theorem findIdx_at {α : Type} {q : α → Bool} : ∀ {xs : List α} {j : Nat}, xs.findIdx? q = some j → ∃ x, xs[j]? = some x ∧ q x = true ∧ ∀ m x', m < j → xs[m]? = some x' → q x' = false
  | [], j, h => by simp at h
  | x :: xs, j, h => by
    rw [List.findIdx?_cons] at h
    by_cases e : q x = true
    · rw [e] at h
      simp at h
      subst h
      exact ⟨x, rfl, e, fun m x' hm _ => absurd hm (by omega)⟩
    · have e' : q x = false := by simpa using e
      rw [e'] at h
      simp only [Bool.false_eq_true, if_false, Option.map_eq_some_iff] at h
      obtain ⟨i, h1, rfl⟩ := h
      obtain ⟨y, h2, h3, h4⟩ := findIdx_at h1
      refine ⟨y, by simpa using h2, h3, fun m x' hm hx => ?_⟩
      cases m with
      | zero =>
        simp at hx
        exact hx ▸ e'
      | succ m => exact h4 m x' (by omega) (by simpa using hx)
end
/-! ## rows of unlike things -/
structure RR (α : Type) where
  r : PySem.W.Frag → Hp → List V → α → Prop
  mono : ∀ {K : PySem.W.Frag} {F F' : Hp} {v : List V} {a : α}, Same F F' → r K F v a → r K F' v a
def f1 {α : Type} (A : R α) : RR α := ⟨fun K F vs a => ∃ u, vs = [u] ∧ A.r K F u a, fun e ⟨u, h1, h2⟩ => ⟨u, h1, A.mono e h2⟩⟩
def fc {α β : Type} (A : R α) (B : RR β) : RR (α × β) := ⟨fun K F vs a => ∃ u us, vs = u :: us ∧ A.r K F u a.1 ∧ B.r K F us a.2, fun e ⟨u, us, h1, h2, h3⟩ => ⟨u, us, h1, A.mono e h2, B.mono e h3⟩⟩
def qLr {α : Type} (B : RR α) : R α := ⟨fun K F v a => ∃ p vs, v = .ref p ∧ F p = some (.lst vs) ∧ B.r K F vs a, fun e ⟨p, vs, h1, h2, h3⟩ => ⟨p, vs, h1, e _ _ h2, B.mono e h3⟩⟩
def qTr {α : Type} (B : RR α) : R α := ⟨fun K F v a => ∃ p vs, v = .ref p ∧ SqT K F p vs ∧ B.r K F vs a, fun e ⟨p, vs, h1, h2, h3⟩ => ⟨p, vs, h1, same_t e h2, B.mono e h3⟩⟩
structure DatR {α : Type} (B : RR α) where
  d : α → List PyData
  dp : ∀ {K : PySem.W.Frag} {F : Hp} {v : List V} {a : α}, B.r K F v a → DpAll K F v (d a)
  eq : ∀ a b : α, PyData.eqvAll (d a) (d b) = true ↔ a = b
def e1 {α : Type} {A : R α} (D : Dat A) : DatR (f1 A) := ⟨fun a => [D.d a], fun ⟨u, h1, h2⟩ => by subst h1; exact .cons (D.dp h2) .nil, fun a b => by
  show (PyData.eqv (D.d a) (D.d b) && true) = true ↔ _
  rw [Bool.and_true, D.eq]⟩
def ec {α β : Type} {A : R α} {B : RR β} (D : Dat A) (E : DatR B) : DatR (fc A B) := ⟨fun a => D.d a.1 :: E.d a.2, fun ⟨u, us, h1, h2, h3⟩ => by subst h1; exact .cons (D.dp h2) (E.dp h3), fun a b => by
  show (PyData.eqv (D.d a.1) (D.d b.1) && PyData.eqvAll (E.d a.2) (E.d b.2)) = true ↔ _
  rw [Bool.and_eq_true, D.eq, E.eq]
  obtain ⟨a1, a2⟩ := a
  obtain ⟨b1, b2⟩ := b
  simp⟩
def dLr {α : Type} {B : RR α} (E : DatR B) : Dat (qLr B) := ⟨fun a => .list (E.d a), fun ⟨p, vs, h1, h2, h3⟩ => by subst h1; exact .lst (SqL.of h2) (E.dp h3), fun a b => E.eq a b⟩
def dTr {α : Type} {B : RR α} (E : DatR B) : Dat (qTr B) := ⟨fun a => .tuple (E.d a), fun ⟨p, vs, h1, h2, h3⟩ => by subst h1; exact .tup h2 (E.dp h3), fun a b => E.eq a b⟩
instance {α : Type} {B : RR α} : NN (qLr B) := ⟨fun ⟨p, vs, h, _⟩ => by subst h; exact fun z => nomatch z⟩
instance {α : Type} {B : RR α} : NN (qTr B) := ⟨fun ⟨p, vs, h, _⟩ => by subst h; exact fun z => nomatch z⟩
instance {α : Type} {B : RR α} {E : DatR B} : NotNone (dLr E) := ⟨fun _ => rfl, fun _ => rfl⟩
instance {α : Type} {B : RR α} {E : DatR B} : NotNone (dTr E) := ⟨fun _ => rfl, fun _ => rfl⟩
section
variable {K : PySem.W.Frag} {P : Addr → Prop} {F0 H0 F H F' : Hp} {v u : V} {Q : VK} {α : Type} {B : RR α} {a : α}
theorem alLr {vs : List V} (S : Sx P F0 H0 F H) (r : B.r K F vs a) (k : ∀ v F' H', Sx P0 F H F' H' → (qLr B).r K F' v a → Q v H') : nK Q H (.lst vs) :=
  alF S fun p F' H' c h => k _ F' H' c ⟨p, vs, rfl, h, B.mono c.le r⟩
end
/-- where a row of unlike things has what -/
structure RowAt {α γ : Type} (B : RR α) (i : Nat) (C : R γ) (g : α → γ) : Prop where
  at_ : ∀ {K : PySem.W.Frag} {F : Hp} {vs : List V} {a : α}, B.r K F vs a → ∃ u, vs[i]? = some u ∧ C.r K F u (g a)
theorem ra0 {α β : Type} {A : R α} {B : RR β} : RowAt (fc A B) 0 A (fun a => a.1) := ⟨fun ⟨u, us, h1, h2, _⟩ => ⟨u, by rw [h1]; rfl, h2⟩⟩
theorem ra1 {α : Type} {A : R α} : RowAt (f1 A) 0 A (fun a => a) := ⟨fun ⟨u, h1, h2⟩ => ⟨u, by rw [h1]; rfl, h2⟩⟩
theorem raS {α β γ : Type} {A : R α} {B : RR β} {C : R γ} {i : Nat} {g : β → γ} (h : RowAt B i C g) : RowAt (fc A B) (i + 1) C (fun a => g a.2) := ⟨fun ⟨u, us, h1, _, h3⟩ => by
  obtain ⟨w, h4, h5⟩ := h.at_ h3
  exact ⟨w, by rw [h1, List.getElem?_cons_succ]; exact h4, h5⟩⟩
theorem atI_nat {α : Type} {xs : List α} {i : Nat} {x : α} (h : xs[i]? = some x) (hz : xs.length ≤ 1000) : atI xs (i : Int) = some x := by
  have hi : i < xs.length := (List.getElem?_eq_some_iff.mp h).1
  have : ixN xs.length (i : Int) = some i := by
    unfold ixN
    first | (simp; omega) | (rw [if_pos (by omega)]; simp) | skip
  unfold atI
  rw [this]
  exact h

section
variable {K : PySem.W.Frag} {P : Addr → Prop} {F0 H0 F H F' : Hp} {v u : V} {Q : VK} {α γ : Type} {B : RR α} {C : R γ} {g : α → γ} {a : α} {i : Nat} {σ : L2.St} {QS : L2.St → Hp → Prop} {ts : TGs}
theorem rd_xLr (S : Sx P F0 H0 F H) (r : (qLr B).r K F v a) (ra : RowAt B i C g) (hl : ∀ K F vs a, B.r K F vs a → vs.length ≤ 1000) (k : ∀ u, C.r K F u (g a) → Q u H) : rIxL K v (.int (i : Int)) H Q := by
  obtain ⟨p, vs, rfl, h2, h3⟩ := r
  obtain ⟨u, h4, h5⟩ := ra.at_ h3
  exact ⟨p, vs, i, u, rfl, rfl, SqL.of (S.sub _ _ h2), atI_nat h4 (hl _ _ _ _ h3), k u h5⟩
/-- pairs, triples by their places -/
theorem rd_x2 {α β : Type} {A : R α} {B : R β} {x : α × β} (S : Sx P F0 H0 F H) (r : (q2 A B).r K F v x) (k : ∀ u, A.r K F u x.1 → Q u H) : rIxT K v (.int 0) H Q := by
  obtain ⟨p, u, w, rfl, h2, h3, h4⟩ := r
  exact ⟨p, _, 0, u, rfl, rfl, same_t S.sub h2, rfl, k u h3⟩
theorem rd_y2 {α β : Type} {A : R α} {B : R β} {x : α × β} (S : Sx P F0 H0 F H) (r : (q2 A B).r K F v x) (k : ∀ u, B.r K F u x.2 → Q u H) : rIxT K v (.int 1) H Q := by
  obtain ⟨p, u, w, rfl, h2, h3, h4⟩ := r
  exact ⟨p, _, 1, w, rfl, rfl, same_t S.sub h2, rfl, k w h4⟩
theorem rd_gun2 {α β : Type} {A : R α} {B : R β} {x : α × β} (S : Sx P F0 H0 F H) (r : (q2 A B).r K F v x) (k : ∀ u w, A.r K F u x.1 → B.r K F w x.2 → ts [u, w] σ H QS) : gTup K 2 ts v σ H QS := by
  obtain ⟨p, u, w, rfl, h2, h3, h4⟩ := r
  exact ⟨p, _, rfl, same_t S.sub h2, rfl, k u w h3 h4⟩
end
end Gl
namespace Gl
open PySem PySem.Spec PyProof.Rows L2
section
variable {K : PySem.W.Frag} {P : Addr → Prop} {F0 H0 F H : Hp} {v : V} {Q : VK} {w : World}
/-! ## the truth of a list -/
def trK (K : PySem.W.Frag) (Q : Bool → Hp → Prop) : VK := fun x H' => ∃ k, TruV K x H' k ∧ Q k H'
theorem tr_at {α : Type} {A : R α} {xs : List α} {Q : Bool → Hp → Prop} (s : SeenR A K F H v xs) (k : Q (!xs.isEmpty) H) : trK K Q v H := by
  obtain ⟨p, vs, rfl, h1, r⟩ := s
  refine ⟨_, .inl ⟨vs, h1, rfl⟩, ?_⟩
  have e : vs.isEmpty = xs.isEmpty := by cases r <;> rfl
  rw [e]; exact k
end
/-! ## tests of lists; xs += ys -/
def tTr (K : PySem.W.Frag) (te : TE) : TT := fun σ H Q => te σ H (trK K Q)
theorem pt_truthK {X : Cx} {K : PySem.W.Frag} {a : Expr} {ta : TE} (ha : PE X a ta) (he : ∀ whole, isTrue a X.env whole = (do let v ← whole; standAt a.pos; holding [v] (truthy v))) (hK : X.K = K := by rfl) : PT X a (tTr K ta) := by
  subst hK; exact pt_truth ha he
section
variable {K : PySem.W.Frag} {P : Addr → Prop} {F0 H0 F H : Hp} {v : V} {Q : VK} {σ : L2.St} {te : TE} {α : Type} {A : R α} {p : Addr} {vs : List V} {xs ys : List α}
theorem rd_tr {Q : Bool → Hp → Prop} (k : te σ H (trK K Q)) : tTr K te σ H Q := k
end
/-! ## a chain of ints -/
def chK (r' : R2) (tc : TE) (y : V) (σ : L2.St) (Q : VK) : VK := fun z H3 => ∃ k, z = .bl k ∧ (if k = true then tc σ H3 fun w' H4 => r' y w' H4 Q else Q (.bl false) H3)
theorem rd_chain {r r' : R2} {ta tb tc : TE} {σ : L2.St} {H : Hp} {Q : VK} (k : ta σ H fun x H1 => tb σ H1 fun y H2 => r x y H2 (chK r' tc y σ Q)) : tChain r r' ta tb tc σ H Q := k
theorem ch_at {r' : R2} {tc : TE} {y z : V} {σ : L2.St} {H : Hp} {Q : VK} {b c : Bool} (hc : ∀ Q' : VK, Q' z H → tc σ H Q') (hr : ∀ Q' : VK, Q' (.bl c) H → r' y z H Q') (k : Q (.bl (b && c)) H) : chK r' tc y σ Q (.bl b) H :=
  ⟨b, rfl, by
    cases b
    · exact k
    · exact hc _ (hr _ k)⟩
/-! ## x in o, whatever class o is of, within blocks too -/
def rInW (P : Program) (w : World) (K : PySem.W.Frag) (mg : Str → Option Value) (base : Heap) (k : Nat) (neg : Bool) : R2 := fun x y H Q => ∃ (a dx : Addr) (fs : List (Str × V)) (C f : Addr) (sp : Sp) (j : Nat) (fd : FuncData) (ps : List Str), y = .ref a ∧ H a = some (.ins C dx fs) ∧
  Meth K C "__contains__" f ∧ FnOk P w K mg base CX0 j f fd ps sp ∧ j ≤ k ∧ Binds K fd ps [] ∧ sp [.ref a, x] H (fun v H2 => ∃ b, v = .bl b ∧ Q (.bl (neg != b)) H2) E0
theorem op_inW {X : Cx} {k : Nat} (hr : Room k X.A) : OpR X (compareOp .In) (rInW X.prog X.w X.K X.mg X.base k false) := by
  intro pins s σ H x y v u Q I rx ry h
  obtain ⟨a, dx, fs, C, f, sp, j, fd, ps, rfl, e, hm, F, hj, hb, h⟩ := h
  cases ry
  show wpAny _ _ ((contains (.ref a) v) >>= fun z => pure (Value.bool z)) _ _ s
  refine wpAny_bind (in_own (E := E0) hm F (hr.mono hj) hb pass0 I e rx h fun r s' ⟨z, H', I', rz, b, ez, q⟩ => ?_)
  subst ez
  cases rz
  refine ⟨b, rfl, wpAny_pure (fin_bl I' ?_ rfl)⟩
  cases b <;> exact q
def inWK (neg : Bool) (Q : VK) : VK := fun v H2 => ∃ b, v = .bl b ∧ Q (.bl (neg != b)) H2
theorem rd_inWf {Q : VK} {b : Bool} {H : Hp} (k : Q (.bl b) H) : inWK false Q (.bl b) H := ⟨b, rfl, by cases b <;> exact k⟩
theorem VM.inW {P : Program} {w : World} {K : PySem.W.Frag} {mg : Str → Option Value} {base : Heap} {k : Nat} {ps : List Str} {sp : Str → Sp} {F H F0 H0 : Hp} {P' : Addr → Prop} {v x : V} {a : Pat} {Q : VK} {neg : Bool} (V : VM P w K mg base k "__contains__" ps sp) (S : Sx P' F0 H0 F H) (r : qPat.r K F v a)
    (kt : sp a.cls [v, x] H (inWK neg Q) E0) : rInW P w K mg base k neg x v H Q := by
  obtain ⟨p, dx, fs, rfl, h2, h3⟩ := qPat_ins r S.sub
  obtain ⟨c, me, F, b⟩ := V.go a.cls a.isC
  exact ⟨p, dx, fs, _, _, sp a.cls, k, _, ps, rfl, h2, me, F, Nat.le_refl _, b, kt⟩
/-! ## built-in methods, the reading by K itself -/
section
variable {X : Cx} {K : PySem.W.Frag} {T id : String} {name : Str} {o e : Expr} {es : List Expr} {to : TE} {t : TA} {r : V → List V → Hp → VK → Prop} {apos cpos : Pos}
theorem pe_bmK (pa : PlainAttrs T) (slot : Slot T name id) (hty : typeOf (.builtin id) = pure (.type "method_descriptor")) (hm : MtR X id r) (ho : PE X o to) (ha : PA X (e :: es) t) (hK : X.K = K := by rfl)
    (hbase : attributeBase o name X.env (eval o X.env) = eval o X.env := by rfl)
    (hfew : ((backTo cpos (starEach (e :: es) X.env)).all (fun x => !x.1) && (backToKw cpos (keywordEach [] X.env)).all (fun x => x.1.isSome)
      && decide ((e :: es).length + ([] : List Keyword).length + (if ([] : List Keyword).isEmpty then 0 else 1) < 30)) = true := by rfl)
    (hline : (apos.endLine == cpos.line) = true := by rfl) (hs : starEach (e :: es) X.env = (false, eval e X.env) :: starEach es X.env := by rfl) (hplain : (backTo cpos (starEach es X.env)).any (·.1) = false := by rfl) :
    PE X (.Call (.Attribute o name apos) (e :: es) [] cpos) (tBM K T r to t) := by
  subst hK; exact pe_bm pa slot hty hm ho ha hbase hfew hline hs hplain
end
end Gl
namespace Gl
open PySem PySem.Spec PyProof.Rows L2
/-! ## displays with a star ahead -/
section
variable {X : Cx} {K : PySem.W.Frag} {α : Type} {A : R α} {F H F0 H0 : Hp} {P : Addr → Prop} {v : V} {xs ys : List α} {us ws : List V} {Q : VK} {QA : List V → Hp → Prop} {te : TE} {t : TA} {σ : L2.St} {e : Expr} {es : List Expr} {p : Pos}
def kSt (K : PySem.W.Frag) (σ : L2.St) (t : TA) (QA : List V → Hp → Prop) : VK := fun x H => ∃ p xs, x = V.ref p ∧ (SqT K H p xs ∨ SqL K H p xs) ∧ t σ H fun ys H2 => QA (xs ++ ys) H2
theorem rd_star (k : te σ H (kSt K σ t QA)) : StX.tStar K te t σ H QA := k
theorem st_at (s : SeenQ A K F H v xs) (k : ∀ us, Row A K F us xs → t σ H fun ys H2 => QA (us ++ ys) H2) : kSt K σ t QA v H := by
  obtain ⟨p, vs, rfl, h1, r⟩ := s.seq
  exact ⟨p, vs, rfl, h1.symm, k vs r⟩
theorem pa_starK (he : PE X e te) (hr : PA X es t) (hK : X.K = K := by rfl) (hs : starEach (.Starred e p :: es) X.env = (true, eval e X.env) :: starEach es X.env := by rfl) : PA X (.Starred e p :: es) (StX.tStar K te t) := by
  subst hK; exact StX.pa_star he hr hs
theorem fits2_len {xs ys : List α} (h : fits2 xs ys = true) : xs.length + ys.length ≤ sizeLine := of_decide_eq_true h
theorem rd_lKs (r : Row A K F us xs) (r2 : Row A K F ws ys) (g : fits2 xs ys = true) (k : nK Q H (.lst (us ++ ws))) : lK Q (us ++ ws) H :=
  ⟨by rw [List.length_append, pLen r, pLen r2]; exact fits2_len g, k⟩
end
end Gl
namespace Gl
open PySem PySem.Spec PyProof.Rows L2
end Gl
namespace L2
open PySem PySem.Spec PyProof.Rows
end L2
namespace Gl
open PySem PySem.Spec PyProof.Rows L2
end Gl
namespace Gl
open PySem PySem.Spec PyProof.Rows L2
/-! ## the text of a pattern -/
def joinP (m x y : Str) : Str := Str.empty ++ ("(" : Str) ++ x ++ m ++ y ++ (")" : Str)
def joinPok (m x y : Str) : Bool := decide (x.length ≤ sizeLine) && decide (y.length ≤ sizeLine) && decide ((joinP m x y).length ≤ sizeLine)
def Pat.str : Pat → Option Str
  | .form a => gd (joinOk ("" : Str) a) (some (Txt.join ("" : Str) a))
  | .both l r => l.str.bind fun x => r.str.bind fun y => gd (joinPok (" & " : Str) x y) (some (joinP (" & " : Str) x y))
  | .either l r => l.str.bind fun x => r.str.bind fun y => gd (joinPok (" | " : Str) x y) (some (joinP (" | " : Str) x y))
end Gl
namespace Gl
open PySem PySem.Spec PyProof.Rows L2
/-! ## over an own list that stays own -/
theorem rd_wLO {K : PySem.W.Frag} {P : Addr → Prop} {H0 F H : Hp} {RI : It → Hp → Prop} {p : Addr} {vs : List V} (o : Ow P H0 F H p (.lst vs)) (k : SqL K H p vs → RI (Itl K p) H) : wL K RI (.ref p) H :=
  ⟨p, rfl, ⟨vs, SqL.of o.at_⟩, k (SqL.of o.at_)⟩
theorem sx_lst {K : PySem.W.Frag} {F H F' H' : Hp} {P : Addr → Prop} {H0 : Hp} {p : Addr} {vs : List V} (S : Sx P0 F H F' H') (o : Ow P H0 F H p (.lst vs)) : SqL K H' p vs := SqL.of (S.same _ _ o.at_ fun z => z.elim)
section
variable {K : PySem.W.Frag} {P : Addr → Prop} {F0 H0 F H : Hp} {v u : V} {Q : VK}
/-! ## sorted(xs), tuples of which some may be empty -/
end
section
variable {K : PySem.W.Frag} {P : Addr → Prop} {F0 H0 F H : Hp} {v u : V} {Q : VK}
theorem u65 {k : Nat} {A : Around} (r : Room k A) : A.units + 65 < cLine := by have := r.un; omega
end
end Gl
namespace Gl
open PySem PySem.Spec PyProof.Rows L2 C8

end Gl
namespace Gl
open PySem PySem.Spec PyProof.Rows L2 C8
/-! ## dicts from texts to things, that stand for good -/
def SdRow (K : PySem.W.Frag) (F : Hp) (kvs : List (Key × V)) (xs : List (Str × Th)) : Prop := Paired (fun (kv : Key × V) (x : Str × Th) => kv.1 = .inr x.1 ∧ qTh.r K F kv.2 x.2) kvs xs
theorem SdRow.mono {K : PySem.W.Frag} {F F' : Hp} {kvs : List (Key × V)} {xs : List (Str × Th)} (e : Same F F') (h : SdRow K F kvs xs) : SdRow K F' kvs xs := Paired.mapP h fun _ _ r => ⟨r.1, qTh.mono e r.2⟩
def qSd : R (List (Str × Th)) := ⟨fun K F v xs => ∃ p kvs, v = .ref p ∧ F p = some (.dK kvs) ∧ SdRow K F kvs xs, fun e ⟨p, kvs, h1, h2, h3⟩ => ⟨p, kvs, h1, e _ _ h2, SdRow.mono e h3⟩⟩
def getSd (k : Str) : List (Str × Th) → Option Th
  | [] => none
  | x :: xs => if x.1 = k then some x.2 else getSd k xs
theorem SdRow.get {K : PySem.W.Frag} {F : Hp} {k : Str} : ∀ {kvs : List (Key × V)} {xs : List (Str × Th)}, SdRow K F kvs xs → (valV kvs (.inr k) = none ∧ getSd k xs = none) ∨ ∃ u t, valV kvs (.inr k) = some u ∧ getSd k xs = some t ∧ qTh.r K F u t
  | _, _, .nil => .inl ⟨rfl, rfl⟩
  | kv :: kvs, x :: xs, .cons r t => by
    by_cases e : x.1 = k
    · refine .inr ⟨kv.2, x.2, valV_pos (by rw [r.1, e]), ?_, r.2⟩
      show (if x.1 = k then _ else _) = _
      rw [if_pos e]
    · have n : ¬ kv.1 = (.inr k : Key) := fun z => by rw [r.1] at z; exact e (Sum.inr.inj z)
      rw [valV_neg n]
      show _ ∨ ∃ u t, _ ∧ (if x.1 = k then some x.2 else getSd k xs) = some t ∧ _
      rw [show getSd k (x :: xs) = getSd k xs from if_neg e, if_neg e]
      exact SdRow.get t
section
variable {K : PySem.W.Frag} {P : Addr → Prop} {F0 H0 F H : Hp} {v : V} {xs : List (Str × Th)} {Q : VK} {σ : L2.St} {td ty : TE} {k : Str} {t : Th}
def rDg : R2 := fun x y H Q => ∃ a u, x = .ref a ∧ DGet H a y (some u) ∧ Q u H
theorem pe_dgetO {X : Cx} {o i : Expr} {pos : Pos} (hu : X.A.units + 64 < cLine) (ho : PE X o td) (hi : PE X i ty) (hs : NoSl i) : PE X (.Subscript o i pos) (tOp rDg td ty) := pe_dget (by omega) ho hi hs
theorem rd_dgSd (S : Sx P F0 H0 F H) (r : qSd.r K F v xs) (h : getSd k xs = some t) (q : ∀ u, qTh.r K F u t → Q u H) : rDg v (.str k) H Q := by
  obtain ⟨p, kvs, rfl, h1, h2⟩ := r
  rcases h2.get (k := k) with ⟨e1, e2⟩ | ⟨u, t', e1, e2, e3⟩
  · rw [h] at e2; cases e2
  · rw [h] at e2
    cases e2
    exact ⟨p, u, rfl, by have := DGet.k (k := .inr k) (S.sub _ _ h1); rw [e1] at this; exact this, q u e3⟩
def rDi (neg : Bool) : R2 := fun x y H Q => ∃ a o, y = .ref a ∧ DGet H a x o ∧ Q (.bl (if neg = true then !o.isSome else o.isSome)) H
theorem op_dIn {X : Cx} (hu : X.A.units + 64 < cLine) : OpR X (compareOp .In) (rDi false) := by
  intro pins s σ H x y v u Q I rx ry h
  obtain ⟨a, o, rfl, g, q⟩ := h
  cases ry
  rw [if_neg (by decide)] at q
  exact d_in (by omega) I g rx fun s' I' => ⟨.bl _, H, I', rfl, q⟩
theorem SdRow.some_eq {kvs : List (Key × V)} (h : SdRow K F kvs xs) : (valV kvs (.inr k)).isSome = (getSd k xs).isSome := by
  rcases h.get (k := k) with ⟨e1, e2⟩ | ⟨u, t', e1, e2, e3⟩
  · rw [e1, e2]; rfl
  · rw [e1, e2]; rfl
theorem rd_dInSd (S : Sx P F0 H0 F H) (r : qSd.r K F v xs) (q : Q (.bl (getSd k xs).isSome) H) : rDi false (.str k) v H Q := by
  obtain ⟨p, kvs, rfl, h1, h2⟩ := r
  exact ⟨p, _, rfl, DGet.k (k := .inr k) (S.sub _ _ h1), by rw [if_neg (by decide), h2.some_eq]; exact q⟩
end
/-! ### displays {'a': x, ..}: the keys written, the values at hand -/
theorem mergeK_snoc : ∀ (more acc : List (Key × V)), ((acc ++ more).map (·.1)).Nodup → mergeK acc more = acc ++ more
  | [], acc, _ => by rw [List.append_nil]; rfl
  | kv :: more, acc, h => by
    have hn : valV acc kv.1 = none := by
      cases e : valV acc kv.1 with
      | none => rfl
      | some u =>
        have h2 := valV_any kv.1 acc
        rw [e] at h2
        obtain ⟨z, hz, hz2⟩ := List.any_eq_true.mp h2
        rw [List.map_append, List.map_cons, List.nodup_append] at h
        exact absurd (of_decide_eq_true hz2) (h.2.2 _ (List.mem_map_of_mem hz) _ List.mem_cons_self)
    show mergeK (putK acc kv.1 kv.2) more = _
    rw [putK_new _ hn, mergeK_snoc more (acc ++ [(kv.1, kv.2)]) (by rw [List.append_assoc]; exact h), List.append_assoc]
    rfl
theorem mergeK_self {kvs : List (Key × V)} {ks : List Key} (e : kvs.map (·.1) = ks) (h : ks.Nodup) : mergeK [] kvs = kvs := mergeK_snoc kvs [] (by rw [List.nil_append, e]; exact h)
section
variable {K : PySem.W.Frag} {P : Addr → Prop} {F0 H0 F H : Hp} {Q : VK} {σ : L2.St} {trs : List (TE × TE)} {tk tv : TE} {p : Addr} {xs : List (Str × Th)} {kvs : List (Key × V)} {R : List (V × V) → Hp → Prop}
def spK (p : Addr) (Q : VK) : List (V × V) → Hp → Prop := fun ps H2 => H2 p = some (.dK []) ∧ ∃ kvs : List (Key × V), ps = kvs.map (fun kv => (kV kv.1, kv.2)) ∧ kvs.length ≤ 15 ∧ Q (.ref p) (upd H2 p (.dK (mergeK [] kvs)))
theorem rd_disp (S : Sx P F0 H0 F H) (k : ∀ p H', H p = none → Sx P0 F H F H' → Ow P H0 F H' p (.dK []) → tPairs trs σ H' (spK p Q)) : tDisp trs σ H Q :=
  fun p hp => k p _ hp ((Sx.refl0 S.sub).temp hp) (S.own hp)
theorem rd_pp (k : tk σ H fun x H1 => tv σ H1 fun y H2 => tPairs trs σ H2 fun ps H3 => R ((x, y) :: ps) H3) : tPairs ((tk, tv) :: trs) σ H R := k
theorem rd_p0 (k : R [] H) : tPairs [] σ H R := k
theorem rd_dispE {ps : List (V × V)} {ks : List Key} (S : Sx P F0 H0 F H) (w : Ow P H0 F H p (.dK [])) (row : SdRow K F kvs xs) (e : ps = kvs.map (fun kv => (kV kv.1, kv.2))) (h15 : Nat.ble kvs.length 15 = true) (ek : kvs.map (·.1) = ks) (nd : ks.Nodup)
    (k : ∀ H', Sx (fun a => a = p) F H F H' → Ow P H0 F H' p (.dK kvs) → Q (.ref p) H') : spK p Q ps H :=
  ⟨w.at_, kvs, e, Nat.le_of_ble_eq_true h15, by rw [mergeK_self ek nd]; exact k _ (putS S w) w.put⟩
theorem fzSd (S : Sx P F0 H0 F H) (w : Ow P H0 F H p (.dK kvs)) (h0 : H0 p = none) (row : SdRow K F kvs xs) : ∃ F', Sx P F0 H0 F' H ∧ Same F F' ∧ qSd.r K F' (.ref p) xs ∧ ∀ q, q ≠ p → F' q = F q :=
  ⟨_, S.freeze w h0, w.leF, ⟨p, kvs, rfl, upd_same, SdRow.mono w.leF row⟩, fun _ n => upd_ne n⟩
end
/-! ## things that are none or a number, truths -/
def thOI : Th → Option (Option Int)
  | .d .none => some none
  | .d (.int i) => some (some i)
  | _ => none
def thB : Th → Option Bool
  | .d (.bool b) => some b
  | _ => none
def thO : Option Int → Th
  | none => .d .none
  | some i => .d (.int i)
def thNon (t : Th) : Bool := match t with
  | .d .none => true
  | _ => false
def thIsB (t : Th) (c : Bool) : Bool := match t with
  | .d (.bool b) => decide (b = c)
  | _ => false
theorem thOI_O (o : Option Int) : thOI (thO o) = some o := by cases o <;> rfl
section
variable {K : PySem.W.Frag} {P : Addr → Prop} {F0 H0 F H : Hp} {v : V} {a : Th} {Q : VK}
theorem thOI_fact {o : Option Int} (r : qTh.r K F v a) (h : thOI a = some o) : (qO qI).r K F v o := by
  cases a with
  | dct => cases h
  | d x =>
    cases x with
    | int z =>
      cases (show some (some z) = some o from h)
      cases (show Dp K F v (.int _) from r)
      rfl
    | none =>
      cases (show some none = some o from h)
      cases (show Dp K F v .none from r)
      rfl
    | _ => cases h
theorem thB_fact {b : Bool} (r : qTh.r K F v a) (h : thB a = some b) : v = .bl b := by
  cases a with
  | dct => cases h
  | d x =>
    cases x with
    | bool z =>
      cases (show some z = some b from h)
      cases (show Dp K F v (.bool _) from r)
      rfl
    | _ => cases h
theorem thO_r {o : Option Int} (r : (qO qI).r K F v o) : qTh.r K F v (thO o) := by
  cases o with
  | none => cases (show v = .non from r); exact Dp.non
  | some i => cases (show v = .int i from r); exact Dp.int _
/-- a thing's value is of these kinds -/
def plV : V → Bool
  | .non | .bl _ | .int _ | .str _ | .ref _ => true
  | _ => false
theorem th_pl (r : qTh.r K F v a) : plV v = true ∧ decide (v = .non) = thNon a ∧ ∀ c, decide (v = .bl c) = thIsB a c := by
  cases a with
  | dct =>
    obtain ⟨p, rfl, _⟩ := r
    exact ⟨rfl, by simp [thNon], fun c => by simp [thIsB]⟩
  | d x =>
    cases x with
    | none => cases (show Dp K F v .none from r); exact ⟨rfl, by simp [thNon], fun c => by simp [thIsB]⟩
    | bool b => cases (show Dp K F v (.bool b) from r); exact ⟨rfl, by simp [thNon], fun c => by simp [thIsB]⟩
    | int b => cases (show Dp K F v (.int b) from r); exact ⟨rfl, by simp [thNon], fun c => by simp [thIsB]⟩
    | str b => cases (show Dp K F v (.str b) from r); exact ⟨rfl, by simp [thNon], fun c => by simp [thIsB]⟩
    | list b =>
      cases (show Dp K F v (.list b) from r) with
      | lst h _ => exact ⟨rfl, by simp [thNon], fun c => by simp [thIsB]⟩
    | tuple b =>
      cases (show Dp K F v (.tuple b) from r) with
      | tup h _ => exact ⟨rfl, by simp [thNon], fun c => by simp [thIsB]⟩
    | dict b => cases (show Dp K F v (.dict b) from r)
def rIsBv : R2 := fun x y H Q => ∃ c, y = .bl c ∧ plV x = true ∧ Q (.bl (decide (x = .bl c))) H
theorem op_isBv {X : Cx} : OpR X (compareOp .Is) rIsBv := by
  intro pins s σ H x y v u Q I rx ry h
  obtain ⟨c, rfl, hp, q⟩ := h
  cases ry
  cases x with
  | non => cases rx; exact wpAny_is_plain (by rfl) (fin_bl I q (by simp))
  | bl b =>
    cases rx
    refine wpAny_is_plain (by rfl) (fin_bl I q ?_)
    cases b <;> cases c <;> rfl
  | int i => obtain ⟨t, rfl⟩ := rx; exact wpAny_is_plain (by rfl) (fin_bl I q (by simp))
  | str i => obtain ⟨t, rfl⟩ := rx; exact wpAny_is_plain (by rfl) (fin_bl I q (by simp))
  | ref i => cases rx; exact wpAny_is_plain (by rfl) (fin_bl I q (by simp))
  | _ => cases hp
theorem rd_isBTh {c : Bool} (r : qTh.r K F v a) (k : Q (.bl (thIsB a c)) H) : rIsBv v (.bl c) H Q := ⟨c, rfl, (th_pl r).1, by rw [(th_pl r).2.2 c]; exact k⟩
theorem rd_isNTh (r : qTh.r K F v a) (k : Q (.bl (thNon a)) H) : rIsN0 v .non H Q := ⟨rfl, by rw [(th_pl r).2.1]; exact k⟩
end
/-! ## properties of own classes -/
def prA (K : PySem.W.Frag) (C f : Str) : Addr := match PySem.W.findIn K (.ref (He.ga K C)) f with
  | some (some (.ref p)) => p
  | _ => 0
def geA (K : PySem.W.Frag) (C f : Str) : Addr := match PySem.W.recIn K (prA K C f) "property" with
  | some (.ref g :: _) => g
  | _ => 0
def fnG (K : PySem.W.Frag) (C f : Str) : He.FnW := match K.lookup (geA K C f) with
  | some ⟨_, _, .func z, _⟩ => some (z.name, z.qualname, z.params, z.body, z.scope, z.globals, z.closure, z.builtins)
  | _ => none
def fdG (K : PySem.W.Frag) (C f : Str) : FuncData := match K.lookup (geA K C f) with
  | some ⟨_, _, .func z, _⟩ => z
  | _ => fdDefault
def prB (K : PySem.W.Frag) (C f q : Str) : Bool :=
  He.eqO (PySem.W.findIn K (.ref (He.ga K C)) f) (some (some (.ref (prA K C f)))) && (He.eqO (PySem.W.specialIn K (.ref (prA K C f)) "__get__") (some (some (.builtin "property.__get__"))) && (decide (PySem.W.takesIn K (.ref (prA K C f)) = some true) &&
  ((match PySem.W.recIn K (prA K C f) "property" with
    | some (.ref g :: _) => decide (g = geA K C f)
    | _ => false) && (PySem.W.keepIn K (.ref (geA K C f)) && (match K.lookup (geA K C f) with
    | some ⟨_, _, .func z, _⟩ => PySem.W.codeIn K z.code q && (He.dflB K z.defaults [] && He.kwdB K z.kwdefaults [])
    | _ => false)))))
structure Pr (K : PySem.W.Frag) (C f q : Str) (st : Stmt) : Prop where
  p : PropOf K (He.ga K C) f (prA K C f) (geA K C f)
  F : FunD K f q (defArgs st) (defBody st) (defScope st) [] [] (geA K C f) (fdG K C f)
theorem pr_ok {K : PySem.W.Frag} {C f q : Str} {st : Stmt} (c : prB K C f q = true) (e : fnG K C f = some (f, q, defArgs st, FuncBody.stmts (defBody st), defScope st, mainGlobals, [], builtinsNs)) : Pr K C f q st := by
  unfold prB at c
  obtain ⟨c1, c⟩ := He.ba c
  obtain ⟨c2, c⟩ := He.ba c
  obtain ⟨c3, c⟩ := He.ba c
  obtain ⟨c4, c⟩ := He.ba c
  obtain ⟨c5, c6⟩ := He.ba c
  refine ⟨⟨He.eqO_ok c1, He.eqO_ok c2, of_decide_eq_true c3, ?_⟩, ?_⟩
  · revert c4
    split
    · rename_i g r hr
      intro c4
      exact ⟨r, by rw [hr, of_decide_eq_true c4]⟩
    · intro c4; cases c4
  · unfold fnG at e
    cases hl : K.lookup (geA K C f) with
    | none => rw [hl] at e; cases e
    | some o =>
      obtain ⟨oc, od, dt, osl⟩ := o
      rw [hl] at e c6
      cases dt with
      | func z =>
        have hz : fdG K C f = z := by unfold fdG; rw [hl]
        rw [hz]
        obtain ⟨n1, n2, n3, n4, n5, n6, n7, n8, n9, n10, n11, n12, n13, n14, n15⟩ := z
        have e2 : (some (n1, n2, n3, n4, n5, n6, n7, n15) : He.FnW) = some (f, q, defArgs st, FuncBody.stmts (defBody st), defScope st, mainGlobals, [], builtinsNs) := e
        simp only [Option.some.injEq, Prod.mk.injEq] at e2
        obtain ⟨g1, g2, g3, g4, g5, g6, g7, g8⟩ := e2
        subst g1 g2 g3 g4 g5 g6 g7 g8
        obtain ⟨d1, d2⟩ := He.ba (show (PySem.W.codeIn K n13 _ && (He.dflB K n8 [] && He.kwdB K n9 [])) = true from c6)
        obtain ⟨d3, d4⟩ := He.ba d2
        exact ⟨⟨oc, od, n8, n9, n10, n11, n12, n13, n14, osl, rfl, hl, d1, He.dflB_ok d3, He.kwdB_ok d4⟩, c5⟩
      | _ => cases e
section
variable {K : PySem.W.Frag} {P : Addr → Prop} {F0 H0 F H : Hp} {Q : VK} {σ : L2.St} {C p dx : Addr} {sp : Sp} {dvs : List V} {E : XK} {ta : TE} {fs : List (Str × V)}
def prK (C : Addr) (sp : Sp) (dvs : List V) (E : XK) (Q : VK) : VK := fun x H1 => ∃ a dx fs, x = .ref a ∧ H1 a = some (.ins C dx fs) ∧ sp (.ref a :: dvs) H1 Q E
theorem rd_prop (k : ta σ H (prK C sp dvs E Q)) : tProp C sp dvs E ta σ H Q := k
theorem pr_at (h : H p = some (.ins C dx fs)) (k : sp (.ref p :: dvs) H Q E) : prK C sp dvs E Q (.ref p) H := ⟨p, dx, fs, rfl, h, k⟩
/-! ## C(e, .., k = v, ..) -/
variable {n m : Nat} {gV : List V → List V → List V} {t tk : TA} {vs zs rest : List V}
def mkKk (C : Addr) (n m : Nat) (sp : Sp) (gV : List V → List V → List V) (E : XK) (Q : VK) (vs zs : List V) (H2 : Hp) : Prop := vs.length = n ∧ zs.length = m ∧ ∀ x dx, H2 x = none → H2 dx = none → dx ≠ x → sp (gV (.ref x :: vs) zs) (upd (upd H2 dx (.own x)) x (.ins C dx [])) (fun v H3 => v = .non ∧ Q (.ref x) H3) E
theorem rd_makeK (k : t σ H fun vs H1 => tk σ H1 fun zs H2 => mkKk C n m sp gV E Q vs zs H2) : tMakeK C n m sp gV E t tk σ H Q := k
theorem mkk_at (h1 : vs.length = n) (h2 : zs.length = m) (e : ∀ x, gV (.ref x :: vs) zs = .ref x :: rest) (k : mkK C sp E Q rest H) : mkKk C n m sp gV E Q vs zs H := ⟨h1, h2, fun x dx a b c => by rw [e]; exact k x dx a b c⟩
end
def k2 {α β : Type} {A : R α} {B : R β} (D : Kd A) (G : Kd B) (hd : ∀ a, (D.k a).depth ≤ 3) (hg : ∀ a, (G.k a).depth ≤ 3) : Kd (q2 A B) := ⟨fun x => .tup [D.k x.1, G.k x.2], fun {K F v a} h => by
    obtain ⟨p, u, w, rfl, h1, h2, h3⟩ := h
    exact .tup h1 (.cons (D.is h2) (.cons (G.is h3) .nil)), fun a b h => by
    have e := NestedKey.tup.inj h
    obtain ⟨e1, e2⟩ := List.cons.inj e
    obtain ⟨e2, _⟩ := List.cons.inj e2
    exact Prod.ext (D.inj _ _ e1) (G.inj _ _ e2), fun a => by
    rw [NestedKey.depth]
    have h1 := hd a.1
    have h2 := hg a.2
    simp only [NestedKey.depthAll]
    omega⟩
/-! ## own lists of unlike things -/
section
variable {K : PySem.W.Frag} {P : Addr → Prop} {F0 H0 F H : Hp} {p : Addr} {us : List V} {u : V} {Q : VK} {i : Int} {α : Type} {B : RR α} {a : α}
theorem rd_ixO (w : Ow P H0 F H p (.lst us)) (e : atI us i = some u) (k : Q u H) : rIxL K (.ref p) (.int i) H Q := ⟨p, us, i, u, rfl, rfl, SqL.of w.at_, e, k⟩
theorem rd_setO {R : Hp → Prop} {us' : List V} {j : Nat} (S : Sx P F0 H0 F H) (w : Ow P H0 F H p (.lst us)) (e : ixN us.length i = some j) (e2 : us.set j u = us') (k : ∀ H', Sx (fun a => a = p) F H F H' → Ow P H0 F H' p (.lst us') → R H') : rSetL (.ref p) (.int i) u H R :=
  ⟨p, us, i, j, rfl, rfl, w.at_, e, by rw [e2]; exact k _ (putS S w) w.put⟩
theorem fzRec (S : Sx P F0 H0 F H) (w : Ow P H0 F H p (.lst us)) (h0 : H0 p = none) (row : B.r K F us a) : ∃ F', Sx P F0 H0 F' H ∧ Same F F' ∧ (qLr B).r K F' (.ref p) a ∧ ∀ q, q ≠ p → F' q = F q :=
  ⟨_, S.freeze w h0, w.leF, ⟨p, us, rfl, upd_same, B.mono w.leF row⟩, fun _ n => upd_ne n⟩
end
/-! ## the order of tuples of unlike things -/
class OrdR {α : Type} {B : RR α} (E : DatR B) where
  n : Nat
  al : ∀ a b, PySem.W.alikeAll (E.d a) (E.d b) = true
  dep : ∀ a, PyData.depthAll (E.d a) ≤ n
instance orE1 {α : Type} {A : R α} {D : Dat A} [o : Ord1 D] : OrdR (e1 D) where
  n := o.n
  al := fun a b => by
    show PySem.W.alikeAll [D.d a] [D.d b] = true
    simp [PySem.W.alikeAll, o.al]
  dep := fun a => by
    show PyData.depthAll [D.d a] ≤ _
    have := o.dep a
    simp only [PyData.depthAll]
    omega
instance orEc {α β : Type} {A : R α} {B : RR β} {D : Dat A} {E : DatR B} [o : Ord1 D] [p : OrdR E] : OrdR (ec D E) where
  n := max o.n p.n
  al := fun a b => by
    show PySem.W.alikeAll (D.d a.1 :: E.d a.2) (D.d b.1 :: E.d b.2) = true
    rw [PySem.W.alikeAll, o.al, p.al]; rfl
  dep := fun a => by
    show PyData.depthAll (D.d a.1 :: E.d a.2) ≤ _
    have h1 := o.dep a.1
    have h2 := p.dep a.2
    simp only [PyData.depthAll]
    omega
instance orTr {α β : Type} {A : R α} {B : RR β} {D : Dat A} {E : DatR B} [o : Ord1 D] [p : OrdR E] : Ordd (dTr (ec D E)) where
  n := max o.n p.n + 1
  al := fun a b => by
    show PySem.W.alike (.tuple ((ec D E).d a)) (.tuple ((ec D E).d b)) = true
    rw [PySem.W.alike]; exact (orEc (D := D) (E := E)).al a b
  dep := fun a => by
    show (PyData.tuple ((ec D E).d a)).depth ≤ _
    rw [PyData.depth]
    have := (orEc (D := D) (E := E)).dep a
    exact Nat.succ_le_succ this
  srt := fun bs => PySem.W.Sortable.tuples fun b => ⟨_, _, rfl⟩
section
variable {K : PySem.W.Frag} {x qual : Str} {params : Arguments} {body : List Stmt} {scope : Scope} {dvs : List V} {f : Addr} {fd : FuncData} {ps : List Str}
/-- f(e, .., k = v) with k a plain parameter -/
theorem kbD (F : FunD K x qual params body scope dvs [] f fd) (n : Nat) (ks : List Str) {g : List Value → List Value → List Value} {gV : List V → List V → List V} (hd : dvs ≠ [])
    (hrel : ∀ {vs : List V} {us : List Value} {zs : List V} {ws : List Value}, Vals vs us → Vals zs ws → Vals (gV vs zs) (g us ws))
    (h : ∀ (T : Addr) (kV doc pm : Value) (an : Option Addr) (cdv ct : Value) (us its ws : List Value), us.length = n → its.length = dvs.length → ws.length = ks.length →
      ∃ k, bindArgs (PySem.W.fnOf x qual params body scope (.ref T) kV doc pm an cdv ct) ⟨us, ks.zip ws⟩ = seqItems? (.ref T) >>= k ∧ k (some its.toArray) = pure (ps.zip (g us ws))) : KBn K fd ps n ks g gV := by
  obtain ⟨oc, od, dV, kV, doc, pm, an, cdv, ct, osl, rfl, lk, hcd, hD, hK⟩ := F.ex
  rcases hD with ⟨e, _⟩ | ⟨_, T, o, its, m, rfl, lT, oT, rT⟩
  · exact absurd e hd
  · refine ⟨fun s us ws X l1 l2 => ?_, fun r1 r2 => hrel r1 r2⟩
    obtain ⟨k, e1, e2⟩ := h T kV doc pm an cdv ct us its ws l1 rT.length.symm l2
    refine BindsTo.of_looks fun M => ?_
    rw [e1]
    exact looks_items X lT oT (.of_pure e2)
theorem binds_nil {ds : List Value} (h : Vals [] ds) (b : Binds K fd ps ds) : Binds K fd ps [] := by
  cases h; exact b
end
end Gl
namespace Gl
open PySem PySem.Spec PyProof.Rows L2 C8
/-! ## f(.., **d): the keywords of a dict -/
section
variable {prog : Program} {w : World} {A : Around} {E : Value → Shared → Prop} {s : Shared}
theorem find_fresh {d : Addr} {o : Obj} {es : Array DictEntry} {ep : Nat} {kvs : List (Key × Value)} {k : Key} {key : Value} {Q : Option Nat → Shared → Prop} (hkey : (mixKind prog w).is k key = true) (ho : s.heap.get? d = some o) (hd : o.data = .dict es ep)
    (hk : KeysOf (mixKind prog w) es) (hp : Pairs (mixKind prog w) es.toList kvs) (hn : k ∉ kvs.map (·.1)) (h : Q none s) : wpAny (model prog w) A (dictFind d key ((mixKind prog w).hash k)) Q E s := by
  refine wpAny_dictFind_of hkey ho hd hk ?_
  have hidx : (es.findIdx? fun e => (mixKind prog w).is k e.key) = kvs.findIdx? fun kv => decide (kv.1 = k) := by
    rw [← hp.findIdx k]; obtain ⟨l⟩ := es; simp
  have : kvs.findIdx? (fun kv => decide (kv.1 = k)) = none := List.findIdx?_eq_none_iff.mpr fun x hx => decide_eq_false fun e => hn (List.mem_map.mpr ⟨x, hx, e⟩)
  rw [hidx, this]; exact h
theorem put_fresh {d : Addr} {kvs : List (Key × Value)} {k : Key} {key v : Value} {Q : Unit → Shared → Prop} (hkey : (mixKind prog w).is k key = true) (hm : s.heap.DictOf (mixKind prog w) d kvs) (hn : k ∉ kvs.map (·.1)) (hsz : kvs.length ≤ sizeLine)
    (hQ : ∀ h', h'.DictOf (mixKind prog w) d (kvs ++ [(k, v)]) → Heap.SameBut d s.heap h' → Q () { s with heap := h' }) :
    wpAny (model prog w) A (dictPut d ((mixKind prog w).hash k) key v) Q E s := by
  obtain ⟨o, es, ep, ho, hc, hd, hk, hp, hnd⟩ := id hm
  have hes : es.size ≤ sizeLine := by
    have e1 := hp.length
    have e2 : es.toList.length = es.size := by simp
    omega
  unfold dictPut
  refine wpAny_bind (find_fresh hkey ho hd hk hp hn ?_)
  refine wpAny_updateDictKeys (hz := hes) ho hd (hQ _ ⟨_, _, ep + 1, Heap.get?_update_self _ ho (Obj.isFreed_of_dict (Obj.data_mapDictKeys hd _)), hc.mapDictKeys _, Obj.data_mapDictKeys hd _, hk.push hkey _, ?_, ?_⟩ (Heap.SameBut.update ..))
  · have := hp.append hkey ((mixKind prog w).hash k) v
    obtain ⟨l⟩ := es
    simpa using this
  · rw [List.map_append, List.nodup_append]
    refine ⟨hnd, by simp, fun a ha b hb e => hn ?_⟩
    simp only [List.map_cons, List.map_nil, List.mem_singleton] at hb
    rw [← hb, ← e]; exact ha
theorem merge_unique {d o : Addr} {more : List (Key × Value)} {Q : Unit → Shared → Prop} (hdo : d ≠ o) (hoS : (o == sysModules) = false) (hd : s.heap.DictOf (mixKind prog w) d []) (ho : s.heap.DictOf (mixKind prog w) o more) (hsz : more.length ≤ sizeLine)
    (hQ : ∀ h', h'.DictOf (mixKind prog w) d more → Heap.SameBut d s.heap h' → Q () { s with heap := h' }) : wpAny (model prog w) A (mergeMapping d (.ref o) true) Q E s := by
  obtain ⟨od, esd, epd, hod, hcd, hdd, hkd, hpd, hnd⟩ := id hd
  obtain ⟨oo, eso, epo, hoo, hco, hdo', hko, hpo, hno⟩ := id ho
  have hlen : more.length = eso.size := by rw [← hpo.length]; simp
  unfold mergeMapping
  refine wpAny_bind (wpAny_isInstance ho.typeIs isSubtype_dict_dict ?_)
  rw [if_pos rfl]
  refine wpAny_bind (wpAny_specialOf ho.typeIs F.slot_dict_iter.lookup (wpAny_bind (wpAny_pure ?_)))
  rw [show ((some (Value.builtin "dict.__iter__") : Option Value) == some (Value.builtin "dict.__iter__")) = true from beq_self_eq_true _]
  dsimp only
  rw [if_neg (by rw [hoS]; exact Bool.false_ne_true)]
  refine wpAny_bind (wpAny_dictEntries hod hdd ?_)
  have h0 : esd = #[] := by
    have := hpd.length
    exact Array.eq_empty_of_size_eq_zero (by simpa using this)
  rw [if_pos (by rw [h0]; rfl)]
  refine wpAny_bind (wpAny_dictEntries hoo hdo' ?_)
  have key : ∀ e ∈ eso.toList, ∃ k, (mixKind prog w).is k e.key = true ∧ e.hash = (mixKind prog w).hash k := fun e he => hko e (Array.mem_toList_iff.mp he)
  refine wpAny_bind (wpAny_of_eq (a := PUnit.unit) ?_ ?_)
  · rw [← Array.forIn_toList]
    refine forIn_yield_id _ fun e he c => ?_
    obtain ⟨k, hkey, _⟩ := key e he
    rcases keyIs_shape hkey with ⟨i, t, _, e2⟩ | ⟨x, t, _, e2⟩ <;> rw [e2]
  refine wpAny_bind (wpAny_dictEntries hoo hdo' (wpAny_bind (wpAny_dictEpoch hoo hdo' (wpAny_bind ?_))))
  refine wpAny_forIn_list _
    (fun rest _ s' => ∃ h' i, s' = { s with heap := h' } ∧ rest = List.range' i (eso.size - i) ∧ i ≤ eso.size ∧ h'.DictOf (mixKind prog w) d (more.take i) ∧ h'.get? o = some oo ∧ Heap.SameBut d s.heap h')
    _ ?_ ?_ _ _ ⟨s.heap, 0, rfl, by rw [List.range_eq_range', Nat.sub_zero], Nat.zero_le _, by rw [List.take_zero]; exact hd, hoo, Heap.SameBut.refl _ _⟩
  · rintro x rest b s' ⟨h', i, rfl, hr, hi, hd', hoo', hs'⟩
    have hlt : i < eso.size := by
      rcases Nat.lt_or_ge i eso.size with h | h
      · exact h
      · rw [Nat.sub_eq_zero_of_le h] at hr; cases hr
    obtain ⟨rfl, hrest⟩ : x = i ∧ rest = List.range' (i + 1) (eso.size - (i + 1)) := by
      have e : eso.size - i = (eso.size - (i + 1)) + 1 := by omega
      rw [e, List.range'_succ] at hr
      exact ⟨(List.cons.inj hr).1, (List.cons.inj hr).2⟩
    refine wpAny_bind (wpAny_dictEntries hoo' hdo' ?_)
    rw [Array.getElem?_eq_getElem hlt]
    obtain ⟨kv, hkv⟩ : ∃ kv, more[x]? = some kv := ⟨more[x]'(by rw [hlen]; exact hlt), List.getElem?_eq_getElem _⟩
    obtain ⟨k, v⟩ := kv
    obtain ⟨hkey, hval⟩ := hpo.get? (e := eso[x]) (by simp [hlt]) hkv
    obtain ⟨k', hkey', hhash⟩ := hko eso[x] (Array.getElem_mem hlt)
    obtain rfl : k' = k := (mixKind prog w).inj _ _ _ hkey' hkey
    have lt : (more.take x).length ≤ more.length := by rw [List.length_take]; omega
    have hx : x < more.length := by omega
    have hfr : k' ∉ (more.take x).map (·.1) := fun hm => by
      have hp := hno
      rw [← List.take_append_drop x more, List.map_append, List.nodup_append] at hp
      have hmem : k' ∈ (more.drop x).map (·.1) := List.mem_map.mpr ⟨(k', v), by
        have : more.drop x = (k', v) :: more.drop (x + 1) := by
          rw [List.drop_eq_getElem_cons hx]
          congr 1
          have := List.getElem?_eq_getElem hx
          rw [hkv] at this
          exact (Option.some.inj this).symm
        rw [this]; exact List.mem_cons_self, rfl⟩
      exact hp.2.2 _ hm _ hmem rfl
    obtain ⟨od', es', ep', hod', _, hdd', hk', hp', _⟩ := id hd'
    have tk : more.take (x + 1) = more.take x ++ [(k', v)] := by rw [List.take_add_one, hkv]; rfl
    dsimp only
    rw [if_pos rfl, hhash, hval]
    refine wpAny_bind (wpAny_holding (wpAny_bind (find_fresh hkey hod' hdd' hk' hp' hfr ?_)))
    rw [if_neg (by decide)]
    refine put_fresh hkey hd' hfr (by omega) fun h'' hd'' hs'' => ?_
    have hoo'' : h''.get? o = some oo := (hs''.2 o (Ne.symm hdo)).trans hoo'
    refine wpAny_bind (wpAny_dictEpoch hoo'' hdo' ?_)
    rw [if_neg (by simp)]
    exact wpAny_pure ⟨h'', x + 1, rfl, hrest, hlt, by rw [tk]; exact hd'', hoo'', hs'.trans hs''⟩
  · rintro b s' ⟨h', i, rfl, hr, hi, hd', hoo', hs'⟩
    have hin : i = eso.size := by
      rcases Nat.lt_or_ge i eso.size with h | h
      · have e : eso.size - i = (eso.size - (i + 1)) + 1 := by omega
        rw [e, List.range'_succ] at hr; cases hr
      · exact Nat.le_antisymm hi h
    refine wpAny_pure (hQ h' ?_ hs')
    rw [hin, ← hlen, List.take_length] at hd'; exact hd'
/-- the strings among the keys, with their values -/
def strKeys (more : List (Str × Value)) : List (Key × Value) := more.map fun x => (.inr x.1, x.2)
theorem keywords_of {f : Value} {d : Addr} {more : List (Str × Value)} {Q : List (Str × Value) → Shared → Prop} (hd : s.heap.DictOf (mixKind prog w) d (strKeys more)) (h : Q more s) : wpAny (model prog w) A (keywordsIn f d) Q E s := by
  obtain ⟨o, es, ep, ho, hc, hdd, hk, hp, hn⟩ := hd
  unfold keywordsIn
  refine wpAny_bind (wpAny_dictEntries ho hdd ?_)
  dsimp only
  rw [← Array.forIn_toList]
  refine wpAny_bind (wpAny_forIn_list _ (fun rest acc s' => s' = s ∧ ∃ m, Pairs (mixKind prog w) rest (strKeys m) ∧ acc ++ m = more) _ ?_ ?_ _ _ ⟨rfl, more, hp, List.nil_append _⟩)
  · rintro e rest acc s' ⟨rfl, m, hm, rfl⟩
    cases m with
    | nil => cases hm
    | cons x m =>
      cases hm with
      | cons h1 h2 h3 =>
        obtain ⟨eh, ek, ev⟩ := e
        rcases keyIs_shape (k := .inr x.1) (v := ek) h1 with ⟨i, t, e1, e2⟩ | ⟨y, t, e1, e2⟩
        · cases e1
        · cases e1
          subst e2
          have h2 : ev = x.2 := h2
          subst h2
          exact wpAny_pure ⟨rfl, m, h3, by rw [List.append_assoc]; rfl⟩
  · rintro acc s' ⟨rfl, m, hm, rfl⟩
    cases m with
    | nil => rw [List.append_nil] at h; exact wpAny_pure h
    | cons x m => cases hm
theorem merged_one {f : Value} {x : Sem Value} {Q : Addr → Shared → Prop} (h : wpAny (model prog w) A x (fun v s1 => ∃ o more, v = .ref o ∧ s.heap.objs.size ≠ o ∧ (o == sysModules) = false ∧ s1.heap.DictOf (mixKind prog w) s.heap.objs.size [] ∧ s1.heap.DictOf (mixKind prog w) o more ∧ more.length ≤ sizeLine ∧
      ∀ h', h'.DictOf (mixKind prog w) s.heap.objs.size more → Heap.SameBut s.heap.objs.size s1.heap h' → Q s.heap.objs.size { s1 with heap := h' }) E { s with heap := s.heap.push { cls := .type "dict", data := .dict #[] } }) :
    wpAny (model prog w) A (mergedKeywords f [(none, x)]) Q E s := by
  unfold mergedKeywords
  refine wpAny_bind (wpAny_alloc (wpAny_bind (wpAny_holding ?_)))
  dsimp only
  refine wpAny_bind ?_
  rw [List.forIn_cons]
  dsimp only
  rw [if_pos (by rfl)]
  refine wpAny_bind (wpAny_bind (wpAny_pure (wpAny_bind (wpAny_mono h (fun v s1 ⟨o, more, e, n1, n2, d1, d2, l, hQ⟩ => ?_) fun _ _ z => z))))
  subst e
  refine wpAny_bind (wpAny_onRaise (wpAny_holding (wpAny_tryCatch (wpAny_onRaise (merge_unique n1 n2 d1 d2 l fun h' d3 sb => ?_)))))
  refine wpAny_pure ?_
  dsimp only
  rw [List.forIn_nil]
  refine wpAny_pure ?_
  rw [if_pos (by rfl)]
  refine wpAny_pure (wpAny_pure (hQ h' d3 sb))
theorem args_star {env : Env} {f : Value} {pos kp : Pos} {e de : Expr} {rest : List Expr} {Q : Args → Shared → Prop}
    (h : wpAny (model prog w) A (spliced (backTo pos (starEach (e :: rest) env))) (fun vs s1 => wpAny (model prog w) A (eval de env) (fun v s2 => ∃ o more, v = .ref o ∧ s1.heap.objs.size ≠ o ∧ (o == sysModules) = false ∧ s2.heap.DictOf (mixKind prog w) s1.heap.objs.size [] ∧ s2.heap.DictOf (mixKind prog w) o (strKeys more) ∧ (strKeys more).length ≤ sizeLine ∧
      ∀ h', h'.DictOf (mixKind prog w) s1.heap.objs.size (strKeys more) → Heap.SameBut s1.heap.objs.size s2.heap h' → Q ⟨vs, more⟩ { s2 with heap := h' }) E { s1 with heap := s1.heap.push { cls := .type "dict", data := .dict #[] } }) E s)
    (he : starEach (e :: rest) env = (false, eval e env) :: starEach rest env := by rfl) :
    wpAny (model prog w) A (evalArgs f true (backTo pos (starEach (e :: rest) env)) (backToKw pos (keywordEach [⟨none, de, kp⟩] env))) Q E s := by
  rw [he] at h ⊢
  show wpAny _ _ (evalArgs f true ((false, eval e env) :: backTo pos (starEach rest env)) [(none, do let v ← eval de env; standAt pos; pure v)]) _ _ _
  have h : wpAny (model prog w) A (spliced ((false, eval e env) :: backTo pos (starEach rest env))) _ E s := h
  unfold evalArgs
  generalize spliced ((false, eval e env) :: backTo pos (starEach rest env)) = sp at h ⊢
  refine wpAny_bind (wpAny_mono h (fun vs s1 h1 => wpAny_bind (wpAny_pure ?_)) fun _ _ z => z)
  dsimp only
  refine wpAny_holding ?_
  rw [if_neg (fun z => by cases z)]
  refine wpAny_bind (merged_one (wpAny_bind (wpAny_mono h1 (fun v s2 ⟨o, more, e1, n1, n2, d1, d2, l, hQ⟩ => wpAny_bind (wpAny_standAt (wpAny_pure ⟨o, strKeys more, e1, n1, n2, d1, d2, l, fun h' d3 sb => ?_⟩))) fun _ _ z => z)))
  refine wpAny_bind (wpAny_pure ?_)
  exact wpAny_bind (wpAny_holding (keywords_of d3 (wpAny_pure (hQ h' d3 sb))))
theorem call_star {P : Heap → Prop} {f : Value} {first : List Value} {pos : Pos} {Q : Value → Shared → Prop} {args : List (Bool × Sem Value)} {kws : List (Option Str × Sem Value)} (hst : kws.any (·.1.isNone) = true)
    (hk : ∀ h, P h → ∃ k, (k = Keeper.frame ∨ k = Keeper.machine ∨ k = Keeper.boundFrame) ∧ PySem.W.Looks (model prog w) h (keeperOf f) k)
    (h : wpAny (model prog w) A (evalArgs f true args kws) (fun a s1 => P s1.heap ∧ wpAny (model prog w) A (call f (first ++ a.pos) a.kw) Q E s1) E s) : wpAny (model prog w) A (callWith pos f first args kws) Q E s := by
  unfold callWith
  refine wpAny_bind (wpAny_holding (wpAny_mono h (fun a s1 ⟨hp, hc⟩ => wpAny_bind (wpAny_standAt ?_)) fun _ _ x => x))
  obtain ⟨k, hk2, L⟩ := hk _ hp
  rw [hst, Bool.or_true]
  refine wpAny_bind (L.here ?_)
  have out : ∀ {t : Sem Value}, wpAny (model prog w) A t Q E s1 → wpAny (model prog w) A (t >>= fun r => holding [r] point >>= fun _ => pure r) Q E s1 := fun ht =>
    wpAny_bind (wpAny_mono ht (fun r s2 hr => wpAny_bind (wpAny_holding (wpAny_point (wpAny_pure hr)))) fun _ _ x => x)
  have mkd : ∀ v : Value, wpAny (model prog w) A (callMarked v f (first ++ a.pos) a.kw) Q E s1 := fun v => by
    unfold callMarked
    exact Calls.wpAny_keep hc
  rcases hk2 with rfl | rfl | rfl <;> dsimp only <;> first | exact out (mkd _) | exact out (wpAny_operating hc)
end
theorem kv_str {ks : List Str} : ∀ {kvs : List (Key × V)} {vs : List (Key × Value)}, KV kvs vs → kvs.map (·.1) = ks.map .inr → vs = strKeys (ks.zip (vs.map (·.2))) ∧ Vals (kvs.map (·.2)) (vs.map (·.2)) ∧ vs.length = ks.length := by
  induction ks with
  | nil =>
    intro kvs vs h e
    cases kvs with
    | nil => cases h; exact ⟨rfl, .nil, rfl⟩
    | cons x kvs => cases e
  | cons k ks ih =>
    intro kvs vs h e
    cases kvs with
    | nil => cases e
    | cons x kvs =>
      cases h with
      | @cons _ y _ ys h1 h2 =>
        have e1 : x.1 = .inr k := (List.cons.inj e).1
        obtain ⟨i1, i2, i3⟩ := ih h2 (List.cons.inj e).2
        refine ⟨?_, .cons h1.2 i2, by rw [List.length_cons, i3]; rfl⟩
        show y :: ys = (.inr k, y.2) :: strKeys (ks.zip (ys.map (·.2)))
        rw [← i1, ← e1, h1.1]
/-- C(e, .., **d): a dict of its own between -/
def tMakeW (C : Addr) (n : Nat) (ks : List Str) (sp : Sp) (gV : List V → List V → List V) (E : XK) (t : TA) (td : TE) : TE := fun σ H Q => t σ H fun vs H1 => ∀ p, H1 p = none → td σ (upd H1 p (.dK [])) fun y H2 =>
  ∃ (o : Addr) (kvs : List (Key × V)), y = .ref o ∧ p ≠ o ∧ H2 p = some (.dK []) ∧ Rd H2 o (.dK kvs) ∧ kvs.map (·.1) = ks.map .inr ∧ vs.length = n ∧ ∀ x dx, upd H2 p (.dK kvs) x = none → upd H2 p (.dK kvs) dx = none → dx ≠ x →
    sp (gV (.ref x :: vs) (kvs.map (·.2))) (upd (upd (upd H2 p (.dK kvs)) dx (.own x)) x (.ins C dx [])) (fun v H3 => v = .non ∧ Q (.ref x) H3) E
section
variable {X : Cx} {CX : CXT} {k n : Nat} {f C : Addr} {fd : FuncData} {ps ks : List Str} {sp : Sp} {E : XK} {x : Str} {p pos kp : Pos} {e de : Expr} {es : List Expr} {t : TA} {td : TE} {g : List Value → List Value → List Value} {gV : List V → List V → List V}
theorem pe_makeW (M : Mk X.K C f) (F : FnOk X.prog X.w X.K X.mg X.base CX k f fd ps sp) (hr : Room (k + 1) X.A) (hg : Gl X x) (hm : X.mg x = some (.ref C)) (hb : KBn X.K fd ps (n + 1) ks g gV) (hx : Passes CX X E) (ha : PA X (e :: es) t) (hd : PE X de td)
    (hdb : (x == ("__debug__" : Str)) = false := by decide) (he : starEach (e :: es) X.env = (false, eval e X.env) :: starEach es X.env := by rfl) :
    PE X (.Call (.Name x p) (e :: es) [⟨none, de, kp⟩] pos) (tMakeW C n ks sp gV E t td) := by
  refine ⟨fun pins s σ H Q I h => ?_⟩
  refine wpAny_Call_Name_kw (ld_glob I hg hm ?_ hdb)
  refine call_star (P := fun h => X.K.In h) (by rfl) (PySem.W.keeps_K M.kp) (args_star (thn (ha.run pos pins s σ H _ I h) fun us s1 ⟨vs, H1, I1, r, q⟩ => ?_) he)
  have hn := I1.hok.fresh (Nat.le_refl s1.heap.objs.size)
  have I2 := I1.laid (a := s1.heap.objs.size) (o := .dK []) (h' := s1.heap.push { cls := .type "dict", data := .dict #[] }) (t' := s1.toks) (fun _ _ q => Heap.get?_push_of_some _ q) (Nat.le_refl _) (dk_empty s1.heap I1.big)
  refine thn (hd.run pins _ σ _ _ I2 (q _ hn)) fun v s2 ⟨y, H2, I3, ry, o, kvs, e1, n1, hp, ho, ek, l1, q2⟩ => ?_
  subst e1
  obtain rfl : v = Value.ref o := ry
  obtain ⟨z, hs, xs, rel, dd⟩ := dk_rd I3.hok ho
  obtain ⟨z0, hs0, xs0, rel0, dd0⟩ := dk_of I3.hok hp
  cases rel0
  obtain ⟨j1, j2, j3⟩ := kv_str rel ek
  have lx : xs.length ≤ sizeLine := by rw [← rel.length]; exact z
  rw [j1] at dd lx
  refine ⟨o, _, rfl, n1, hs, dd0, dd, lx, fun h' d3 sb => ?_⟩
  have he2 : ∃ q, h'.get? s1.heap.objs.size = some q := let ⟨q, _, _, hq, _⟩ := d3; ⟨q, hq⟩
  rw [← j1] at d3
  have I4 := d_write (t' := s2.toks) I3 (by rw [hp]; exact True.intro) sb he2 (dk_new z hs0 rel d3)
  exact ⟨I4.kIn, run_makeK M F hr hb hx I4 r j2 l1 (by rw [List.length_map, rel.length, j3]) q2⟩
end
/-! ## xs.remove(x), the items data -/
section
open PySem.MeetsSeq
theorem rm_turns (l : Addr) (its : Array Value) (n : Nat) (x : Value) (q : Value → Bool) (j : Nat) (hj : j < its.size) (hit : q its[j] = true) (hz : its.size ≤ sizeLine) (c : Nat) :
    ∀ i : Nat, j - i = c → i ≤ j → (∀ m (hm : m < its.size), i ≤ m → m < j → q its[m] = false) → Meets (Builtin.«list.remove.loop» ⟨[.ref l, x, rawInt i], []⟩)
      (fun A R s => s.heap.get? l = some { cls := .type "list", data := .seq its n } ∧ (∀ y, y ∈ its → SeqAt.EqAt A.in1 s y x (q y)) ∧ R (.ok (.ret .none)) { s with heap := s.heap.update l (Obj.mapSeq fun ys => ys.eraseIdxIfInBounds j) }) := by
  induction c with
  | zero =>
    intro i hc hij hno prog w A R s hs
    obtain ⟨hp, gs, dn, tk, os⟩ := s
    obtain ⟨hl, hq, hR⟩ := hs
    obtain rfl : i = j := by omega
    wp_walk using wpAny_loadPart' hl
    rw [show its[((i : Nat) : Int).toNat]? = some its[i] by simp [hj]]
    refine wpAny_bind (hq _ (Array.getElem_mem hj) prog w _ _ ?_)
    rw [hit]
    have hz2 : (its.eraseIdxIfInBounds i).size ≤ sizeLine + 1 := Nat.le_trans (size_erased its _) (Nat.le_succ_of_le hz)
    wp_walk using (wpAny_updateSeq hl rfl (hz := hz) (_hz' := hz2)), wpAny_loadPart' hl
    simpa using hR
  | succ c ih =>
    intro i hc hij hno prog w A R s hs
    obtain ⟨hp, gs, dn, tk, os⟩ := s
    obtain ⟨hl, hq, hR⟩ := hs
    have hi : i < its.size := by omega
    wp_walk using wpAny_loadPart' hl
    rw [show its[((i : Nat) : Int).toNat]? = some its[i] by simp [hi]]
    refine wpAny_bind (hq _ (Array.getElem_mem hi) prog w _ _ ?_)
    rw [hno i hi (Nat.le_refl _) (by omega)]
    wp_walk
    rw [show ((i : Int) + 1) = ((i + 1 : Nat) : Int) by push_cast; rfl]
    refine ⟨plainId_quiet plain_remove_loop _, codeAny_builtin entry_remove_loop ?_⟩
    rw [Around.under_plainId plain_remove_loop _]
    exact ih (i + 1) (by omega) (by omega) (fun m hm h1 h2 => hno m hm (by omega) h2) prog w A R _ ⟨hl, hq, hR⟩
theorem rm_meets (l : Addr) (its : Array Value) (n : Nat) (x : Value) (q : Value → Bool) (j : Nat) (hj : j < its.size) (hit : q its[j] = true) (hno : ∀ m (hm : m < its.size), m < j → q its[m] = false) (hz : its.size ≤ sizeLine) :
    Meets (Builtin.«list.remove» ⟨[.ref l, x], []⟩)
      (fun A R s => s.heap.get? l = some { cls := .type "list", data := .seq its n } ∧ (∀ y, y ∈ its → SeqAt.EqAt A.in1 s y x (q y)) ∧ R (.ok (.ret .none)) { s with heap := s.heap.update l (Obj.mapSeq fun ys => ys.eraseIdxIfInBounds j) }) := by
  intro prog w A R s hs
  obtain ⟨hp, gs, dn, tk, os⟩ := s
  obtain ⟨hl, hq, hR⟩ := hs
  wp_walk using wpAny_loadPart' hl
  refine ⟨plainId_quiet plain_remove_loop _, codeAny_builtin entry_remove_loop ?_⟩
  rw [Around.under_plainId plain_remove_loop _]
  exact rm_turns l its n x q j hj hit hz _ 0 rfl (Nat.zero_le _) (fun m hm _ h2 => hno m hm h2) prog w A R _ ⟨hl, hq, hR⟩
end
def rRemD (K : PySem.W.Frag) : V → List V → Hp → VK → Prop := fun x xs H Q => ∃ (l : Addr) (y : V) (us : List V) (d : PyData) (ds : List PyData) (j : Nat) (z : PyData), x = .ref l ∧ xs = [y] ∧ H l = some (.lst us) ∧ DpAll K H us ds ∧ Dp K H y d ∧
  SeqAt.shaped (.list ds) = true ∧ SeqAt.shaped d = true ∧ ds[j]? = some z ∧ PyData.eqv z d = true ∧ (∀ (m : Nat) (z' : PyData), m < j → ds[m]? = some z' → PyData.eqv z' d = false) ∧ Q .non (upd H l (.lst (us.eraseIdx j)))
theorem mt_removeD {X : Cx} (hu : X.A.units + 65 < cLine) : MtR X "list.remove" (rRemD X.K) := by
  intro pins s σ H x xs v ws Q I rx rxs h
  obtain ⟨l, y, us, d, ds, j, z, rfl, rfl, hH, hds, hy, sl, sd, hz, hzj, hno, q⟩ := h
  cases rx
  obtain ⟨uy, rfl, ry⟩ := rxs.one
  obtain ⟨bs, r1⟩ := Dp.reads I d y uy hy ry
  obtain ⟨zl, its, n, r, hl, e⟩ := I.lstM hH
  obtain ⟨as, r4⟩ := Dp.readsAll I ds _ its hds r
  have can := SeqAt.canLay_of_shaped sl
  have hn : its.length = ds.length := SeqAt.ReadsAll.length ds its as r4
  have hmap : its.map (SeqAt.readOf s.heap) = ds := SeqAt.readsAll_map ds its as can r4
  have room : X.A.units + 1 + min (PyData.depthAll ds) d.depth < cLine := room_in_shaped sd hu
  have hjl : j < its.length := by rw [hn]; exact (List.getElem?_eq_some_iff.mp hz).1
  have at_ : ∀ (m : Nat) (hm : m < its.toArray.size) (z' : PyData), ds[m]? = some z' → SeqAt.readOf s.heap its.toArray[m] = z' := by
    intro m hm z' e'
    rw [← hmap, List.getElem?_map, List.getElem?_eq_getElem (by simpa using hm)] at e'
    simpa using e'
  refine call_meets PySem.F.slot_list_remove ⟨_, e, rfl⟩ PySem.F.entry_list_remove (PySem.F.args_list_remove_2 _ _)
    (rm_meets l its.toArray n uy (fun u => PyData.eqv (SeqAt.readOf s.heap u) d) j (by simpa using hjl) (by show PyData.eqv (SeqAt.readOf s.heap its.toArray[j]) d = true; rw [at_ j _ z hz]; exact hzj) (fun m hm hmj => ?_) (by rw [List.size_toArray]; omega))
    ⟨e, SeqAt.items_eqAt (vs := its.toArray) (show ReadsAll s.heap its.toArray.toList ds as from r4) r1 can (SeqAt.canLay_of_shaped sd) room, ?_⟩
  · have e' : ds[m]? = some (ds[m]'(by have : m < its.length := by simpa using hm
                                       omega)) := List.getElem?_eq_getElem _
    show PyData.eqv (SeqAt.readOf s.heap its.toArray[m]) d = false
    rw [at_ m hm _ e']
    exact hno m _ hmj e'
  · refine ⟨.non, _, I.lset (its' := its.eraseIdx j) (t' := s.toks) hH e ?_ (r.eraseIdx j) ?_, rfl, q⟩
    · show its.toArray.eraseIdxIfInBounds j = (its.eraseIdx j).toArray
      rw [List.eraseIdxIfInBounds_toArray]
    · exact Nat.le_trans (List.length_eraseIdx_le _ _) zl
def remL {α : Type} [DecidableEq α] (xs : List α) (a : α) : Option (List α) := (xs.findIdx? fun b => decide (b = a)).map fun j => xs.eraseIdx j
section
variable {K : PySem.W.Frag} {P : Addr → Prop} {F0 H0 F H : Hp} {v u : V} {Q : VK} {α : Type} [DecidableEq α] {A : R α} {p : Addr} {vs : List V}
theorem mt_removeDK {X : Cx} {K : PySem.W.Frag} (hu : X.A.units + 65 < cLine) (hK : X.K = K := by rfl) : MtR X "list.remove" (rRemD K) := by
  subst hK; exact mt_removeD hu
theorem rd_removeD {xs ys : List α} {a : α} {D : Dat A} (S : Sx P F0 H0 F H) (w : Ow P H0 F H p (.lst vs)) (r : Row A K F vs xs) (ra : Dp K H v (D.d a)) (s1 : shp D a = true) (s2 : shp (dL D) xs = true) (h : remL xs a = some ys)
    (k : ∀ H' us, Sx (fun a => a = p) F H F H' → Ow P H0 F H' p (.lst us) → Row A K F us ys → Q .non H') : rRemD K (.ref p) [v] H Q := by
  unfold remL at h
  obtain ⟨j, h1, rfl⟩ := Option.map_eq_some_iff.mp h
  obtain ⟨x, h2, h3, h4⟩ := findIdx_at h1
  refine ⟨p, v, vs, _, xs.map D.d, j, D.d x, rfl, rfl, w.at_, dpAll D (Row.mono S.sub r), ra, s2, s1, by rw [List.getElem?_map, h2]; rfl, by rw [eqv_dec D]; exact h3, fun m z' hm hz' => ?_, k _ _ (putS S w) w.put (pErase j r)⟩
  rw [List.getElem?_map] at hz'
  obtain ⟨x', e1, rfl⟩ := Option.map_eq_some_iff.mp hz'
  rw [eqv_dec D]
  exact h4 m x' hm e1
end
/-! ## o(e, ..), o of a class with __call__ -/
def tCallK (C : Addr) (sp : Sp) (dvs : List V) (E : XK) (tf : TE) (t : TA) : TE := fun σ H Q => tf σ H fun y H1 => ∃ a, y = V.ref a ∧ t σ H1 fun vs H2 => (∃ dx fs, H2 a = some (.ins C dx fs)) ∧ sp (V.ref a :: vs ++ dvs) H2 Q E
section
variable {X : Cx} {CX : CXT} {k : Nat} {g C : Addr} {fd : FuncData} {ps : List Str} {sp : Sp} {E : XK} {fe e : Expr} {es : List Expr} {t : TA} {tf : TE} {pos : Pos} {dvs : List V} {ds : List Value}
theorem fn_in {f : Addr} {nm qual : Str} {params : Arguments} {body : List Stmt} {scope : Scope} {dfl : List V} {kws : List (Str × V)} (F : FunD X.K nm qual params body scope dfl kws f fd) : PySem.W.fnIn X.K f = true := by
  obtain ⟨oc, od, dV, kV, doc, pm, an, cdv, ct, osl, rfl, lk, _⟩ := F.ex
  unfold PySem.W.fnIn
  rw [lk]
theorem pe_callOK (hf : PE X fe tf) (hm : Meth X.K C "__call__" g) (fi : PySem.W.fnIn X.K g = true) (F : FnOk X.prog X.w X.K X.mg X.base CX k g fd ps sp) (hr : Room k X.A) (hb : Binds X.K fd ps ds) (hd : Vals dvs ds) (hx : Passes CX X E) (ha : PA X (e :: es) t)
    (ht : eval (.Call fe (e :: es) [] pos) X.env = (do callWith pos (← eval fe X.env) [] (backTo pos (starEach (e :: es) X.env)) (backToKw pos (keywordEach [] X.env))) := by rfl)
    (he : starEach (e :: es) X.env = (false, eval e X.env) :: starEach es X.env := by rfl) (hpl : (backTo pos (starEach es X.env)).any (·.1) = false := by rfl) : PE X (.Call fe (e :: es) [] pos) (tCallK C sp dvs E tf t) := by
  refine ⟨fun pins s σ H Q I h => ?_⟩
  refine Call_ (thn (hf.run pins s σ H _ I h) fun u s1 ⟨y, H1, I1, ry, a, ey, q⟩ => ?_) ht
  subst ey
  obtain rfl : u = Value.ref a := ry
  refine StX.callO_with (thn (ha.run pos pins s1 σ H1 _ I1 q) fun us s2 ⟨vs, H2, I2, r, ⟨dx, fs, hi⟩, q2⟩ => ?_) he hpl
  obtain ⟨ox, od, J, hp⟩ := StX.insC_at I2 (.inr ⟨dx, fs, hi⟩)
  have r2 : Vals (V.ref a :: vs ++ dvs) (Value.ref a :: us ++ ds) := L2.Vals.append (.cons rfl r) hd
  have hl : (Value.ref a :: us ++ ds).length = ps.length := by rw [← r2.length]; exact F.len _ _ _ _ q2
  refine ⟨⟨C, ox, od, J, hp⟩, wpAny_call (PySem.W.kco_code I2.kIn J hp hm.at_ hm.fn fi (codeAny_mono (F.run X.A X.stack s2 H2 ⟨.ref a :: us, []⟩ (.ref a :: us ++ ds) (.ref a :: vs ++ dvs) Q E hr I2.env0 (hb s2 (.ref a :: us) I2.kIn hl) r2 q2) fun r s' hq => ?_))⟩
  cases r with
  | error e => exact hx pins σ H2 s2 e s' I2 hq
  | ok fl =>
    cases fl with
    | ret u => exact I2.after hq
    | next => exact False.elim hq
    | brk => exact False.elim hq
    | cont => exact False.elim hq
end
/-! ## readings -/
def sdAt (xs : List (Str × Th)) (i : Nat) : Th := ((xs[i]?).map (·.2)).getD (.d .none)
def sdK (xs : List (Str × Th)) (ks : List Str) : Bool := decide (xs.map (·.1) = ks)
theorem SdRow.uncons {K : PySem.W.Frag} {F : Hp} {k : Str} {ks : List Str} {kvs : List (Key × V)} {xs : List (Str × Th)} (r : SdRow K F kvs xs) (e : xs.map (·.1) = k :: ks) : ∃ u kvs' x xs', kvs = (.inr k, u) :: kvs' ∧ xs = (k, x) :: xs' ∧ qTh.r K F u x ∧ SdRow K F kvs' xs' ∧ xs'.map (·.1) = ks := by
  cases r with
  | nil => cases e
  | @cons kv x kvs xs h t =>
    obtain ⟨e1, e2⟩ := List.cons.inj e
    obtain ⟨k1, u⟩ := kv
    obtain ⟨k2, x⟩ := x
    obtain ⟨h1, h2⟩ := h
    dsimp only at e1 h1
    subst e1 h1
    exact ⟨u, kvs, x, xs, rfl, rfl, h2, t, e2⟩
section
variable {K : PySem.W.Frag} {P : Addr → Prop} {F0 H0 F H : Hp} {Q : VK} {σ : L2.St} {C p dx : Addr} {sp : Sp} {dvs vs : List V} {E : XK} {tf td : TE} {t : TA} {fs : List (Str × V)} {n : Nat} {ks : List Str} {gV : List V → List V → List V} {y : V} {xs : List (Str × Th)}
def coK (C : Addr) (sp : Sp) (dvs : List V) (E : XK) (Q : VK) (a : Addr) : List V → Hp → Prop := fun vs H2 => (∃ dx fs, H2 a = some (.ins C dx fs)) ∧ sp (V.ref a :: vs ++ dvs) H2 Q E
def coF (C : Addr) (sp : Sp) (dvs : List V) (E : XK) (t : TA) (σ : L2.St) (Q : VK) : VK := fun y H1 => ∃ a, y = V.ref a ∧ t σ H1 (coK C sp dvs E Q a)
theorem rd_callO (k : tf σ H (coF C sp dvs E t σ Q)) : tCallK C sp dvs E tf t σ H Q := k
theorem co_at (k : t σ H (coK C sp dvs E Q p)) : coF C sp dvs E t σ Q (.ref p) H := ⟨p, rfl, k⟩
theorem co_in (h : H p = some (.ins C dx fs)) (k : sp (V.ref p :: vs ++ dvs) H Q E) : coK C sp dvs E Q p vs H := ⟨⟨dx, fs, h⟩, k⟩
/-- C(e, .., **d) -/
def mwK (C : Addr) (n : Nat) (ks : List Str) (sp : Sp) (gV : List V → List V → List V) (E : XK) (Q : VK) (vs : List V) (p : Addr) : VK := fun y H2 =>
  ∃ (o : Addr) (kvs : List (Key × V)), y = .ref o ∧ p ≠ o ∧ H2 p = some (.dK []) ∧ Rd H2 o (.dK kvs) ∧ kvs.map (·.1) = ks.map .inr ∧ vs.length = n ∧ ∀ x dx, upd H2 p (.dK kvs) x = none → upd H2 p (.dK kvs) dx = none → dx ≠ x →
    sp (gV (.ref x :: vs) (kvs.map (·.2))) (upd (upd (upd H2 p (.dK kvs)) dx (.own x)) x (.ins C dx [])) (fun v H3 => v = .non ∧ Q (.ref x) H3) E
def mwA (C : Addr) (n : Nat) (ks : List Str) (sp : Sp) (gV : List V → List V → List V) (E : XK) (td : TE) (σ : L2.St) (Q : VK) : List V → Hp → Prop := fun vs H1 => ∀ p, H1 p = none → td σ (upd H1 p (.dK [])) (mwK C n ks sp gV E Q vs p)
theorem rd_makeW (k : t σ H (mwA C n ks sp gV E td σ Q)) : tMakeW C n ks sp gV E t td σ H Q := k
theorem mw_new (S : Sx P F0 H0 F H) (k : ∀ p H', H p = none → Sx P0 F H F H' → Ow P H0 F H' p (.dK []) → td σ H' (mwK C n ks sp gV E Q vs p)) : mwA C n ks sp gV E td σ Q vs H :=
  fun p hp => k p _ hp ((Sx.refl0 S.sub).temp hp) (S.own hp)
theorem mw_at {a b c d : Str} {rest : V → V → V → V → List V} (S : Sx P F0 H0 F H) (w : Ow P H0 F H p (.dK [])) (r : qSd.r K F y xs) (g : sdK xs [a, b, c, d] = true) (l : vs.length = n) (eg : ∀ x u1 u2 u3 u4, gV (.ref x :: vs) [u1, u2, u3, u4] = .ref x :: rest u1 u2 u3 u4)
    (k : ∀ u1 u2 u3 u4 kvs H', qTh.r K F u1 (sdAt xs 0) → qTh.r K F u2 (sdAt xs 1) → qTh.r K F u3 (sdAt xs 2) → qTh.r K F u4 (sdAt xs 3) → Sx (fun a => a = p) F H F H' → Ow P H0 F H' p (.dK kvs) → mkK C sp E Q (rest u1 u2 u3 u4) H') : mwK C n [a, b, c, d] sp gV E Q vs p y H := by
  obtain ⟨o, kvs, rfl, h1, row⟩ := r
  have e := of_decide_eq_true g
  obtain ⟨u1, k1, x1, xs1, rfl, rfl, f1, row, e⟩ := row.uncons e
  obtain ⟨u2, k2, x2, xs2, rfl, rfl, f2, row, e⟩ := row.uncons e
  obtain ⟨u3, k3, x3, xs3, rfl, rfl, f3, row, e⟩ := row.uncons e
  obtain ⟨u4, k4, x4, xs4, rfl, rfl, f4, row, e⟩ := row.uncons e
  cases row with
  | cons _ _ => cases e
  | nil =>
    have po : p ≠ o := fun z => by rw [← z, w.fr] at h1; cases h1
    refine ⟨o, _, rfl, po, w.at_, .inl (S.sub _ _ h1), rfl, l, fun x dx hx hd hn => ?_⟩
    show sp (gV (.ref x :: vs) [u1, u2, u3, u4]) _ _ _
    rw [eg]
    exact k u1 u2 u3 u4 _ _ f1 f2 f3 f4 (putS S w) w.put x dx hx hd hn
/-- the truth of a number, of what is a number or none -/
def trI (o : Option Int) : Bool := match o with
  | none => false
  | some i => !decide (i = 0)
end
section
variable {K : PySem.W.Frag} {P : Addr → Prop} {F0 H0 F H : Hp} {v : V} {σ : L2.St} {C p dx : Addr} {tv to : TE} {fs fs' : List (Str × V)} {f : Str}
theorem tr_atO {Q : Bool → Hp → Prop} {o : Option Int} (r : (qO qI).r K F v o) (k : Q (trI o) H) : trK K Q v H := by
  cases o with
  | none =>
    cases (show v = .non from r)
    exact ⟨_, rfl, k⟩
  | some i =>
    cases (show v = .int i from r)
    refine ⟨_, rfl, ?_⟩
    have e : (i != 0) = trI (some i) := by
      show (!(i == 0)) = !decide (i = 0)
      congr 1
    rw [e]; exact k
def faK (K : PySem.W.Frag) (tv : TE) (f : Str) (σ : L2.St) (N : Hp → Prop) : VK := fun x H1 => ∃ a C dx fs v, x = .ref a ∧ H1 a = some (.ins C dx fs) ∧ Cls K C ∧ NoAttr K C f ∧ fs.lookup f = some v ∧
  tv σ H1 fun y H2 => rAdd v y H2 fun z H3 => ∃ dx' fs', H3 a = some (.ins C dx' fs') ∧ fs'.length < 1000 ∧ N (upd H3 a (.ins C dx' (putF f z fs')))
theorem rd_faug {N B C : L2.St → Hp → Prop} {R : VK} (k : to σ H (faK K tv f σ (N σ))) : sFldAug K to tv rAdd f ⟨N, R, B, C⟩ σ H := k
def faC (C p : Addr) (i : Int) (f : Str) (N : Hp → Prop) : VK := fun y H2 => rAdd (.int i) y H2 fun z H3 => ∃ dx' fs', H3 p = some (.ins C dx' fs') ∧ fs'.length < 1000 ∧ N (upd H3 p (.ins C dx' (putF f z fs')))
theorem fa_at {N : Hp → Prop} {i : Int} (h : H p = some (.ins C dx fs)) (c : Cls K C) (n : NoAttr K C f) (l : fs.lookup f = some (.int i)) (k : tv σ H (faC C p i f N)) : faK K tv f σ N (.ref p) H := ⟨p, C, dx, fs, _, rfl, h, c, n, l, k⟩
theorem fa_set {N : Hp → Prop} {i j : Int} (S : Sx P F0 H0 F H) (w : Ow P H0 F H p (.ins C dx fs)) (l : Nat.ble fs.length 900 = true) (e : putF f (.int (i + j)) fs = fs') (k : ∀ H', Sx (fun a => a = p) F H F H' → Ow P H0 F H' p (.ins C dx fs') → N H') : faC C p i f N (.int j) H :=
  ⟨i, j, rfl, rfl, dx, fs, w.at_, Nat.lt_of_le_of_lt (Nat.le_of_ble_eq_true l) (by decide), by rw [e]; exact k _ (putS S w) w.put⟩
end
section
variable {α : Type} {A : R α} {K : PySem.W.Frag} {F H H0 : Hp} {P : Addr → Prop} {p : Addr} {vs : List V} {xs : List α}
theorem Ow.dS (w : Ow P H0 F H p (.lst vs)) (S : Same F H) (D : Dat A) (r : Row A K F vs xs) : SeenD (dL D) K H (.ref p) xs := .lst (SqL.of w.at_) (dpAll D (Row.mono S r))
end
end Gl
namespace Gl
open PySem PySem.Spec PyProof.Rows L2
/-! ## plain mathematics: results that are there -/
def Ok {α : Type} (x : Option α) (Q : α → Prop) : Prop := ∃ a, x = some a ∧ Q a
section
variable {α β S ρ : Type} {x y : Option α} {P Q : α → Prop} {f : α → Option β} {R : β → Prop} {a : α} {b : Bool}
theorem Ok.sm (h : Q a) : Ok (some a) Q := ⟨a, rfl, h⟩
theorem Ok.bd (h : Ok x P) (k : ∀ a, P a → Ok (f a) R) : Ok (x.bind f) R := by
  obtain ⟨a, rfl, p⟩ := h
  exact k a p
theorem Ok.bde (h : x = some a) (k : Ok (f a) R) : Ok (x.bind f) R := by
  rw [h]; exact k
theorem Ok.gd (h : b = true) (k : Ok x Q) : Ok (gd b x) Q := by rw [gd_true h]; exact k
theorem Ok.ite (h1 : b = true → Ok x Q) (h2 : b = false → Ok y Q) : Ok (if b = true then x else y) Q := by
  cases b with
  | true => exact h1 rfl
  | false => exact h2 rfl
theorem Ok.mono (h : Ok x P) (k : ∀ a, P a → Q a) : Ok x Q := let ⟨a, e, p⟩ := h; ⟨a, e, k a p⟩
theorem Ok.eq {a : α} (h : Ok x fun r => r = a) : x = some a := let ⟨b, e, p⟩ := h; p ▸ e
theorem Ok.of (h : x = some a) (k : Q a) : Ok x Q := ⟨a, h, k⟩
/-- a loop: what holds ahead of each item -/
theorem Ok.loop {f : α → S → Option S} {xs : List α} {s0 : S} (I : List α → S → Prop) (h0 : I [] s0) (hs : ∀ pre x post s, xs = pre ++ x :: post → I pre s → Ok (f x s) (I (pre ++ [x]))) : Ok (loopS f xs s0) (I xs) := by
  have key : ∀ (post pre : List α) (s : S), xs = pre ++ post → I pre s → Ok (loopS f post s) (I xs) := by
    intro post
    induction post with
    | nil => intro pre s e h; rw [List.append_nil] at e; subst e; exact ⟨s, rfl, h⟩
    | cons x post ih =>
      intro pre s e h
      obtain ⟨s', e1, h1⟩ := hs pre x post s e h
      obtain ⟨r, e2, h2⟩ := ih (pre ++ [x]) s' (by rw [e]; simp) h1
      exact ⟨r, by show (f x s).bind _ = _; rw [e1]; exact e2, h2⟩
  exact key xs [] s0 rfl h0
/-- a comprehension without a state -/
theorem comp_pure {f : α → Unit → Option (Option β × Unit)} {g : α → Option β} : ∀ {xs : List α}, (∀ x ∈ xs, f x () = some (g x, ())) → comp f xs () = some (xs.filterMap g, ())
  | [], _ => rfl
  | x :: xs, h => by
    show (f x ()).bind _ = _
    rw [h x List.mem_cons_self]
    show ((comp f xs ()).bind fun r => some (match g x with
      | some y => (y :: r.1, r.2)
      | none => r)) = _
    rw [comp_pure fun y hy => h y (List.mem_cons_of_mem _ hy), List.filterMap_cons]
    cases g x <;> rfl
end
theorem filterMap_ite {α : Type} {p : α → Bool} : ∀ xs : List α, xs.filterMap (fun x => if p x = true then some x else none) = xs.filter p
  | [] => rfl
  | x :: xs => by
    rw [List.filterMap_cons, List.filter_cons, filterMap_ite xs]
    cases p x <;> rfl
/-! ### texts as rows of numbers -/
def cl (s : Str) : List Nat := s.cps.toList
theorem cl_inj {a b : Str} (h : cl a = cl b) : a = b := by
  obtain ⟨a⟩ := a; obtain ⟨b⟩ := b
  exact congrArg Str.mk (Array.toList_inj.mp h)
theorem cl_len (s : Str) : s.length = (cl s).length := (Array.length_toList).symm
theorem cl_app (a b : Str) : cl (a ++ b) = cl a ++ cl b := Array.toList_append
theorem cl_sg (c : Nat) : cl ⟨#[c]⟩ = [c] := rfl
theorem sgns_cl (s : Str) : sgns s = (cl s).map fun c => ⟨#[c]⟩ := rfl
theorem cl_cut (z : Str) (lo hi : Option Int) : cl (cutS z lo hi) = cut (cl z) lo hi := by
  unfold cl cutS cut
  rw [List.toList_toArray]
  show _ = List.take (HT.sIx z.cps.toList.length z.cps.toList.length hi - HT.sIx z.cps.toList.length 0 lo) (List.drop (HT.sIx z.cps.toList.length 0 lo) z.cps.toList)
  rw [Array.length_toList]
  rfl
theorem sIx_nn {n d : Nat} {k : Int} (h : 0 ≤ k) : HT.sIx n d (some k) = min k.toNat n := by
  obtain ⟨m, rfl⟩ := Int.eq_ofNat_of_zero_le h
  rw [HT.sIx_nat]; rfl
theorem cut_to {α : Type} (xs : List α) {k : Int} (h : 0 ≤ k) : cut xs none (some k) = xs.take k.toNat := by
  unfold cut
  rw [HT.sIx_none, sIx_nn h, List.drop_zero, Nat.sub_zero]
  rcases Nat.le_total k.toNat xs.length with e | e
  · rw [Nat.min_eq_left e]
  · rw [Nat.min_eq_right e, List.take_of_length_le (Nat.le_refl _), List.take_of_length_le e]
theorem cut_from {α : Type} (xs : List α) {k : Int} (h : 0 ≤ k) : cut xs (some k) none = xs.drop k.toNat := by
  unfold cut
  rw [HT.sIx_none, sIx_nn h]
  rcases Nat.le_total k.toNat xs.length with e | e
  · rw [Nat.min_eq_left e, List.take_of_length_le]; rw [List.length_drop]; omega
  · rw [Nat.min_eq_right e, Nat.sub_self, List.take_zero, List.drop_of_length_le e]
theorem cut_mid {α : Type} (xs : List α) {a b : Int} (h : 0 ≤ a) (h2 : a ≤ b) : cut xs (some a) (some b) = (xs.drop a.toNat).take (b.toNat - a.toNat) := by
  unfold cut
  rw [sIx_nn h, sIx_nn (by omega)]
  rcases Nat.le_total a.toNat xs.length with e | e
  · rw [Nat.min_eq_left e]
    rcases Nat.le_total b.toNat xs.length with e2 | e2
    · rw [Nat.min_eq_left e2]
    · rw [Nat.min_eq_right e2, List.take_of_length_le (by rw [List.length_drop]; omega), List.take_of_length_le (by rw [List.length_drop]; omega)]
  · rw [Nat.min_eq_right e, List.drop_of_length_le e, List.drop_of_length_le (Nat.le_refl _)]; simp
theorem atI_nn {α : Type} {xs : List α} {i : Int} (h : 0 ≤ i) (h2 : i < xs.length) : atI xs i = xs[i.toNat]? := by
  unfold atI ixN
  rw [if_pos h, if_pos h2]; rfl
theorem atI_last {α : Type} {xs : List α} {a : α} : atI (xs ++ [a]) (-1) = some a := by
  unfold atI ixN
  rw [if_neg (by decide), if_pos (by simp; omega)]
  show (xs ++ [a])[((-1 : Int) + ((xs ++ [a]).length : Nat)).toNat]? = _
  have e : ((-1 : Int) + ((xs ++ [a]).length : Nat)).toNat = xs.length := by simp; omega
  rw [e]; simp
theorem ixS_ok {s : Str} {i : Int} (h : 0 ≤ i) (h2 : i < s.length) (h3 : s.length ≤ sizeLine) : Ok (ixS s i) fun z => ∃ c, (cl s)[i.toNat]? = some c ∧ z = ⟨#[c]⟩ := by
  unfold ixS
  refine Ok.gd (by unfold fitsS; exact decide_eq_true h3) ?_
  rw [atI_nn h (by rw [Array.length_toList]; exact h2)]
  have hl : i.toNat < (cl s).length := by rw [← cl_len]; omega
  refine Ok.bde (a := (cl s)[i.toNat]) (by show (cl s)[i.toNat]? = _; simp [hl]) ?_
  exact Ok.sm ⟨_, by simp [hl], rfl⟩
theorem sizeLine_big : (16000000 : Nat) ≤ sizeLine := by rw [sizeLine_eq]; decide
theorem fitsS_ok {s : Str} (h : s.length ≤ 16000000) : fitsS s = true := decide_eq_true (Nat.le_trans h sizeLine_big)
theorem fits_ok {α : Type} {s : List α} (h : s.length < 16000000) : fits s = true := decide_eq_true (Nat.lt_of_lt_of_le h sizeLine_big)
theorem fitsE_ok {α : Type} {s : List α} (h : s.length ≤ 16000000) : fitsE s = true := decide_eq_true (Nat.le_trans h sizeLine_big)
theorem fits2_ok {α : Type} {s t : List α} (h : s.length + t.length ≤ 16000000) : fits2 s t = true := decide_eq_true (Nat.le_trans h sizeLine_big)
theorem catOk_ok {s t : Str} (h : s.length + t.length ≤ 16000000) : catOk s t = true := decide_eq_true (Nat.le_trans h sizeLine_big)
theorem rgOk_ok {a b : Int} (h : -16000000 ≤ a) (h2 : a ≤ 16000000) (h3 : -16000000 ≤ b) (h4 : b ≤ 16000000) : rgOk a b = true := by
  unfold rgOk
  rw [decide_eq_true (show -(2 ^ 62) ≤ a by omega), decide_eq_true (show a < 2 ^ 62 by omega), decide_eq_true (show -(2 ^ 62) ≤ b by omega), decide_eq_true (show b < 2 ^ 62 by omega)]; rfl
theorem rgFit_ok {a b : Int} (h : -5000000 ≤ a) (h2 : a ≤ 5000000) (h3 : -5000000 ≤ b) (h4 : b ≤ 5000000) : rgFit a b = true := by
  unfold rgFit
  rw [decide_eq_true (show -(2 ^ 62) ≤ a by omega), decide_eq_true (show a < 2 ^ 62 by omega), decide_eq_true (show -(2 ^ 62) ≤ b by omega), decide_eq_true (show b < 2 ^ 62 by omega), decide_eq_true (show (b - a).toNat ≤ 16000000 by omega)]; rfl
theorem mulOk_l {a b : Int} (h : -(2 ^ 64) < a) (h2 : a < 2 ^ 64) : mulOk a b = true := by
  unfold mulOk; rw [decide_eq_true h, decide_eq_true h2]; rfl
theorem mulOk_r {a b : Int} (h : -(2 ^ 64) < b) (h2 : b < 2 ^ 64) : mulOk a b = true := by
  unfold mulOk; rw [decide_eq_true h, decide_eq_true h2]; simp
theorem modOk_ok {a : Int} (h : 0 < a) : modOk a = true := decide_eq_true h
theorem divOk_ok {a : Int} (h : 0 < a) (h2 : a < 1073741824) : divOk a = true := by
  unfold divOk; rw [decide_eq_true h, decide_eq_true h2]; rfl
theorem repS_cl {x : Str} {n : Int} (h : 0 ≤ n) : cl (repS x n) = (List.replicate n.toNat (cl x)).flatten := by
  have fold : ∀ (k : Nat) (acc : Array Nat), ((List.replicate k x.cps).foldl (· ++ ·) acc).toList = acc.toList ++ (List.replicate k x.cps.toList).flatten := by
    intro k
    induction k with
    | zero => intro acc; simp
    | succ k ih => intro acc; rw [List.replicate_succ, List.foldl_cons, ih, List.replicate_succ, List.flatten_cons, Array.toList_append, List.append_assoc]
  unfold repS Txt.mul
  by_cases h1 : n < 1
  · rw [if_pos h1]
    have e : n.toNat = 0 := by omega
    rw [e]; rfl
  · rw [if_neg h1]
    by_cases h2 : (n == 1 || x.length == 0) = true
    · rw [if_pos h2]
      rcases Bool.or_eq_true_iff.mp h2 with h3 | h3
      · have e : n = 1 := by simpa using h3
        subst e
        show cl x = _
        simp
      · have e : x.length = 0 := by simpa using h3
        rw [cl_len] at e
        have e2 : cl x = [] := List.eq_nil_of_length_eq_zero e
        rw [e2]
        symm
        rw [List.flatten_eq_nil_iff]
        intro l hl
        exact (List.mem_replicate.mp hl).2
    · rw [if_neg h2]
      show ((List.replicate n.toNat x.cps).foldl (· ++ ·) #[]).toList = _
      rw [fold]
      simp [cl]
theorem repOk_ok {x : Str} {n : Int} (h : 0 ≤ n) (h2 : n ≤ 100) (h3 : x.length ≤ 100) : repOk x n = true := by
  unfold repOk
  have e : x.length * n.toNat ≤ 100000 := Nat.le_trans (Nat.mul_le_mul h3 (show n.toNat ≤ 100 by omega)) (by decide)
  rw [decide_eq_true (show -(2 ^ 62) ≤ n by omega), decide_eq_true (show n < 2 ^ 62 by omega), decide_eq_true e, decide_eq_true (show x.length ≤ 100000 by omega)]; rfl
theorem rng_mem {a b i : Int} : i ∈ rng a b ↔ a ≤ i ∧ i < b := by
  unfold rng
  rw [List.mem_map]
  constructor
  · rintro ⟨j, hj, rfl⟩
    rw [List.mem_range] at hj
    omega
  · intro ⟨h1, h2⟩
    exact ⟨(i - a).toNat, by rw [List.mem_range]; omega, by omega⟩
theorem rng_len (a b : Int) : (rng a b).length = (b - a).toNat := by unfold rng; simp
theorem rng_at {a b : Int} {pre post : List Int} {x : Int} (h : rng a b = pre ++ x :: post) : x = a + pre.length ∧ pre = rng a x ∧ a ≤ x ∧ x < b := by
  have hx : x ∈ rng a b := by rw [h]; simp
  rw [rng_mem] at hx
  have hg : (rng a b)[pre.length]? = some x := by rw [h]; simp
  have hl : pre.length < (b - a).toNat := by
    have := congrArg List.length h
    rw [rng_len] at this
    simp at this
    omega
  have hx2 : x = a + pre.length := by
    unfold rng at hg
    rw [List.getElem?_map, List.getElem?_range hl] at hg
    exact (Option.some.inj hg).symm
  refine ⟨hx2, ?_, hx⟩
  have e : pre = (rng a b).take pre.length := by rw [h]; simp
  rw [e]
  unfold rng
  rw [← List.map_take, List.take_range]
  congr 2
  rw [hx2]; omega
theorem rng_snoc {a b : Int} (h : a ≤ b) : rng a (b + 1) = rng a b ++ [b] := by
  unfold rng
  have e : (b + 1 - a).toNat = (b - a).toNat + 1 := by omega
  rw [e, List.range_succ, List.map_append]
  congr 1
  show [a + ((b - a).toNat : Int)] = [b]
  congr 1
  omega
/-! ### == of data: the sides are small -/
def okS (s : Str) : Prop := PyData.strOk s = true
theorem canAll {α : Type} {A : R α} (D : Dat A) : ∀ {xs : List α}, (∀ x ∈ xs, (D.d x).canLay0 = true) → PyData.canLayAll0 (xs.map D.d) = true
  | [], _ => rfl
  | x :: xs, h => by
    show ((D.d x).canLay0 && PyData.canLayAll0 (xs.map D.d)) = true
    rw [h x List.mem_cons_self, canAll D fun y hy => h y (List.mem_cons_of_mem _ hy)]; rfl
theorem depAll {α : Type} {A : R α} (D : Dat A) {n : Nat} : ∀ {xs : List α}, (∀ x ∈ xs, (D.d x).depth ≤ n) → PyData.depthAll (xs.map D.d) ≤ n
  | [], _ => Nat.zero_le _
  | x :: xs, h => by
    show max (D.d x).depth (PyData.depthAll (xs.map D.d)) ≤ n
    exact Nat.max_le.mpr ⟨h x List.mem_cons_self, depAll D fun y hy => h y (List.mem_cons_of_mem _ hy)⟩
theorem shp_of {α : Type} {A : R α} {D : Dat A} {a : α} (h : (D.d a).canLay0 = true) (h2 : (D.d a).depth ≤ 64) : shp D a = true := by
  show ((D.d a).canLay0 && decide ((D.d a).depth ≤ 64)) = true
  rw [h, decide_eq_true h2]; rfl
theorem shp_lS {xs : List Str} (h : ∀ x ∈ xs, okS x) : shp (dL dS) xs = true := shp_of (canAll dS h) (Nat.succ_le_of_lt (Nat.lt_of_le_of_lt (depAll dS (n := 0) fun _ _ => Nat.le_refl _) (by decide)))
theorem shp_lI (xs : List Int) : shp (dL dI) xs = true := shp_of (canAll dI fun _ _ => rfl) (Nat.succ_le_of_lt (Nat.lt_of_le_of_lt (depAll dI (n := 0) fun _ _ => Nat.le_refl _) (by decide)))
/-- a loop that picks out of a row: what has been picked so far is known -/
theorem loop_pick {α : Type} {f : α → List α → Option (List α)} {xs : List α} (p : α → Bool) (hs : ∀ pre x post, xs = pre ++ x :: post → f x (pre.filter p) = some (if p x = true then pre.filter p ++ [x] else pre.filter p)) : loopS f xs [] = some (xs.filter p) := by
  refine Ok.eq (Ok.loop (fun pre s => s = pre.filter p) rfl fun pre x post s e h => ?_)
  subst h
  refine ⟨_, hs pre x post e, ?_⟩
  rw [List.filter_append, List.filter_cons]
  cases p x <;> simp
/-! ### shapes, by classes -/
class ShpD {α : Type} {A : R α} (D : Dat A) where
  ok : α → Prop
  n : Nat
  can : ∀ a, ok a → (D.d a).canLay0 = true
  dep : ∀ a, (D.d a).depth ≤ n
class ShpR {α : Type} {B : RR α} (E : DatR B) where
  ok : α → Prop
  n : Nat
  can : ∀ a, ok a → PyData.canLayAll0 (E.d a) = true
  dep : ∀ a, PyData.depthAll (E.d a) ≤ n
theorem shpD {α : Type} {A : R α} {D : Dat A} [i : ShpD D] {a : α} (h : i.ok a) (hn : i.n ≤ 64 := by decide) : shp D a = true := shp_of (i.can a h) (Nat.le_trans (i.dep a) hn)
instance sI : ShpD dI := ⟨fun _ => True, 0, fun _ _ => rfl, fun _ => Nat.le_refl _⟩
instance sB : ShpD dB := ⟨fun _ => True, 0, fun _ _ => rfl, fun _ => Nat.le_refl _⟩
instance sS : ShpD dS := ⟨okS, 0, fun _ h => h, fun _ => Nat.le_refl _⟩
instance sL {α : Type} {A : R α} {D : Dat A} [i : ShpD D] : ShpD (dL D) := ⟨fun xs => ∀ x ∈ xs, i.ok x, i.n + 1, fun xs h => canAll D fun x hx => i.can x (h x hx), fun xs => by
  show PyData.depthAll (xs.map D.d) + 1 ≤ _
  have := depAll D (n := i.n) (xs := xs) fun x _ => i.dep x
  omega⟩
instance sT {α : Type} {A : R α} {D : Dat A} [i : ShpD D] : ShpD (dT D) := ⟨fun xs => ∀ x ∈ xs, i.ok x, i.n + 1, fun xs h => canAll D fun x hx => i.can x (h x hx), fun xs => by
  show PyData.depthAll (xs.map D.d) + 1 ≤ _
  have := depAll D (n := i.n) (xs := xs) fun x _ => i.dep x
  omega⟩
instance s2 {α β : Type} {A : R α} {B : R β} {D : Dat A} {E : Dat B} [i : ShpD D] [j : ShpD E] : ShpD (d2 D E) := ⟨fun a => i.ok a.1 ∧ j.ok a.2, max i.n j.n + 1, fun a h => by
  show ((D.d a.1).canLay0 && ((E.d a.2).canLay0 && true)) = true
  rw [i.can _ h.1, j.can _ h.2]; rfl, fun a => by
  show max (D.d a.1).depth (max (E.d a.2).depth 0) + 1 ≤ _
  have h1 := i.dep a.1
  have h2 := j.dep a.2
  omega⟩
def optOk {α : Type} (P : α → Prop) : Option α → Prop
  | none => True
  | some a => P a
instance sO {α : Type} {A : R α} {D : Dat A} [NotNone D] [i : ShpD D] : ShpD (dO D) := ⟨optOk i.ok, i.n, fun a h => by
  cases a with
  | none => rfl
  | some a => exact i.can a h, fun a => by
  cases a with
  | none => exact Nat.zero_le _
  | some a => exact i.dep a⟩
instance sr1 {α : Type} {A : R α} {D : Dat A} [i : ShpD D] : ShpR (e1 D) := ⟨i.ok, i.n, fun a h => by
  show ((D.d a).canLay0 && true) = true
  rw [i.can _ h]; rfl, fun a => by
  show max (D.d a).depth 0 ≤ _
  have := i.dep a
  omega⟩
instance src {α β : Type} {A : R α} {B : RR β} {D : Dat A} {E : DatR B} [i : ShpD D] [j : ShpR E] : ShpR (ec D E) := ⟨fun a => i.ok a.1 ∧ j.ok a.2, max i.n j.n, fun a h => by
  show ((D.d a.1).canLay0 && PyData.canLayAll0 (E.d a.2)) = true
  rw [i.can _ h.1, j.can _ h.2]; rfl, fun a => by
  show max (D.d a.1).depth (PyData.depthAll (E.d a.2)) ≤ _
  have h1 := i.dep a.1
  have h2 := j.dep a.2
  omega⟩
instance sLr {α : Type} {B : RR α} {E : DatR B} [i : ShpR E] : ShpD (dLr E) := ⟨i.ok, i.n + 1, fun a h => i.can a h, fun a => Nat.succ_le_succ (i.dep a)⟩
instance sTr {α : Type} {B : RR α} {E : DatR B} [i : ShpR E] : ShpD (dTr E) := ⟨i.ok, i.n + 1, fun a h => i.can a h, fun a => Nat.succ_le_succ (i.dep a)⟩
end Gl
namespace Law
open PySem PySem.Spec PyProof.Rows L2 Gl
def top (i : Nat) : Stmt := PySem.Challenge.pw_gluedlines_k29_records_put_together_by_t.main.body.getD i (.Pass ⟨0, 0, 0, 0⟩)
abbrev s_law_pool : Stmt := top 41
abbrev s_law_take : Stmt := top 42
abbrev s_law_all_signs : Stmt := top 43
abbrev s_law_text : Stmt := top 44
abbrev s_law_parts : Stmt := top 45
abbrev s_law_tree : Stmt := top 50
abbrev s_law_rule : Stmt := top 54
abbrev s_Rule_tags : Stmt := inClass (top 39) 5
abbrev s_Gluer_taken : Stmt := inClass (top 2) 4
abbrev s_Form___contains__ : Stmt := inClass (top 29) 2
abbrev s_Both___contains__ : Stmt := inClass (top 29) 2
abbrev s_Either___contains__ : Stmt := inClass (top 29) 2
abbrev s_Form_forms : Stmt := inClass (top 30) 6
abbrev s_Either_forms : Stmt := inClass (top 32) 2
abbrev s_Both_forms : Stmt := inClass (top 31) 2
abbrev s_Form_holds : Stmt := inClass (top 30) 7
abbrev s_Either_holds : Stmt := inClass (top 32) 3
abbrev s_Both_holds : Stmt := inClass (top 31) 3
abbrev s_is_line : Stmt := top 7
abbrev s_cells_of : Stmt := top 13
abbrev s_closed : Stmt := top 15
abbrev s_started : Stmt := top 16
abbrev s_Form_parts : Stmt := inClass (top 30) 5
abbrev s_takes : Stmt := top 14
abbrev s_moved : Stmt := top 17
abbrev s_is_done : Stmt := top 18
abbrev s_pat___contains__ : Stmt := inClass (top 29) 2
abbrev s_Rule_begins_on : Stmt := inClass (top 39) 12
abbrev s_Rule_ends_on : Stmt := inClass (top 39) 13
abbrev s_Rule_most : Stmt := inClass (top 39) 1
abbrev s_Rule_alone : Stmt := inClass (top 39) 3
abbrev s_Gluer_put : Stmt := inClass (top 2) 3
abbrev s_Gluer___call__ : Stmt := inClass (top 2) 1
abbrev s_is_allowed_rules : Stmt := top 35
abbrev s_check_settings : Stmt := top 37
abbrev s_Rule___init__ : Stmt := inClass (top 39) 0
abbrev s_Rule_with_marks : Stmt := inClass (top 39) 14
abbrev s_Gluer___init__ : Stmt := inClass (top 2) 0
abbrev s_Either___init__ : Stmt := inClass (top 32) 0
abbrev s_Pattern___or__ : Stmt := inClass (top 29) 1
abbrev s_Both___init__ : Stmt := inClass (top 31) 0
abbrev s_Pattern___and__ : Stmt := inClass (top 29) 0
abbrev s_is_allowed : Stmt := top 27
abbrev s_Form___init__ : Stmt := inClass (top 30) 3
abbrev s_law_form : Stmt := top 46
abbrev s_law_built : Stmt := top 51
abbrev s_law_marks : Stmt := top 55
abbrev s_law_ruled : Stmt := top 56
abbrev s_law_ends : Stmt := top 47
abbrev s_law_fits : Stmt := top 48
abbrev s_law_bears : Stmt := top 52
abbrev s_law_marked : Stmt := top 57
abbrev s_law_fed : Stmt := top 59
abbrev s_Gluer_many : Stmt := inClass (top 2) 2
abbrev s_Gluer_finish : Stmt := inClass (top 2) 6
abbrev s_Gluer_waiting : Stmt := inClass (top 2) 7
abbrev s_law_right : Stmt := top 60
abbrev s_law_line : Stmt := top 49
abbrev s_law_written : Stmt := top 53
abbrev s_law_row : Stmt := top 58
abbrev s_law : Stmt := top 61
def fn : List He.DefD := [⟨("_law_pool", none), "_law_pool", "_law_pool", defArgs s_law_pool, defBody s_law_pool, defScope s_law_pool, [], []⟩,
  ⟨("_law_take", none), "_law_take", "_law_take", defArgs s_law_take, defBody s_law_take, defScope s_law_take, [], []⟩,
  ⟨("_law_all_signs", none), "_law_all_signs", "_law_all_signs", defArgs s_law_all_signs, defBody s_law_all_signs, defScope s_law_all_signs, [], []⟩,
  ⟨("_law_text", none), "_law_text", "_law_text", defArgs s_law_text, defBody s_law_text, defScope s_law_text, [], []⟩,
  ⟨("_law_parts", none), "_law_parts", "_law_parts", defArgs s_law_parts, defBody s_law_parts, defScope s_law_parts, [], []⟩,
  ⟨("_law_tree", none), "_law_tree", "_law_tree", defArgs s_law_tree, defBody s_law_tree, defScope s_law_tree, [], []⟩,
  ⟨("_law_rule", none), "_law_rule", "_law_rule", defArgs s_law_rule, defBody s_law_rule, defScope s_law_rule, [], []⟩,
  ⟨("Gluer", some "taken"), "taken", "Gluer.taken", defArgs s_Gluer_taken, defBody s_Gluer_taken, defScope s_Gluer_taken, [], []⟩,
  ⟨("Form", some "__contains__"), "__contains__", "Pattern.__contains__", defArgs s_Form___contains__, defBody s_Form___contains__, defScope s_Form___contains__, [], []⟩,
  ⟨("Both", some "__contains__"), "__contains__", "Pattern.__contains__", defArgs s_Both___contains__, defBody s_Both___contains__, defScope s_Both___contains__, [], []⟩,
  ⟨("Either", some "__contains__"), "__contains__", "Pattern.__contains__", defArgs s_Either___contains__, defBody s_Either___contains__, defScope s_Either___contains__, [], []⟩,
  ⟨("Form", some "forms"), "forms", "Form.forms", defArgs s_Form_forms, defBody s_Form_forms, defScope s_Form_forms, [], []⟩,
  ⟨("Either", some "forms"), "forms", "Either.forms", defArgs s_Either_forms, defBody s_Either_forms, defScope s_Either_forms, [], []⟩,
  ⟨("Both", some "forms"), "forms", "Both.forms", defArgs s_Both_forms, defBody s_Both_forms, defScope s_Both_forms, [], []⟩,
  ⟨("Form", some "holds"), "holds", "Form.holds", defArgs s_Form_holds, defBody s_Form_holds, defScope s_Form_holds, [], []⟩,
  ⟨("Either", some "holds"), "holds", "Either.holds", defArgs s_Either_holds, defBody s_Either_holds, defScope s_Either_holds, [], []⟩,
  ⟨("Both", some "holds"), "holds", "Both.holds", defArgs s_Both_holds, defBody s_Both_holds, defScope s_Both_holds, [], []⟩,
  ⟨("is_line", none), "is_line", "is_line", defArgs s_is_line, defBody s_is_line, defScope s_is_line, [], []⟩,
  ⟨("cells_of", none), "cells_of", "cells_of", defArgs s_cells_of, defBody s_cells_of, defScope s_cells_of, [], []⟩,
  ⟨("closed", none), "closed", "closed", defArgs s_closed, defBody s_closed, defScope s_closed, [], []⟩,
  ⟨("started", none), "started", "started", defArgs s_started, defBody s_started, defScope s_started, [], []⟩,
  ⟨("Form", some "parts"), "parts", "Form.parts", defArgs s_Form_parts, defBody s_Form_parts, defScope s_Form_parts, [], []⟩,
  ⟨("takes", none), "takes", "takes", defArgs s_takes, defBody s_takes, defScope s_takes, [], []⟩,
  ⟨("moved", none), "moved", "moved", defArgs s_moved, defBody s_moved, defScope s_moved, [], []⟩,
  ⟨("is_done", none), "is_done", "is_done", defArgs s_is_done, defBody s_is_done, defScope s_is_done, [], []⟩,
  ⟨("Rule", some "begins_on"), "begins_on", "Rule.begins_on", defArgs s_Rule_begins_on, defBody s_Rule_begins_on, defScope s_Rule_begins_on, [], []⟩,
  ⟨("Rule", some "ends_on"), "ends_on", "Rule.ends_on", defArgs s_Rule_ends_on, defBody s_Rule_ends_on, defScope s_Rule_ends_on, [], []⟩,
  ⟨("Gluer", some "put"), "put", "Gluer.put", defArgs s_Gluer_put, defBody s_Gluer_put, defScope s_Gluer_put, [], []⟩,
  ⟨("Gluer", some "__call__"), "__call__", "Gluer.__call__", defArgs s_Gluer___call__, defBody s_Gluer___call__, defScope s_Gluer___call__, [.non], []⟩,
  ⟨("is_allowed_rules", none), "is_allowed", "is_allowed", defArgs s_is_allowed_rules, defBody s_is_allowed_rules, defScope s_is_allowed_rules, [], []⟩,
  ⟨("check_settings", none), "check_settings", "check_settings", defArgs s_check_settings, defBody s_check_settings, defScope s_check_settings, [], []⟩,
  ⟨("Rule", some "__init__"), "__init__", "Rule.__init__", defArgs s_Rule___init__, defBody s_Rule___init__, defScope s_Rule___init__, [], [("most", .non), ("alone", .bl true), ("tags", .non), ("quiet", .bl false)]⟩,
  ⟨("Rule", some "with_marks"), "with_marks", "Rule.with_marks", defArgs s_Rule_with_marks, defBody s_Rule_with_marks, defScope s_Rule_with_marks, [], []⟩,
  ⟨("Gluer", some "__init__"), "__init__", "Gluer.__init__", defArgs s_Gluer___init__, defBody s_Gluer___init__, defScope s_Gluer___init__, [], []⟩,
  ⟨("Either", some "__init__"), "__init__", "Either.__init__", defArgs s_Either___init__, defBody s_Either___init__, defScope s_Either___init__, [], []⟩,
  ⟨("Pattern", some "__or__"), "__or__", "Pattern.__or__", defArgs s_Pattern___or__, defBody s_Pattern___or__, defScope s_Pattern___or__, [], []⟩,
  ⟨("Both", some "__init__"), "__init__", "Both.__init__", defArgs s_Both___init__, defBody s_Both___init__, defScope s_Both___init__, [], []⟩,
  ⟨("Pattern", some "__and__"), "__and__", "Pattern.__and__", defArgs s_Pattern___and__, defBody s_Pattern___and__, defScope s_Pattern___and__, [], []⟩,
  ⟨("is_allowed_patterns", none), "is_allowed", "is_allowed", defArgs s_is_allowed, defBody s_is_allowed, defScope s_is_allowed, [], []⟩,
  ⟨("Form", some "__init__"), "__init__", "Form.__init__", defArgs s_Form___init__, defBody s_Form___init__, defScope s_Form___init__, [], []⟩,
  ⟨("_law_form", none), "_law_form", "_law_form", defArgs s_law_form, defBody s_law_form, defScope s_law_form, [], []⟩,
  ⟨("_law_built", none), "_law_built", "_law_built", defArgs s_law_built, defBody s_law_built, defScope s_law_built, [], []⟩,
  ⟨("_law_marks", none), "_law_marks", "_law_marks", defArgs s_law_marks, defBody s_law_marks, defScope s_law_marks, [], []⟩,
  ⟨("_law_ruled", none), "_law_ruled", "_law_ruled", defArgs s_law_ruled, defBody s_law_ruled, defScope s_law_ruled, [], []⟩,
  ⟨("_law_ends", none), "_law_ends", "_law_ends", defArgs s_law_ends, defBody s_law_ends, defScope s_law_ends, [], []⟩,
  ⟨("_law_fits", none), "_law_fits", "_law_fits", defArgs s_law_fits, defBody s_law_fits, defScope s_law_fits, [], []⟩,
  ⟨("_law_bears", none), "_law_bears", "_law_bears", defArgs s_law_bears, defBody s_law_bears, defScope s_law_bears, [], []⟩,
  ⟨("_law_marked", none), "_law_marked", "_law_marked", defArgs s_law_marked, defBody s_law_marked, defScope s_law_marked, [], []⟩,
  ⟨("_law_fed", none), "_law_fed", "_law_fed", defArgs s_law_fed, defBody s_law_fed, defScope s_law_fed, [], []⟩,
  ⟨("Gluer", some "finish"), "finish", "Gluer.finish", defArgs s_Gluer_finish, defBody s_Gluer_finish, defScope s_Gluer_finish, [], []⟩,
  ⟨("Gluer", some "waiting"), "waiting", "Gluer.waiting", defArgs s_Gluer_waiting, defBody s_Gluer_waiting, defScope s_Gluer_waiting, [], []⟩,
  ⟨("_law_right", none), "_law_right", "_law_right", defArgs s_law_right, defBody s_law_right, defScope s_law_right, [], []⟩,
  ⟨("_law_line", none), "_law_line", "_law_line", defArgs s_law_line, defBody s_law_line, defScope s_law_line, [], []⟩,
  ⟨("_law_written", none), "_law_written", "_law_written", defArgs s_law_written, defBody s_law_written, defScope s_law_written, [], []⟩,
  ⟨("_law_row", none), "_law_row", "_law_row", defArgs s_law_row, defBody s_law_row, defScope s_law_row, [], []⟩,
  ⟨("law", none), "law", "law", defArgs s_law, defBody s_law, defScope s_law, [], []⟩]
def fa : List He.Fa := [.glo "_law_pool", .glo "_law_take", .glo "_law_all_signs", .glo "_law_text", .glo "_law_parts", .glo "_law_tree", .glo "_law_rule", .glo "is_line", .glo "cells_of", .glo "closed", .glo "started", .glo "takes", .glo "moved", .glo "is_done", .glo "is_allowed_rules", .glo "check_settings", .glo "is_allowed_patterns", .glo "_law_form", .glo "_law_built", .glo "_law_marks", .glo "_law_ruled", .glo "_law_ends", .glo "_law_fits", .glo "_law_bears", .glo "_law_marked", .glo "_law_fed", .glo "_law_right", .glo "_law_line", .glo "_law_written", .glo "_law_row", .glo "law", .glo "Form", .cls "Form", .noat "Form" "pieces", .meth "Form" "__contains__", .meth "Form" "forms", .meth "Form" "holds", .meth "Form" "parts", .mkr "Form", .glo "Both", .cls "Both", .noat "Both" "left", .noat "Both" "right", .meth "Both" "__contains__", .meth "Both" "forms", .meth "Both" "holds", .mkr "Both", .glo "Either", .cls "Either", .noat "Either" "left", .noat "Either" "right", .meth "Either" "__contains__", .meth "Either" "forms", .meth "Either" "holds", .mkr "Either", .glo "Pattern", .cls "Pattern", .meth "Pattern" "__or__", .meth "Pattern" "__and__", .glo "Rule", .cls "Rule", .noat "Rule" "openers", .noat "Rule" "closers", .noat "Rule" "settings", .meth "Rule" "begins_on", .meth "Rule" "ends_on", .mkr "Rule", .meth "Rule" "with_marks", .glo "Gluer", .cls "Gluer", .noat "Gluer" "rule", .noat "Gluer" "opened", .noat "Gluer" "given", .meth "Gluer" "taken", .meth "Gluer" "put", .meth "Gluer" "__call__", .mkr "Gluer", .meth "Gluer" "finish", .meth "Gluer" "waiting", .free "any", .free "bool", .free "int", .free "isinstance", .free "len", .free "list", .free "max", .free "min", .free "range", .free "str", .free "tuple", .str "ANY_CELL" "<any>", .str "DIGITS_CELL" "<digits>", .str "DIGIT_SIGNS" "0123456789", .glo "FIELDS", .glo "FREE_CELLS", .str "LETTER_SIGNS" "ABCDEFGHIJKLMNOPQRSTUVWXYZabcdefghijklmnopqrstuvwxyz", .int "MOST_FORMS" 3, .int "MOST_PARTS" 4, .int "MOST_SIGNS" 4, .str "SIGNS" " #-.0123456789:>ABCDEFGHIJKLMNOPQRSTUVWXYZabcdefghijklmnopqrstuvwxyz", .str "WORD_CELL" "<word>"]
abbrev FnU : Type := Option (Str × Str × Arguments × FuncBody × Scope × Addr × Addr)
def fwDrop (z : Str × Str × Arguments × FuncBody × Scope × Addr × List (Str × Addr) × Addr) : Str × Str × Arguments × FuncBody × Scope × Addr × Addr := (z.1, z.2.1, z.2.2.1, z.2.2.2.1, z.2.2.2.2.1, z.2.2.2.2.2.1, z.2.2.2.2.2.2.2)
theorem fw_mk {L : He.FnW} {n q : Str} {a : Arguments} {b : FuncBody} {s : Scope} {m m' : Addr} {c : List (Str × Addr)} (h : L.map fwDrop = some (n, q, a, b, s, m, m')) (k : decide (L.map (fun z => z.2.2.2.2.2.2.1) = some c) = true) : L = some (n, q, a, b, s, m, c, m') := by
  have k := of_decide_eq_true k
  cases L with
  | none => cases h
  | some z =>
    obtain ⟨z1, z2, z3, z4, z5, z6, z7, z8⟩ := z
    have k : z7 = c := Option.some.inj k
    have h : (z1, z2, z3, z4, z5, z6, z8) = (n, q, a, b, s, m, m') := Option.some.inj h
    simp only [Prod.mk.injEq] at h
    obtain ⟨h1, h2, h3, h4, h5, h6, h7⟩ := h
    rw [k, h1, h2, h3, h4, h5, h6, h7]
def fwL_Rule_tags (K : PySem.W.Frag) : He.FnW := fnG K "Rule" "tags"
def lhs_Rule_tags (K : PySem.W.Frag) : FnU := (fwL_Rule_tags K).map fwDrop
def rhs_Rule_tags : FnU := some (("tags" : Str), ("Rule.tags" : Str), defArgs s_Rule_tags, FuncBody.stmts (defBody s_Rule_tags), defScope s_Rule_tags, mainGlobals, builtinsNs)
def clo_Rule_tags (K : PySem.W.Frag) : List (Str × Addr) := []
def fwL_Rule_most (K : PySem.W.Frag) : He.FnW := fnG K "Rule" "most"
def lhs_Rule_most (K : PySem.W.Frag) : FnU := (fwL_Rule_most K).map fwDrop
def rhs_Rule_most : FnU := some (("most" : Str), ("Rule.most" : Str), defArgs s_Rule_most, FuncBody.stmts (defBody s_Rule_most), defScope s_Rule_most, mainGlobals, builtinsNs)
def clo_Rule_most (K : PySem.W.Frag) : List (Str × Addr) := []
def fwL_Rule_alone (K : PySem.W.Frag) : He.FnW := fnG K "Rule" "alone"
def lhs_Rule_alone (K : PySem.W.Frag) : FnU := (fwL_Rule_alone K).map fwDrop
def rhs_Rule_alone : FnU := some (("alone" : Str), ("Rule.alone" : Str), defArgs s_Rule_alone, FuncBody.stmts (defBody s_Rule_alone), defScope s_Rule_alone, mainGlobals, builtinsNs)
def clo_Rule_alone (K : PySem.W.Frag) : List (Str × Addr) := []
def fwL_Gluer_many (K : PySem.W.Frag) : He.FnW := fnG K "Gluer" "many"
def lhs_Gluer_many (K : PySem.W.Frag) : FnU := (fwL_Gluer_many K).map fwDrop
def rhs_Gluer_many : FnU := some (("many" : Str), ("Gluer.many" : Str), defArgs s_Gluer_many, FuncBody.stmts (defBody s_Gluer_many), defScope s_Gluer_many, mainGlobals, builtinsNs)
def clo_Gluer_many (K : PySem.W.Frag) : List (Str × Addr) := []
def fw_Rule_tags (K : PySem.W.Frag) : Prop := fnG K "Rule" "tags" = some (("tags" : Str), ("Rule.tags" : Str), defArgs s_Rule_tags, FuncBody.stmts (defBody s_Rule_tags), defScope s_Rule_tags, mainGlobals, [], builtinsNs)
def fw_Rule_most (K : PySem.W.Frag) : Prop := fnG K "Rule" "most" = some (("most" : Str), ("Rule.most" : Str), defArgs s_Rule_most, FuncBody.stmts (defBody s_Rule_most), defScope s_Rule_most, mainGlobals, [], builtinsNs)
def fw_Rule_alone (K : PySem.W.Frag) : Prop := fnG K "Rule" "alone" = some (("alone" : Str), ("Rule.alone" : Str), defArgs s_Rule_alone, FuncBody.stmts (defBody s_Rule_alone), defScope s_Rule_alone, mainGlobals, [], builtinsNs)
def fw_Gluer_many (K : PySem.W.Frag) : Prop := fnG K "Gluer" "many" = some (("many" : Str), ("Gluer.many" : Str), defArgs s_Gluer_many, FuncBody.stmts (defBody s_Gluer_many), defScope s_Gluer_many, mainGlobals, [], builtinsNs)
def tabs (P : Program) (K : PySem.W.Frag) : Bool := (patB K && (He.tupB K "FIELDS" [.str "most", .str "alone", .str "tags", .str "quiet"] && (He.tupB K "FREE_CELLS" [.str "<digits>", .str "<word>", .str "<any>"] && (prB K "Rule" "tags" "Rule.tags" && (prB K "Rule" "most" "Rule.most" && (prB K "Rule" "alone" "Rule.alone" && (prB K "Gluer" "many" "Gluer.many" && true)))))))
/-! the top, run in the kernel -/
abbrev RR : PySem.W.OpenRow := PySem.W.OpenLaw.row PySem.Challenge.rw_gluedlines_k29_records_put_together_by_t
def loose0 : List PySem.Str := [("_wall" : PySem.Str), ("Gluer" : PySem.Str), ("SIGNS" : PySem.Str), ("DIGIT_SIGNS" : PySem.Str), ("LETTER_SIGNS" : PySem.Str), ("is_line" : PySem.Str), ("DIGITS_CELL" : PySem.Str), ("WORD_CELL" : PySem.Str), ("ANY_CELL" : PySem.Str), ("FREE_CELLS" : PySem.Str), ("cells_of" : PySem.Str), ("takes" : PySem.Str), ("closed" : PySem.Str), ("started" : PySem.Str), ("moved" : PySem.Str), ("is_done" : PySem.Str), ("GlueError" : PySem.Str), ("NoForm" : PySem.Str), ("NoRule" : PySem.Str), ("MOST_FORMS" : PySem.Str), ("MOST_PARTS" : PySem.Str), ("MOST_SIGNS" : PySem.Str), ("is_allowed" : PySem.Str), ("is_allowed_patterns" : PySem.Str), ("Pattern" : PySem.Str), ("Form" : PySem.Str), ("Both" : PySem.Str), ("Either" : PySem.Str), ("FIELDS" : PySem.Str), ("is_allowed_rules" : PySem.Str), ("check_settings" : PySem.Str), ("are_among" : PySem.Str), ("Rule" : PySem.Str), ("_law_pool" : PySem.Str), ("_law_take" : PySem.Str), ("_law_all_signs" : PySem.Str), ("_law_text" : PySem.Str), ("_law_parts" : PySem.Str), ("_law_form" : PySem.Str), ("_law_ends" : PySem.Str)]
def loose1 : List PySem.Str := [("_law_fits" : PySem.Str), ("_law_line" : PySem.Str), ("_law_tree" : PySem.Str), ("_law_built" : PySem.Str), ("_law_bears" : PySem.Str), ("_law_written" : PySem.Str), ("_law_rule" : PySem.Str), ("_law_marks" : PySem.Str), ("_law_ruled" : PySem.Str), ("_law_marked" : PySem.Str), ("_law_row" : PySem.Str), ("_law_fed" : PySem.Str), ("_law_right" : PySem.Str)]
def loose : List PySem.Str := loose0 ++ loose1
def refsN (o : Obj) : List Addr := match o.data with
  | .seq its _ => its.toList.flatMap He.refV
  | .dict es _ => es.toList.flatMap fun e => He.refV e.val
  | .func fd => He.refV fd.code ++ He.refV fd.defaults ++ He.refV fd.kwdefaults ++ fd.closure.map (·.2)
  | .cls cd => [cd.ns]
  | .fields vs => vs.toList.flatMap He.refV
  | .cell (some v) => He.refV v
  | _ => []
def levG (g : Addr → Option Obj) : Nat → List Addr → List Addr
  | 0, as => as
  | n + 1, as => as ++ levG g n (as.flatMap fun a => match g a with
    | some o => refsN o
    | none => [])
def obK (K : PySem.W.Frag) : Bool × List FnU × He.AlD := (tabs RR.prog K && decide ((fwL_Rule_tags K).map (fun z => z.2.2.2.2.2.2.1) = some (clo_Rule_tags K)) && decide ((fwL_Rule_most K).map (fun z => z.2.2.2.2.2.2.1) = some (clo_Rule_most K)) && decide ((fwL_Rule_alone K).map (fun z => z.2.2.2.2.2.2.1) = some (clo_Rule_alone K)) && decide ((fwL_Gluer_many K).map (fun z => z.2.2.2.2.2.2.1) = some (clo_Gluer_many K)), [lhs_Rule_tags K, lhs_Rule_most K, lhs_Rule_alone K, lhs_Gluer_many K], He.obsD fa fn K)
def obG (g : Addr → Option Obj) : Bool × List FnU × He.AlD := obK (He.frG g (levG g 5 [mainGlobals]))
def hk : PySem.W.Hook where
  α := Bool × List FnU × He.AlD
  obs := fun s => obG s.heap.get?
  val := fun _ => (true, [rhs_Rule_tags, rhs_Rule_most, rhs_Rule_alone, rhs_Gluer_many], He.valD fn)
  says := fun _ h => ∃ K : PySem.W.Frag, K.In h ∧ obK K = (true, [rhs_Rule_tags, rhs_Rule_most, rhs_Rule_alone, rhs_Gluer_many], He.valD fn)
  of := fun _ _ e => ⟨_, He.frG_in, e⟩
  keeps := fun _ _ _ ⟨K, hK, c⟩ k => ⟨K, PySem.W.Frag.In.keeps hK k, c⟩
def ob (s : PySem.W.SharedT) : Bool × List FnU × He.AlD := obG (HandSHeadRun.getT s)
theorem ob_eq (s : PySem.W.SharedT) : ob s = hk.obs s.abs := by
  have e : HandSHeadRun.getT s = s.abs.heap.get? := funext (HandSHeadRun.getT_eq s)
  show obG (HandSHeadRun.getT s) = obG s.abs.heap.get?
  rw [e]
theorem run_join {α β γ δ : Type} {x : Option δ} {A : δ → α} {B : δ → β} {C : δ → γ} {a : α} {b : β} {c : γ} (h1 : x.map A = some a) (h2 : x.map B = some b) (h3 : x.map C = some c) : x.map (fun s => (A s, B s, C s)) = some (a, b, c) := by
  cases x with
  | none => cases h1
  | some s =>
    have e1 : A s = a := Option.some.inj h1
    have e2 : B s = b := Option.some.inj h2
    have e3 : C s = c := Option.some.inj h3
    subst e1 e2 e3
    rfl
theorem runA (w : World) (os : OsState) : (HandSHeadRun.endF (HandSHeadRun.stepQ (HandSHeadRun.denQ HandSHeadRun.tabQ) RR.prog w) 60000 RR.prog w os).map (fun s => HandSHeadRun.looksF RR.prog (PySem.W.boot_heap w.params) s.abs) = some true := by kernel_rfl
theorem runB (w : World) (os : OsState) : (HandSHeadRun.endF (HandSHeadRun.stepQ (HandSHeadRun.denQ HandSHeadRun.tabQ) RR.prog w) 60000 RR.prog w os).map (fun s => HandSHeadRun.seenQ (PySem.W.view RR.prog [61]) loose (PySem.importedModules RR.prog.main.body) (fun s => PySem.W.xlAt (PySem.W.view RR.prog [61]) [] s && PySem.W.recOk RR.toRowW.records s) s.abs) = some (PySem.W.openGood (PySem.W.view RR.prog [61]) loose) := by kernel_rfl
theorem runC (w : World) (os : OsState) : (HandSHeadRun.endF (HandSHeadRun.stepQ (HandSHeadRun.denQ HandSHeadRun.tabQ) RR.prog w) 60000 RR.prog w os).map ob = some (hk.val w) := by kernel_rfl
theorem run (w : World) : HandSHeadRun.RunEq RR (PySem.W.view RR.prog [61]) hk ob 60000 loose w := fun os => run_join (runA w os) (runB w os) (runC w os)


def qBoth : R (Pat × Pat) := ⟨fun K F v a => ∃ (p dx : Addr) (u0 u1 : V), v = .ref p ∧ F p = some (.ins (He.ga K "Both") dx [("left", u0), ("right", u1)]) ∧ qPat.r K F u0 a.1 ∧ qPat.r K F u1 a.2, fun e ⟨p, dx, u0, u1, h1, h2, k0, k1⟩ => ⟨p, dx, u0, u1, h1, e _ _ h2, qPat.mono e k0, qPat.mono e k1⟩⟩
def qEither : R (Pat × Pat) := ⟨fun K F v a => ∃ (p dx : Addr) (u0 u1 : V), v = .ref p ∧ F p = some (.ins (He.ga K "Either") dx [("left", u0), ("right", u1)]) ∧ qPat.r K F u0 a.1 ∧ qPat.r K F u1 a.2, fun e ⟨p, dx, u0, u1, h1, h2, k0, k1⟩ => ⟨p, dx, u0, u1, h1, e _ _ h2, qPat.mono e k0, qPat.mono e k1⟩⟩

def qRule : R ((List Pat) × (List Pat) × (List (Str × Th))) := ⟨fun K F v a => ∃ (p dx : Addr) (u0 u1 u2 : V), v = .ref p ∧ F p = some (.ins (He.ga K "Rule") dx [("openers", u0), ("closers", u1), ("settings", u2)]) ∧ (qL qPat).r K F u0 a.1 ∧ (qL qPat).r K F u1 a.2.1 ∧ qSd.r K F u2 a.2.2, fun e ⟨p, dx, u0, u1, u2, h1, h2, k0, k1, k2⟩ => ⟨p, dx, u0, u1, u2, h1, e _ _ h2, (qL qPat).mono e k0, (qL qPat).mono e k1, qSd.mono e k2⟩⟩

def m_law_pool (a__law_script : (List Int)) (a__law_k : Int) : Option (Int × Int) :=
  (((gd (shp (dL dI) a__law_script) <| gd (shp (dL dI) ([] : List Int)) <| if (!decide (a__law_script = ([] : List Int))) = true then (gd (modOk ((a__law_script).length : Int)) <| (atI a__law_script (a__law_k % ((a__law_script).length : Int))).bind fun t14 => some (t14)) else (some (0)))).bind fun (t1 : Int) => gd (modOk 2147483629) <| gd (mulOk 104729 a__law_k) <| gd (mulOk (((t1 % 2147483629) + (104729 * a__law_k)) + 11) 48271) <| gd (modOk 2147483647) <| gd (powOk 10 18) <| gd (mulOk t1 (b2I ((decide ((10 ^ (18 : Int).toNat) ≤ t1))))) <| some ((t1 * (b2I ((decide ((10 ^ (18 : Int).toNat) ≤ t1))))), (((((t1 % 2147483629) + (104729 * a__law_k)) + 11) * 48271) % 2147483647)))
def m_law_take (a__law_pool_here : (Int × Int)) (a__law_many : Int) : Option (Int × (Int × Int)) :=
  (if (decide (0 < (a__law_pool_here).1)) = true then (gd (modOk a__law_many) <| gd (divOk a__law_many) <| some (((a__law_pool_here).1 % a__law_many), (((a__law_pool_here).1 / a__law_many), (a__law_pool_here).2))) else (gd (mulOk (a__law_pool_here).2 48271) <| gd (modOk 2147483647) <| gd (mulOk (((a__law_pool_here).1, ((((a__law_pool_here).2 * 48271) + 11) % 2147483647))).2 (((a__law_pool_here).1, ((((a__law_pool_here).2 * 48271) + 11) % 2147483647))).2) <| gd (modOk 2147483629) <| gd (divOk 64) <| gd (modOk a__law_many) <| some ((((((((a__law_pool_here).1, ((((a__law_pool_here).2 * 48271) + 11) % 2147483647))).2 * (((a__law_pool_here).1, ((((a__law_pool_here).2 * 48271) + 11) % 2147483647))).2) % 2147483629) / 64) % a__law_many), ((a__law_pool_here).1, ((((a__law_pool_here).2 * 48271) + 11) % 2147483647)))))
def m_law_all_signs  : Option Str :=
  (some (" #-.0123456789:>ABCDEFGHIJKLMNOPQRSTUVWXYZabcdefghijklmnopqrstuvwxyz" : Str))
def m_law_text_b1 (t1 : (Int × (Int × Int))) (x28 : Int) (s30 : ((Int × Int) × Str)) : Option ((Int × Int) × Str) :=
  (if (decide (t1.1 = 0)) = true then ((m_law_all_signs).bind fun t43 => (m_law_take (s30.1) (68)).bind fun t51 => (ixS t43 t51.1).bind fun t61 => gd (catOk s30.2 t61) <| some (t51.2, (s30.2 ++ t61))) else ((m_law_take (s30.1) (4)).bind fun t64 => (ixS ("a1-b" : Str) t64.1).bind fun t74 => gd (catOk s30.2 t74) <| some (t64.2, (s30.2 ++ t74))))
def m_law_text (a__law_pool_here : (Int × Int)) : Option (Str × (Int × Int)) :=
  ((m_law_take (a__law_pool_here) (3)).bind fun t1 => (m_law_take (t1.2) (2)).bind fun t11 => gd (rgOk 0 (1 + t11.1)) <| (loopS (m_law_text_b1 t1) (rng 0 (1 + t11.1)) (t11.2, ("" : Str))).bind fun t22 => some (t22.2, t22.1))
def m_law_parts_b1  (x28 : Int) (s30 : ((Int × Int) × (List Str))) : Option ((Int × Int) × (List Str)) :=
  ((m_law_take (s30.1) (5)).bind fun t47 => gd (shp (dL dS) s30.2) <| gd (shp (dL dS) ([] : List Str)) <| (if (!decide (s30.2 = ([] : List Str))) = true then ((atI s30.2 (-1)).bind fun t81 => some ((!decide (t81 ∈ [("<any>" : Str), ("<digits>" : Str), ("<word>" : Str)])))) else some (false)).bind fun t75 => if ((decide (t47.1 = 0)) && (!decide (("<any>" : Str) ∈ s30.2))) = true then (gd (fits s30.2) <| some (t47.2, (s30.2 ++ [("<any>" : Str)]))) else (if (decide (t47.1 = 1)) = true then (gd (fits s30.2) <| some (t47.2, (s30.2 ++ [("<digits>" : Str)]))) else (if ((decide (t47.1 = 2)) || t75) = true then (gd (fits s30.2) <| some (t47.2, (s30.2 ++ [("<word>" : Str)]))) else ((m_law_text (t47.2)).bind fun t118 => gd (fits s30.2) <| some (t118.2, (s30.2 ++ [t118.1]))))))
def m_law_parts (a__law_pool_here : (Int × Int)) : Option ((List Str) × (Int × Int)) :=
  ((m_law_take (a__law_pool_here) (3)).bind fun t10 => gd (rgOk 0 (1 + t10.1)) <| (loopS m_law_parts_b1 (rng 0 (1 + t10.1)) (t10.2, ([] : List Str))).bind fun t21 => some (t21.2, t21.1))
def m_law_tree (a__law_pool_here : (Int × Int)) : Option ((Str × (List Str) × (List Str)) × (Int × Int)) :=
  ((m_law_take (a__law_pool_here) (8)).bind fun t1 => if (decide (t1.1 = 0)) = true then ((m_law_parts (t1.2)).bind fun t12 => (m_law_parts (t12.2)).bind fun t22 => some ((("|" : Str), t12.1, t22.1), t22.2)) else (if (decide (t1.1 = 1)) = true then ((m_law_text (t1.2)).bind fun t39 => (m_law_text (t39.2)).bind fun t55 => some ((("&" : Str), [t39.1, ("<any>" : Str)], [("<any>" : Str), t55.1]), t55.2)) else (if (decide (t1.1 = 2)) = true then ((m_law_parts (t1.2)).bind fun t78 => some ((("&" : Str), t78.1, [("<any>" : Str)]), t78.2)) else ((m_law_parts (t1.2)).bind fun t100 => some ((("=" : Str), t100.1, ([] : List Str)), t100.2)))))
def m_law_rule_b1  (x17 : Int) (s19 : (Int × Int)) : Option (Option (Str × (List Str) × (List Str)) × (Int × Int)) :=
  ((m_law_tree (s19)).bind fun t37 => some (some t37.1, (t37.2)))
def m_law_rule_b2  (x82 : Int) (s84 : (Int × Int)) : Option (Option (Str × (List Str) × (List Str)) × (Int × Int)) :=
  ((m_law_tree (s84)).bind fun t102 => some (some t102.1, (t102.2)))
def m_law_rule (a__law_pool_here : (Int × Int)) : Option (((List (Str × (List Str) × (List Str))) × (List (Str × (List Str) × (List Str))) × (Option Int) × Bool × (Option Int) × Bool) × (Int × Int)) :=
  ((m_law_take (a__law_pool_here) (4)).bind fun t1 => gd (rgOk 0 t1.1) <| gd (fitsE (rng 0 t1.1)) <| (comp m_law_rule_b1 (rng 0 t1.1) (t1.2)).bind fun t13 => (m_law_take (t13.2) (3)).bind fun t66 => gd (rgOk 0 t66.1) <| gd (fitsE (rng 0 t66.1)) <| (comp m_law_rule_b2 (rng 0 t66.1) (t66.2)).bind fun t78 => (m_law_take (t78.2) (4)).bind fun t131 => (m_law_take (t131.2) (20)).bind fun t141 => (m_law_take (t141.2) (3)).bind fun t160 => (atI [none, (some (1 + t131.1)), (some (1 + t141.1))] t160.1).bind fun t170 => (m_law_take (t160.2) (3)).bind fun t174 => (m_law_take (t174.2) (10)).bind fun t184 => (m_law_take (t184.2) (3)).bind fun t203 => (atI [none, (some t174.1), (some t184.1)] t203.1).bind fun t213 => (m_law_take (t203.2) (3)).bind fun t217 => (m_law_take (t217.2) (2)).bind fun t227 => some ((t13.1, t78.1, t170, (decide (0 < t217.1)), t213, (decide (t227.1 = 1))), t227.2))
def m_Rule_tags (a_self : (List Pat × List Pat × List (Str × Th))) : Option (Option Int) :=
  ((getSd ("tags" : Str) a_self.2.2).bind fun t3 => (thOI t3).bind fun t7 => some t7)
def m_Gluer_taken_b1 (a_tag : (Option Int)) (x9 : Int) (s11 : ((List ((Option Int) × (List Str))) × Int)) : Option (Ctl ((List ((Option Int) × (List Str))) × Int) ((List Str) × ((List ((Option Int) × (List Str))) × Int))) :=
  ((atI s11.1 x9).bind fun t28 => gd (shp (dO dI) (t28).1) <| gd (shp (dO dI) a_tag) <| if (decide ((t28).1 = a_tag)) = true then ((popAt s11.1 x9).bind fun t37 => some (.rt ((t37.1).2, (t37.2, s11.2)))) else (some (.nx ((s11.1, s11.2)))))
def m_Gluer_taken (a_self : ((List Pat × List Pat × List (Str × Th)) × (List ((Option Int) × (List Str))) × Int)) (a_tag : (Option Int)) : Option ((List Str) × ((List ((Option Int) × (List Str))) × Int)) :=
  (gd (rgOk 0 ((a_self.2.1).length : Int)) <| (loopC (m_Gluer_taken_b1 a_tag) (rng 0 ((a_self.2.1).length : Int)) ((a_self.2.1, a_self.2.2))).bind fun t2 => aft t2 fun s55 => some (([] : List Str), (s55.1, s55.2)))
def m_Form_forms (a_self : (List Str)) : Option (List (List Str)) :=
  (some [a_self])
def m_Form_holds (a_self : (List Str)) (a_truths : (List Bool)) : Option Bool :=
  ((atI a_truths 0).bind fun t1 => some t1)
def m_is_line_b1  (x28 : Str) (s30 : Unit) : Option (Ctl Unit Bool) :=
  (if (!inS x28 (" #-.0123456789:>ABCDEFGHIJKLMNOPQRSTUVWXYZabcdefghijklmnopqrstuvwxyz" : Str)) = true then (some (.rt false)) else (some (.nx ())))
def m_is_line (a_thing : Th) : Option Bool :=
  ((if (!(thIs "str" a_thing)) = true then some (true) else ((thS a_thing).bind fun t10 => some ((decide (t10 = ("" : Str)))))).bind fun t4 => if t4 = true then (some false) else ((thS a_thing).bind fun t20 => (loopC m_is_line_b1 (sgns t20) ()).bind fun t23 => aft t23 fun s46 => some true))
def m_cells_of_b1  (x23 : Str) (s25 : (List Str)) : Option (List Str) :=
  (if (decide (x23 ∈ (["<digits>", "<word>", "<any>"] : List Str))) = true then (gd (fits s25) <| some ((s25 ++ [x23]))) else (gd (fitsS x23) <| gd (fits2 s25 (sgns x23)) <| some ((s25 ++ (sgns x23)))))
def m_cells_of (a_parts : (List Str)) : Option (List Str) :=
  ((loopS m_cells_of_b1 a_parts (([] : List Str))).bind fun t17 => some t17)
def m_closed_b1 (a_cells : (List Str)) (a_positions : (List Int)) (x17 : Int) (s19 : (List Int)) : Option (List Int) :=
  ((if (decide (x17 ∈ a_positions)) = true then some (true) else ((if (decide (0 < x17)) = true then ((atI a_cells (x17 - 1)).bind fun t69 => some (((decide (t69 = ("<any>" : Str))) && (decide ((x17 - 1) ∈ s19))))) else some (false)).bind fun t63 => some (t63))).bind fun t53 => if t53 = true then (gd (fits s19) <| some ((s19 ++ [x17]))) else (some (s19)))
def m_closed (a_cells : (List Str)) (a_positions : (List Int)) : Option (List Int) :=
  (gd (rgOk 0 (((a_cells).length : Int) + 1)) <| (loopS (m_closed_b1 a_cells a_positions) (rng 0 (((a_cells).length : Int) + 1)) (([] : List Int))).bind fun t11 => some t11)
def m_started (a_cells : (List Str)) : Option (List Int) :=
  ((m_closed (a_cells) (([0] : List Int))).bind fun t8 => some t8)
def m_Form_parts (a_self : (List Str)) : Option (List Str) :=
  (some a_self)
def m_takes (a_cell : Str) (a_sign : Str) : Option Bool :=
  (if (decide (a_cell = ("<any>" : Str))) = true then (some true) else (if (decide (a_cell = ("<digits>" : Str))) = true then (some (inS a_sign ("0123456789" : Str))) else (if (decide (a_cell = ("<word>" : Str))) = true then (some (inS a_sign ("ABCDEFGHIJKLMNOPQRSTUVWXYZabcdefghijklmnopqrstuvwxyz" : Str))) else (some (decide (a_cell = a_sign))))))
def m_moved_b1 (a_cells : (List Str)) (a_sign : Str) (x23 : Int) (s25 : (List Int)) : Option (List Int) :=
  ((((if (decide (x23 < ((a_cells).length : Int))) = true then ((atI a_cells x23).bind fun t61 => (m_takes (t61) (a_sign)).bind fun t65 => some (t65)) else some (false)).bind fun t55 => if t55 = true then ((atI a_cells x23).bind fun t80 => (if (decide (t80 = ("<any>" : Str))) = true then (some (x23)) else (some ((x23 + 1)))).bind fun t84 => gd (fits s25) <| some ((s25 ++ [t84]))) else (some (s25)))).bind fun (t39 : (List Int)) => (if (decide (0 < x23)) = true then ((atI a_cells (x23 - 1)).bind fun t169 => (if (decide (t169 ∈ [("<digits>" : Str), ("<word>" : Str)])) = true then ((atI a_cells (x23 - 1)).bind fun t197 => (m_takes (t197) (a_sign)).bind fun t201 => some (t201)) else some (false)).bind fun t191 => some (t191)) else some (false)).bind fun t163 => if t163 = true then (gd (fits t39) <| some ((t39 ++ [x23]))) else (some (t39)))
def m_moved (a_cells : (List Str)) (a_positions : (List Int)) (a_sign : Str) : Option (List Int) :=
  ((loopS (m_moved_b1 a_cells a_sign) a_positions (([] : List Int))).bind fun t17 => (m_closed (a_cells) (t17)).bind fun t244 => some t244)
def m_is_done (a_cells : (List Str)) (a_positions : (List Int)) : Option Bool :=
  (some (decide (((a_cells).length : Int) ∈ a_positions)))
def m_pat___contains___b1 (t65 : (List Str)) (x86 : Str) (s88 : (List Int)) : Option (List Int) :=
  ((m_moved (t65) (s88) (x86)).bind fun t102 => some (t102))
def m_pat___contains___b2 (a_line : Str) (x37 : (List Str)) (s39 : (List Bool)) : Option (List Bool) :=
  ((m_Form_parts (x37)).bind fun t56 => (m_cells_of (t56)).bind fun t65 => (m_started (t65)).bind fun t73 => (loopS (m_pat___contains___b1 t65) (sgns a_line) (t73)).bind fun t81 => (m_is_done (t65) (t81)).bind fun t119 => gd (fits s39) <| some ((s39 ++ [t119])))
def m_pat___contains__ (a_self : Pat) (a_line : Str) : Option Bool :=
  ((m_is_line ((Th.d (PyData.str (a_line))))).bind fun t2 => if (!t2) = true then (some false) else ((m_pat_forms (a_self)).bind fun t19 => (loopS (m_pat___contains___b2 a_line) t19 (([] : List Bool))).bind fun t31 => (m_pat_holds (a_self) (t31)).bind fun t151 => some t151))
def m_Rule_begins_on_b1 (a_line : Str) (x12 : Pat) (s14 : Unit) : Option (Option Bool × Unit) :=
  ((m_pat___contains__ (x12) (a_line)).bind fun t31 => some (some t31, ()))
def m_Rule_begins_on (a_self : (List Pat × List Pat × List (Str × Th))) (a_line : Str) : Option Bool :=
  (gd (fitsE a_self.1) <| (comp (m_Rule_begins_on_b1 a_line) a_self.1 ()).bind fun t8 => some (t8.1.any id))
def m_Rule_ends_on_b1 (a_line : Str) (x12 : Pat) (s14 : Unit) : Option (Option Bool × Unit) :=
  ((m_pat___contains__ (x12) (a_line)).bind fun t31 => some (some t31, ()))
def m_Rule_ends_on (a_self : (List Pat × List Pat × List (Str × Th))) (a_line : Str) : Option Bool :=
  (gd (fitsE a_self.2.1) <| (comp (m_Rule_ends_on_b1 a_line) a_self.2.1 ()).bind fun t8 => some (t8.1.any id))
def m_Rule_most (a_self : (List Pat × List Pat × List (Str × Th))) : Option (Option Int) :=
  ((getSd ("most" : Str) a_self.2.2).bind fun t3 => (thOI t3).bind fun t7 => some t7)
def m_Rule_alone (a_self : (List Pat × List Pat × List (Str × Th))) : Option Bool :=
  ((getSd ("alone" : Str) a_self.2.2).bind fun t3 => (thB t3).bind fun t7 => some t7)
def m_Gluer_put (a_self : ((List Pat × List Pat × List (Str × Th)) × (List ((Option Int) × (List Str))) × Int)) (a_line : Str) (a_tag : (Option Int)) (a_thing : Str) : Option ((List ((Option Int) × (List Str))) × ((List ((Option Int) × (List Str))) × Int)) :=
  ((((m_Rule_tags (a_self.1)).bind fun t4 => if ((t4).isNone) = true then (some (none)) else (some (a_tag)))).bind fun (t1 : (Option Int)) => (m_Gluer_taken ((a_self.1, a_self.2.1, a_self.2.2)) (t1)).bind fun t24 => (m_Rule_begins_on (a_self.1) (a_line)).bind fun t50 => ((if ((!(t24.1).isEmpty) && t50) = true then (gd (fits ([] : List ((Option Int) × (List Str)))) <| some ((([] : List ((Option Int) × (List Str))) ++ [(t1, t24.1)]), ([] : List Str))) else (some (([] : List ((Option Int) × (List Str))), t24.1)))).bind fun (t58 : ((List ((Option Int) × (List Str))) × (List Str))) => if (!(!(t58.2).isEmpty)) = true then ((if (!t50) = true then ((m_Rule_alone (a_self.1)).bind fun t108 => some ((!t108))) else some (false)).bind fun t102 => if t102 = true then (some (t58.1, (t24.2.1, t24.2.2))) else ((m_Rule_tags (a_self.1)).bind fun t123 => (if (trI t123) = true then ((m_Rule_tags (a_self.1)).bind fun t148 => (t148).bind fun t156 => some ((decide (t156 ≤ ((t24.2.1).length : Int))))) else some (false)).bind fun t142 => if t142 = true then ((popAt t24.2.1 0).bind fun t166 => gd (fits t58.1) <| gd (fits2 t58.2 [a_thing]) <| (((m_Rule_ends_on (a_self.1) (a_line)).bind fun t198 => (if t198 = true then some (true) else ((m_Rule_most (a_self.1)).bind fun t223 => gd (shp (dO dI) t223) <| gd (shp (dO dI) (some (((t58.2 ++ [a_thing])).length : Int))) <| some ((decide (t223 = (some (((t58.2 ++ [a_thing])).length : Int))))))).bind fun t217 => if t217 = true then (gd (fits (t58.1 ++ [t166.1])) <| some (((t58.1 ++ [t166.1]) ++ [(t1, (t58.2 ++ [a_thing]))]), (t166.2, t24.2.2))) else (gd (fits t166.2) <| some ((t58.1 ++ [t166.1]), ((t166.2 ++ [(t1, (t58.2 ++ [a_thing]))]), t24.2.2))))).bind fun (t192 : ((List ((Option Int) × (List Str))) × ((List ((Option Int) × (List Str))) × Int))) => some (t192.1, (t192.2.1, (t192.2.2 + ((t192.1).length : Int))))) else (gd (fits2 t58.2 [a_thing]) <| (((m_Rule_ends_on (a_self.1) (a_line)).bind fun t305 => (if t305 = true then some (true) else ((m_Rule_most (a_self.1)).bind fun t330 => gd (shp (dO dI) t330) <| gd (shp (dO dI) (some (((t58.2 ++ [a_thing])).length : Int))) <| some ((decide (t330 = (some (((t58.2 ++ [a_thing])).length : Int))))))).bind fun t324 => if t324 = true then (gd (fits t58.1) <| some ((t58.1 ++ [(t1, (t58.2 ++ [a_thing]))]), (t24.2.1, t24.2.2))) else (gd (fits t24.2.1) <| some (t58.1, ((t24.2.1 ++ [(t1, (t58.2 ++ [a_thing]))]), t24.2.2))))).bind fun (t299 : ((List ((Option Int) × (List Str))) × ((List ((Option Int) × (List Str))) × Int))) => some (t299.1, (t299.2.1, (t299.2.2 + ((t299.1).length : Int))))))) else (gd (fits2 t58.2 [a_thing]) <| (((m_Rule_ends_on (a_self.1) (a_line)).bind fun t412 => (if t412 = true then some (true) else ((m_Rule_most (a_self.1)).bind fun t437 => gd (shp (dO dI) t437) <| gd (shp (dO dI) (some (((t58.2 ++ [a_thing])).length : Int))) <| some ((decide (t437 = (some (((t58.2 ++ [a_thing])).length : Int))))))).bind fun t431 => if t431 = true then (gd (fits t58.1) <| some ((t58.1 ++ [(t1, (t58.2 ++ [a_thing]))]), (t24.2.1, t24.2.2))) else (gd (fits t24.2.1) <| some (t58.1, ((t24.2.1 ++ [(t1, (t58.2 ++ [a_thing]))]), t24.2.2))))).bind fun (t406 : ((List ((Option Int) × (List Str))) × ((List ((Option Int) × (List Str))) × Int))) => some (t406.1, (t406.2.1, (t406.2.2 + ((t406.1).length : Int))))))
def m_Gluer___call__ (a_self : ((List Pat × List Pat × List (Str × Th)) × (List ((Option Int) × (List Str))) × Int)) (a_line : Str) (a_tag : (Option Int)) : Option ((List ((Option Int) × (List Str))) × ((List ((Option Int) × (List Str))) × Int)) :=
  ((m_Gluer_put ((a_self.1, a_self.2.1, a_self.2.2)) (a_line) (a_tag) (a_line)).bind fun t1 => some (t1.1, (t1.2.1, t1.2.2)))
def m_is_allowed_rules (a_field : Str) (a_value : Th) : Option Bool :=
  (if (decide (a_field ∈ [("alone" : Str), ("quiet" : Str)])) = true then (some ((thIsB a_value true) || (thIsB a_value false))) else (if (thNon a_value) = true then (some true) else (if ((!(thIs "int" a_value)) || (thIs "bool" a_value)) = true then (some false) else (if (decide (a_field = ("most" : Str))) = true then ((thI a_value).bind fun t11 => some (decide (1 ≤ t11) && decide (t11 ≤ 20))) else ((thI a_value).bind fun t14 => some (decide (0 ≤ t14) && decide (t14 ≤ 9)))))))
def m_check_settings_b1 (a_settings : (List (Str × Th))) (x11 : Str) (s13 : Unit) : Option Unit :=
  ((if ((getSd x11 a_settings).isSome) = true then ((getSd x11 a_settings).bind fun t42 => (m_is_allowed_rules (x11) (t42)).bind fun t46 => some ((!t46))) else some (false)).bind fun t36 => if t36 = true then (none) else (some ()))
def m_check_settings (a_settings : (List (Str × Th))) : Option Unit :=
  ((loopS (m_check_settings_b1 a_settings) (["most", "alone", "tags", "quiet"] : List Str) ()).bind fun t6 => some ())
def m_Rule___init__ (a_begins : (List Pat)) (a_ends : (List Pat)) (a_most : Th) (a_alone : Th) (a_tags : Th) (a_quiet : Th) : Option ((List Pat) × (List Pat) × (List (Str × Th))) :=
  (if (decide (6 < (((a_begins).length : Int) + ((a_ends).length : Int)))) = true then (none) else ((m_check_settings ([(("most" : Str), a_most), (("alone" : Str), a_alone), (("tags" : Str), a_tags), (("quiet" : Str), a_quiet)])).bind fun t20 => some (a_begins, a_ends, [(("most" : Str), a_most), (("alone" : Str), a_alone), (("tags" : Str), a_tags), (("quiet" : Str), a_quiet)])))
def m_Rule_with_marks (a_self : (List Pat × List Pat × List (Str × Th))) (a_begins : (List Pat)) (a_ends : (List Pat)) : Option (List Pat × List Pat × List (Str × Th)) :=
  (gd (fits2 a_self.1 a_begins) <| gd (fits2 a_self.2.1 a_ends) <| gd (sdK a_self.2.2 ["most", "alone", "tags", "quiet"]) <| (m_Rule___init__ ((a_self.1 ++ a_begins)) ((a_self.2.1 ++ a_ends)) ((sdAt a_self.2.2 0)) ((sdAt a_self.2.2 1)) ((sdAt a_self.2.2 2)) ((sdAt a_self.2.2 3))).bind fun t42 => some t42)
def m_Gluer___init__ (a_rule : (List Pat × List Pat × List (Str × Th))) : Option ((List Pat × List Pat × List (Str × Th)) × (List ((Option Int) × (List Str))) × Int) :=
  ((m_Rule_with_marks (a_rule) (([] : List Pat)) (([] : List Pat))).bind fun t13 => some (t13, ([] : List ((Option Int) × (List Str))), 0))
def m_Either___init__ (a_one : Pat) (a_other : Pat) : Option (Pat × Pat) :=
  ((m_pat_forms (a_one)).bind fun t1 => (m_pat_forms (a_other)).bind fun t9 => if (decide ((3) < (((t1).length : Int) + ((t9).length : Int)))) = true then (none) else (some (a_one, a_other)))
def m_Pattern___or__ (a_self : Pat) (a_other : Pat) : Option Pat :=
  ((m_Either___init__ (a_self) (a_other)).bind fun t1 => some (Pat.either (t1).1 (t1).2))
def m_Both___init__ (a_one : Pat) (a_other : Pat) : Option (Pat × Pat) :=
  ((m_pat_forms (a_one)).bind fun t1 => (m_pat_forms (a_other)).bind fun t9 => if (decide ((3) < (((t1).length : Int) + ((t9).length : Int)))) = true then (none) else (some (a_one, a_other)))
def m_Pattern___and__ (a_self : Pat) (a_other : Pat) : Option Pat :=
  ((m_Both___init__ (a_self) (a_other)).bind fun t1 => some (Pat.both (t1).1 (t1).2))
def m_is_allowed (a_parts : (List Str)) (a_at : Int) : Option Bool :=
  ((atI a_parts a_at).bind fun t1 => if ((decide ((4) ≤ a_at)) || false) = true then (some false) else (if (decide (t1 = ("<any>" : Str))) = true then (some (!decide (("<any>" : Str) ∈ (cut a_parts none (some a_at))))) else (if (decide (t1 ∈ (["<digits>", "<word>", "<any>"] : List Str))) = true then (some true) else ((if (decide (0 < a_at)) = true then ((atI a_parts (a_at - 1)).bind fun t26 => some ((!decide (t26 ∈ (["<digits>", "<word>", "<any>"] : List Str))))) else some (false)).bind fun t20 => if t20 = true then (some false) else ((m_is_line ((Th.d (PyData.str (t1))))).bind fun t39 => (if t39 = true then (gd (fitsS t1) <| some ((decide (((t1).length : Int) ≤ (4))))) else some (false)).bind fun t48 => some t48)))))
def m_Form___init___b1 (a_parts : (List Str)) (x8 : Int) (s10 : Unit) : Option Unit :=
  ((m_is_allowed (a_parts) (x8)).bind fun t21 => if (!t21) = true then (none) else (some ()))
def m_Form___init__ (a_parts : (List Str)) : Option (List Str) :=
  (if (decide (((a_parts).length : Int) = 0)) = true then (none) else (gd (rgOk 0 ((a_parts).length : Int)) <| (loopS (m_Form___init___b1 a_parts) (rng 0 ((a_parts).length : Int)) ()).bind fun t3 => some (a_parts)))
def m_law_form (a__law_parts_here : (List Str)) : Option (List Str) :=
  (if (decide (((a__law_parts_here).length : Int) = 1)) = true then ((atI a__law_parts_here 0).bind fun t2 => (m_Form___init__ [t2]).bind fun t6 => some t6) else (if (decide (((a__law_parts_here).length : Int) = 2)) = true then ((atI a__law_parts_here 0).bind fun t15 => (atI a__law_parts_here 1).bind fun t19 => (m_Form___init__ [t15, t19]).bind fun t23 => some t23) else ((atI a__law_parts_here 0).bind fun t31 => (atI a__law_parts_here 1).bind fun t35 => (atI a__law_parts_here 2).bind fun t39 => (m_Form___init__ [t31, t35, t39]).bind fun t43 => some t43)))
def m_law_built (a__law_tree_here : (Str × (List Str) × (List Str))) : Option Pat :=
  (if (decide ((a__law_tree_here).1 = ("=" : Str))) = true then ((m_law_form ((a__law_tree_here).2.1)).bind fun t6 => some (Pat.form t6)) else (if (decide ((a__law_tree_here).1 = ("&" : Str))) = true then ((m_law_form ((a__law_tree_here).2.1)).bind fun t20 => (m_law_form ((a__law_tree_here).2.2)).bind fun t30 => (m_Pattern___and__ ((Pat.form t20)) ((Pat.form t30))).bind fun t40 => some t40) else ((m_law_form ((a__law_tree_here).2.1)).bind fun t50 => (m_law_form ((a__law_tree_here).2.2)).bind fun t60 => (m_Pattern___or__ ((Pat.form t50)) ((Pat.form t60))).bind fun t70 => some t70)))
def m_law_marks_b1  (x10 : (Str × (List Str) × (List Str))) (s12 : Unit) : Option (Option Pat × Unit) :=
  ((m_law_built (x10)).bind fun t29 => some (some t29, ()))
def m_law_marks (a__law_trees : (List (Str × (List Str) × (List Str)))) : Option (List Pat) :=
  (gd (fitsE a__law_trees) <| (comp m_law_marks_b1 a__law_trees ()).bind fun t6 => some t6.1)
def m_law_ruled (a__law_rule_here : ((List (Str × (List Str) × (List Str))) × (List (Str × (List Str) × (List Str))) × (Option Int) × Bool × (Option Int) × Bool)) : Option (List Pat × List Pat × List (Str × Th)) :=
  ((m_law_marks ((a__law_rule_here).1)).bind fun t3 => (m_law_marks ((a__law_rule_here).2.1)).bind fun t13 => (m_Rule___init__ (t3) (t13) ((thO (a__law_rule_here).2.2.1)) ((Th.d (PyData.bool ((a__law_rule_here).2.2.2.1)))) ((thO (a__law_rule_here).2.2.2.2.1)) ((Th.d (PyData.bool ((a__law_rule_here).2.2.2.2.2))))).bind fun t29 => some t29)
def m_law_ends_b1 (a__law_line_here : Str) (t30 : Str)  (s45 : ((List Int) × Int)) : Option (Bool × ((List Int) × Int)) :=
  (gd (fitsS a__law_line_here) <| (if (decide (s45.2 < ((a__law_line_here).length : Int))) = true then ((ixS a__law_line_here s45.2).bind fun t68 => some ((inS t68 t30))) else some (false)).bind fun t62 => some (t62, (s45.1, s45.2)))
def m_law_ends_b2   (s77 : ((List Int) × Int)) : Option ((List Int) × Int) :=
  (gd (fits s77.1) <| some ((s77.1 ++ [(s77.2 + 1)]), (s77.2 + 1)))
def m_law_ends (a__law_part : Str) (a__law_line_here : Str) (a__law_at : Int) : Option (List Int) :=
  (if (decide (a__law_part = ("<any>" : Str))) = true then (gd (fitsS a__law_line_here) <| gd (rgFit a__law_at (((a__law_line_here).length : Int) + 1)) <| some (rng a__law_at (((a__law_line_here).length : Int) + 1))) else (((if (decide (a__law_part ∈ [("<digits>" : Str), ("<word>" : Str)])) = true then (((if (decide (a__law_part = ("<word>" : Str))) = true then (some (("ABCDEFGHIJKLMNOPQRSTUVWXYZabcdefghijklmnopqrstuvwxyz" : Str))) else (some (("0123456789" : Str))))).bind fun (t30 : Str) => (whileS (m_law_ends_b1 a__law_line_here t30) m_law_ends_b2 fuel (([] : List Int), a__law_at)).bind fun t40 => some (t40.1)) else (gd (fitsS a__law_part) <| gd (fitsS a__law_line_here) <| if (decide ((cutS a__law_line_here (some a__law_at) (some (a__law_at + ((a__law_part).length : Int)))) = a__law_part)) = true then (gd (fitsS a__law_part) <| gd (fits ([] : List Int)) <| some ((([] : List Int) ++ [(a__law_at + ((a__law_part).length : Int))]))) else (some (([] : List Int)))))).bind fun (t19 : (List Int)) => some t19))
def m_law_fits_b1 (s51 : (List Int)) (x82 : Int) (s84 : Unit) : Option (Option Int × Unit) :=
  (if (!decide (x82 ∈ s51)) = true then (some (some x82, ())) else some (none, ()))
def m_law_fits_b2 (a__law_line_here : Str) (x16 : Str) (x49 : Int) (s51 : (List Int)) : Option (List Int) :=
  ((m_law_ends (x16) (a__law_line_here) (x49)).bind fun t65 => gd (fitsE t65) <| (comp (m_law_fits_b1 s51) t65 ()).bind fun t78 => gd (fits2 s51 t78.1) <| some ((s51 ++ t78.1)))
def m_law_fits_b3 (a__law_line_here : Str) (x16 : Str) (s18 : (List Int)) : Option (List Int) :=
  ((loopS (m_law_fits_b2 a__law_line_here x16) s18 (([] : List Int))).bind fun t44 => some (t44))
def m_law_fits (a__law_parts_here : (List Str)) (a__law_line_here : Str) : Option Bool :=
  ((loopS (m_law_fits_b3 a__law_line_here) a__law_parts_here (([0] : List Int))).bind fun t11 => (if (!decide (a__law_line_here = ("" : Str))) = true then (gd (fitsS a__law_line_here) <| some ((decide (((a__law_line_here).length : Int) ∈ t11)))) else some (false)).bind fun t147 => some t147)
def m_law_bears (a__law_tree_here : (Str × (List Str) × (List Str))) (a__law_line_here : Str) : Option Bool :=
  (if (decide ((a__law_tree_here).1 = ("=" : Str))) = true then ((m_law_fits ((a__law_tree_here).2.1) (a__law_line_here)).bind fun t6 => some t6) else (if (decide ((a__law_tree_here).1 = ("&" : Str))) = true then ((m_law_fits ((a__law_tree_here).2.1) (a__law_line_here)).bind fun t19 => (if t19 = true then ((m_law_fits ((a__law_tree_here).2.2) (a__law_line_here)).bind fun t45 => some (t45)) else some (false)).bind fun t37 => some t37) else ((m_law_fits ((a__law_tree_here).2.1) (a__law_line_here)).bind fun t61 => (if t61 = true then some (true) else ((m_law_fits ((a__law_tree_here).2.2) (a__law_line_here)).bind fun t87 => some (t87))).bind fun t79 => some t79)))
def m_law_marked_b1 (a__law_line_here : Str) (x10 : (Str × (List Str) × (List Str))) (s12 : Unit) : Option (Option (Str × (List Str) × (List Str)) × Unit) :=
  ((m_law_bears (x10) (a__law_line_here)).bind fun t29 => if t29 = true then (some (some x10, ())) else some (none, ()))
def m_law_marked (a__law_trees : (List (Str × (List Str) × (List Str)))) (a__law_line_here : Str) : Option Bool :=
  (gd (fitsE a__law_trees) <| (comp (m_law_marked_b1 a__law_line_here) a__law_trees ()).bind fun t6 => gd (shp (dL (dLr (ec dS (ec (dL dS) (e1 (dL dS)))))) t6.1) <| gd (shp (dL (dLr (ec dS (ec (dL dS) (e1 (dL dS)))))) ([] : List (Str × (List Str) × (List Str)))) <| some (!decide (t6.1 = ([] : List (Str × (List Str) × (List Str))))))
def m_law_fed_b1 (t1 : (Option Int)) (x44 : ((Option Int) × (List Str))) (s46 : Unit) : Option (Option ((Option Int) × (List Str)) × Unit) :=
  (gd (shp (dO dI) (x44).1) <| gd (shp (dO dI) t1) <| if (decide ((x44).1 = t1)) = true then (some (some x44, ())) else some (none, ()))
def m_law_fed (a__law_rule_here : ((List (Str × (List Str) × (List Str))) × (List (Str × (List Str) × (List Str))) × (Option Int) × Bool × (Option Int) × Bool)) (a__law_held : (List ((Option Int) × (List Str)))) (a__law_line_here : Str) (a__law_tag : (Option Int)) (a__law_thing : Str) : Option ((List ((Option Int) × (List Str))) × (List ((Option Int) × (List Str)))) :=
  (((if (((a__law_rule_here).2.2.2.2.1).isNone) = true then (some (none)) else (some (a__law_tag)))).bind fun (t1 : (Option Int)) => (m_law_marked ((a__law_rule_here).1) (a__law_line_here)).bind fun t21 => gd (fitsE a__law_held) <| (comp (m_law_fed_b1 t1) a__law_held ()).bind fun t40 => ((gd (shp (dL (d2 (dO dI) (dL dS))) t40.1) <| gd (shp (dL (d2 (dO dI) (dL dS))) ([] : List ((Option Int) × (List Str)))) <| if ((!decide (t40.1 = ([] : List ((Option Int) × (List Str))))) && t21) = true then ((atI t40.1 0).bind fun t101 => gd (fits ([] : List ((Option Int) × (List Str)))) <| (atI t40.1 0).bind fun t111 => gd (shp (d2 (dO dI) (dL dS)) t111) <| gd (shp (dL (d2 (dO dI) (dL dS))) a__law_held) <| (remL a__law_held t111).bind fun t117 => some (t117, (([] : List ((Option Int) × (List Str))) ++ [t101]), ([] : List ((Option Int) × (List Str))))) else (some (a__law_held, ([] : List ((Option Int) × (List Str))), t40.1)))).bind fun (t87 : ((List ((Option Int) × (List Str))) × (List ((Option Int) × (List Str))) × (List ((Option Int) × (List Str))))) => gd (shp (dL (d2 (dO dI) (dL dS))) t87.2.2) <| gd (shp (dL (d2 (dO dI) (dL dS))) ([] : List ((Option Int) × (List Str)))) <| if (decide (t87.2.2 = ([] : List ((Option Int) × (List Str))))) = true then ((if (!t21) = true then (some ((!(a__law_rule_here).2.2.2.1))) else some (false)).bind fun t158 => if t158 = true then (some (t87.2.1, t87.1)) else ((((if (!((a__law_rule_here).2.2.2.2.1).isNone) = true then (((a__law_rule_here).2.2.2.2.1).bind fun t198 => some ((decide (0 < t198) && decide (t198 ≤ ((t87.1).length : Int))))) else some (false)).bind fun t190 => if t190 = true then ((popAt t87.1 0).bind fun t208 => gd (fits t87.2.1) <| some (t208.2, (t87.2.1 ++ [t208.1]))) else (some (t87.1, t87.2.1)))).bind fun (t178 : ((List ((Option Int) × (List Str))) × (List ((Option Int) × (List Str))))) => (((m_law_marked ((a__law_rule_here).2.1) (a__law_line_here)).bind fun t258 => (if t258 = true then some (true) else (gd (shp (dO dI) (some ((((t1, [a__law_thing])).2).length : Int))) <| gd (shp (dO dI) (a__law_rule_here).2.2.1) <| some ((decide ((some ((((t1, [a__law_thing])).2).length : Int)) = (a__law_rule_here).2.2.1))))).bind fun t273 => if t273 = true then (gd (fits t178.2) <| some (t178.1, (t178.2 ++ [(t1, [a__law_thing])]))) else (gd (fits t178.1) <| some ((t178.1 ++ [(t1, [a__law_thing])]), t178.2)))).bind fun (t251 : ((List ((Option Int) × (List Str))) × (List ((Option Int) × (List Str))))) => some (t251.2, t251.1))) else ((atI t87.2.2 0).bind fun t323 => gd (shp (d2 (dO dI) (dL dS)) t323) <| gd (shp (dL (d2 (dO dI) (dL dS))) t87.1) <| (remL t87.1 t323).bind fun t329 => (atI t87.2.2 0).bind fun t337 => gd (fits2 (t337).2 [a__law_thing]) <| (((m_law_marked ((a__law_rule_here).2.1) (a__law_line_here)).bind fun t370 => (if t370 = true then some (true) else (gd (shp (dO dI) (some ((((t1, ((t337).2 ++ [a__law_thing]))).2).length : Int))) <| gd (shp (dO dI) (a__law_rule_here).2.2.1) <| some ((decide ((some ((((t1, ((t337).2 ++ [a__law_thing]))).2).length : Int)) = (a__law_rule_here).2.2.1))))).bind fun t385 => if t385 = true then (gd (fits t87.2.1) <| some (t329, (t87.2.1 ++ [(t1, ((t337).2 ++ [a__law_thing]))]))) else (gd (fits t329) <| some ((t329 ++ [(t1, ((t337).2 ++ [a__law_thing]))]), t87.2.1)))).bind fun (t363 : ((List ((Option Int) × (List Str))) × (List ((Option Int) × (List Str))))) => some (t363.2, t363.1)))
def m_Gluer_many (a_self : ((List Pat × List Pat × List (Str × Th)) × (List ((Option Int) × (List Str))) × Int)) : Option Int :=
  (some a_self.2.2)
def m_Gluer_finish (a_self : ((List Pat × List Pat × List (Str × Th)) × (List ((Option Int) × (List Str))) × Int)) : Option ((List ((Option Int) × (List Str))) × ((List ((Option Int) × (List Str))) × Int)) :=
  (some (a_self.2.1, (([] : List ((Option Int) × (List Str))), (a_self.2.2 + ((a_self.2.1).length : Int)))))
def m_Gluer_waiting_b1  (x7 : ((Option Int) × (List Str))) (s9 : Unit) : Option (Option ((Option Int) × (List Str)) × Unit) :=
  (some (some ((x7).1, (x7).2), ()))
def m_Gluer_waiting (a_self : ((List Pat × List Pat × List (Str × Th)) × (List ((Option Int) × (List Str))) × Int)) : Option (List ((Option Int) × (List Str))) :=
  (gd (fitsE a_self.2.1) <| (comp m_Gluer_waiting_b1 a_self.2.1 ()).bind fun t3 => some t3.1)
def m_law_right_b1 (a__law_rule_here : ((List (Str × (List Str) × (List Str))) × (List (Str × (List Str) × (List Str))) × (Option Int) × Bool × (Option Int) × Bool)) (t9 : ((List Pat × List Pat × List (Str × Th)) × (List ((Option Int) × (List Str))) × Int)) (x53 : (Int × Str)) (s55 : ((List ((Option Int) × (List Str))) × ((List ((Option Int) × (List Str))) × Int) × Int)) : Option (Ctl ((List ((Option Int) × (List Str))) × ((List ((Option Int) × (List Str))) × Int) × Int) Bool) :=
  ((m_law_fed (a__law_rule_here) (s55.1) ((x53).2) ((some (x53).1)) ((x53).2)).bind fun t84 => (m_Gluer___call__ ((t9.1, s55.2.1.1, s55.2.1.2)) ((x53).2) ((some (x53).1))).bind fun t97 => gd (shp (dL (d2 (dO dI) (dL dS))) t97.1) <| gd (shp (dL (d2 (dO dI) (dL dS))) t84.1) <| (if (!decide (t97.1 = t84.1)) = true then some (true) else ((m_Gluer_waiting ((t9.1, t97.2.1, t97.2.2))).bind fun t186 => gd (shp (dL (d2 (dO dI) (dL dS))) t186) <| gd (shp (dL (d2 (dO dI) (dL dS))) t84.2) <| (if (!decide (t186 = t84.2)) = true then some (true) else ((m_Gluer_many ((t9.1, t97.2.1, t97.2.2))).bind fun t223 => some ((!decide (t223 = (s55.2.2 + ((t84.1).length : Int))))))).bind fun t217 => some (t217))).bind fun t180 => if t180 = true then (some (.rt false)) else (((a__law_rule_here).2.2.2.2.1).bind fun t251 => (if (decide (0 < t251)) = true then ((m_Gluer_waiting ((t9.1, t97.2.1, t97.2.2))).bind fun t286 => ((a__law_rule_here).2.2.2.2.1).bind fun t309 => some ((decide (t309 < ((t286).length : Int))))) else some (false)).bind fun t280 => if t280 = true then (some (.rt false)) else (some (.nx (t84.2, (t97.2.1, t97.2.2), (s55.2.2 + ((t84.1).length : Int)))))))
def m_law_right (a__law_rule_here : ((List (Str × (List Str) × (List Str))) × (List (Str × (List Str) × (List Str))) × (Option Int) × Bool × (Option Int) × Bool)) (a__law_rows : (List (Int × Str))) : Option Bool :=
  ((m_law_ruled (a__law_rule_here)).bind fun t1 => (m_Gluer___init__ (t1)).bind fun t9 => (loopC (m_law_right_b1 a__law_rule_here t9) a__law_rows (([] : List ((Option Int) × (List Str))), (t9.2.1, t9.2.2), 0)).bind fun t45 => aft t45 fun s326 => (m_Gluer_finish ((t9.1, s326.2.1.1, s326.2.1.2))).bind fun t348 => gd (shp (dL (d2 (dO dI) (dL dS))) t348.1) <| gd (shp (dL (d2 (dO dI) (dL dS))) s326.1) <| (if (decide (t348.1 = s326.1)) = true then ((m_Gluer_waiting ((t9.1, t348.2.1, t348.2.2))).bind fun t409 => gd (shp (dL (d2 (dO dI) (dL dS))) t409) <| gd (shp (dL (d2 (dO dI) (dL dS))) ([] : List ((Option Int) × (List Str)))) <| some ((decide (t409 = ([] : List ((Option Int) × (List Str))))))) else some (false)).bind fun t403 => some t403)
def m_law_line_b1  (x11 : Str) (s13 : ((Int × Int) × Str)) : Option ((Int × Int) × Str) :=
  (if (decide (x11 = ("<digits>" : Str))) = true then ((m_law_take (s13.1) (10)).bind fun t26 => (ixS ("0123456789" : Str) t26.1).bind fun t36 => (m_law_take (t26.2) (2)).bind fun t38 => gd (repOk t36 (1 + t38.1)) <| gd (catOk s13.2 (repS t36 (1 + t38.1))) <| some (t38.2, (s13.2 ++ (repS t36 (1 + t38.1))))) else (if (decide (x11 = ("<word>" : Str))) = true then ((m_law_take (s13.1) (4)).bind fun t51 => (ixS ("aBzb" : Str) t51.1).bind fun t61 => (m_law_take (t51.2) (2)).bind fun t63 => gd (repOk t61 (1 + t63.1)) <| gd (catOk s13.2 (repS t61 (1 + t63.1))) <| some (t63.2, (s13.2 ++ (repS t61 (1 + t63.1))))) else (if (decide (x11 = ("<any>" : Str))) = true then ((m_law_text (s13.1)).bind fun t76 => (m_law_take (t76.2) (3)).bind fun t86 => gd (repOk t76.1 t86.1) <| gd (catOk s13.2 (repS t76.1 t86.1)) <| some (t86.2, (s13.2 ++ (repS t76.1 t86.1)))) else (gd (catOk s13.2 x11) <| some (s13.1, (s13.2 ++ x11))))))
def m_law_line (a__law_pool_here : (Int × Int)) (a__law_parts_here : (List Str)) : Option (Str × (Int × Int)) :=
  ((loopS m_law_line_b1 a__law_parts_here (a__law_pool_here, ("" : Str))).bind fun t5 => if (decide (t5.2 = ("" : Str))) = true then ((m_law_text (t5.1)).bind fun t108 => some (t108.1, t108.2)) else (some (t5.2, t5.1)))
def m_law_written (a__law_pool_here : (Int × Int)) (a__law_tree_here : (Str × (List Str) × (List Str))) : Option (Str × (Int × Int)) :=
  ((if (decide ((a__law_tree_here).1 = ("|" : Str))) = true then ((m_law_take (a__law_pool_here) (2)).bind fun t20 => some ((decide (t20.1 = 1)), t20.2)) else some (false, a__law_pool_here)).bind fun t13 => if t13.1 = true then ((m_law_line (t13.2) ((a__law_tree_here).2.2)).bind fun t42 => some (t42.1, t42.2)) else ((if (decide ((a__law_tree_here).1 = ("&" : Str))) = true then (some ((decide ((((a__law_tree_here).2.2).length : Int) = 2)))) else some (false)).bind fun t56 => if t56 = true then ((atI (a__law_tree_here).2.1 0).bind fun t73 => (m_law_text (t13.2)).bind fun t77 => (m_law_take (t77.2) (2)).bind fun t87 => gd (repOk t77.1 t87.1) <| gd (catOk t73 (repS t77.1 t87.1)) <| (atI (a__law_tree_here).2.2 1).bind fun t101 => gd (catOk (t73 ++ (repS t77.1 t87.1)) t101) <| some (((t73 ++ (repS t77.1 t87.1)) ++ t101), t87.2)) else ((m_law_line (t13.2) ((a__law_tree_here).2.1)).bind fun t108 => some (t108.1, t108.2))))
def m_law_row (a__law_pool_here : (Int × Int)) (a__law_rule_here : ((List (Str × (List Str) × (List Str))) × (List (Str × (List Str) × (List Str))) × (Option Int) × Bool × (Option Int) × Bool)) : Option (Str × (Int × Int)) :=
  (gd (fits2 (a__law_rule_here).1 (a__law_rule_here).2.1) <| (m_law_take (a__law_pool_here) ((((((a__law_rule_here).1 ++ (a__law_rule_here).2.1)).length : Int) + 2))).bind fun t12 => if (decide (t12.1 < ((((a__law_rule_here).1 ++ (a__law_rule_here).2.1)).length : Int))) = true then ((atI ((a__law_rule_here).1 ++ (a__law_rule_here).2.1) t12.1).bind fun t23 => (m_law_written (t12.2) (t23)).bind fun t27 => some (t27.1, t27.2)) else ((m_law_parts (t12.2)).bind fun t37 => (m_law_line (t37.2) (t37.1)).bind fun t47 => some (t47.1, t47.2)))
def m_law_b1 (a__law_script : (List Int)) (t81 : ((Int × Int) × ((List (Str × (List Str) × (List Str))) × (List (Str × (List Str) × (List Str))) × (Option Int) × Bool × (Option Int) × Bool))) (t150 : Int) (x166 : Int) (s168 : (List (Int × Str))) : Option (List (Int × Str)) :=
  ((m_law_pool (a__law_script) ((x166 + 1))).bind fun t184 => (m_law_take (t184) (t150)).bind fun t197 => gd (shp (dO dI) ((t81.2.1, t81.2.2.1, t81.2.2.2.1, t81.2.2.2.2.1, t81.2.2.2.2.2.1, t81.2.2.2.2.2.2)).2.2.2.2.1) <| gd (shp (dO dI) (some 9)) <| gd (mulOk t197.1 (b2I ((!decide (((t81.2.1, t81.2.2.1, t81.2.2.2.1, t81.2.2.2.2.1, t81.2.2.2.2.2.1, t81.2.2.2.2.2.2)).2.2.2.2.1 = (some 9)))))) <| gd (powOk 10 12) <| gd (mulOk t197.1 (10 ^ (12 : Int).toNat)) <| gd (shp (dO dI) ((t81.2.1, t81.2.2.1, t81.2.2.2.1, t81.2.2.2.2.1, t81.2.2.2.2.2.1, t81.2.2.2.2.2.2)).2.2.2.2.1) <| gd (shp (dO dI) (some 9)) <| gd (mulOk (t197.1 * (10 ^ (12 : Int).toNat)) (b2I ((decide (((t81.2.1, t81.2.2.1, t81.2.2.2.1, t81.2.2.2.2.1, t81.2.2.2.2.2.1, t81.2.2.2.2.2.2)).2.2.2.2.1 = (some 9)))))) <| (m_law_row (t197.2) ((t81.2.1, t81.2.2.1, t81.2.2.2.1, t81.2.2.2.2.1, t81.2.2.2.2.2.1, t81.2.2.2.2.2.2))).bind fun t221 => gd (fits s168) <| some ((s168 ++ [(((t197.1 * (b2I ((!decide (((t81.2.1, t81.2.2.1, t81.2.2.2.1, t81.2.2.2.2.1, t81.2.2.2.2.2.1, t81.2.2.2.2.2.2)).2.2.2.2.1 = (some 9)))))) + ((t197.1 * (10 ^ (12 : Int).toNat)) * (b2I ((decide (((t81.2.1, t81.2.2.1, t81.2.2.2.1, t81.2.2.2.2.1, t81.2.2.2.2.2.1, t81.2.2.2.2.2.2)).2.2.2.2.1 = (some 9))))))), t221.1)])))
def m_law (a__law_script : (List Int)) : Option Bool :=
  ((m_law_pool (a__law_script) (0)).bind fun t1 => (m_law_rule (t1)).bind fun t12 => ((if ((t12.1.2.2.2.2.1).isNone) = true then ((m_law_take (t12.2) (4)).bind fun t44 => some (t44.2, (t12.1.1, t12.1.2.1, t12.1.2.2.1, t12.1.2.2.2.1, (some t44.1), t12.1.2.2.2.2.2))) else (some (t12.2, (t12.1.1, t12.1.2.1, t12.1.2.2.1, t12.1.2.2.2.1, t12.1.2.2.2.2.1, t12.1.2.2.2.2.2))))).bind fun (t38 : ((Int × Int) × ((List (Str × (List Str) × (List Str))) × (List (Str × (List Str) × (List Str))) × (Option Int) × Bool × (Option Int) × Bool))) => (((m_law_take (t38.1) (2)).bind fun t86 => if (decide (t86.1 = 0)) = true then (some (t86.2, (t38.2.1, t38.2.2.1, none, t38.2.2.2.2.1, t38.2.2.2.2.2.1, t38.2.2.2.2.2.2))) else (some (t86.2, (t38.2.1, t38.2.2.1, t38.2.2.2.1, t38.2.2.2.2.1, t38.2.2.2.2.2.1, t38.2.2.2.2.2.2))))).bind fun (t81 : ((Int × Int) × ((List (Str × (List Str) × (List Str))) × (List (Str × (List Str) × (List Str))) × (Option Int) × Bool × (Option Int) × Bool))) => (m_law_take (t81.1) (3)).bind fun t140 => (atI ([4, 4, 12] : List Int) t140.1).bind fun t150 => gd (rgOk 0 (maxI 3 (minI 62 (((a__law_script).length : Int) - 1)))) <| (loopS (m_law_b1 a__law_script t81 t150) (rng 0 (maxI 3 (minI 62 (((a__law_script).length : Int) - 1)))) (([] : List (Int × Str)))).bind fun t160 => (m_law_right ((t81.2.1, t81.2.2.1, t81.2.2.2.1, t81.2.2.2.2.1, t81.2.2.2.2.2.1, t81.2.2.2.2.2.2)) (t160)).bind fun t261 => some t261)
structure Tx (K : PySem.W.Frag) (mg : Str → Option Value) : Prop where
  F_law_pool : FnD' K ("_law_pool", none) "_law_pool" "_law_pool" s_law_pool
  g_law_pool : mg "_law_pool" = some (.ref (He.ga K "_law_pool"))
  F_law_take : FnD' K ("_law_take", none) "_law_take" "_law_take" s_law_take
  g_law_take : mg "_law_take" = some (.ref (He.ga K "_law_take"))
  F_law_all_signs : FnD' K ("_law_all_signs", none) "_law_all_signs" "_law_all_signs" s_law_all_signs
  g_law_all_signs : mg "_law_all_signs" = some (.ref (He.ga K "_law_all_signs"))
  F_law_text : FnD' K ("_law_text", none) "_law_text" "_law_text" s_law_text
  g_law_text : mg "_law_text" = some (.ref (He.ga K "_law_text"))
  F_law_parts : FnD' K ("_law_parts", none) "_law_parts" "_law_parts" s_law_parts
  g_law_parts : mg "_law_parts" = some (.ref (He.ga K "_law_parts"))
  F_law_tree : FnD' K ("_law_tree", none) "_law_tree" "_law_tree" s_law_tree
  g_law_tree : mg "_law_tree" = some (.ref (He.ga K "_law_tree"))
  F_law_rule : FnD' K ("_law_rule", none) "_law_rule" "_law_rule" s_law_rule
  g_law_rule : mg "_law_rule" = some (.ref (He.ga K "_law_rule"))
  pr_Rule_tags : Pr K "Rule" "tags" "Rule.tags" s_Rule_tags
  F_Gluer_taken : FnD' K ("Gluer", some "taken") "taken" "Gluer.taken" s_Gluer_taken
  F_Form___contains__ : FnD' K ("Form", some "__contains__") "__contains__" "Pattern.__contains__" s_Form___contains__
  F_Both___contains__ : FnD' K ("Both", some "__contains__") "__contains__" "Pattern.__contains__" s_Both___contains__
  F_Either___contains__ : FnD' K ("Either", some "__contains__") "__contains__" "Pattern.__contains__" s_Either___contains__
  F_Form_forms : FnD' K ("Form", some "forms") "forms" "Form.forms" s_Form_forms
  F_Either_forms : FnD' K ("Either", some "forms") "forms" "Either.forms" s_Either_forms
  F_Both_forms : FnD' K ("Both", some "forms") "forms" "Both.forms" s_Both_forms
  F_Form_holds : FnD' K ("Form", some "holds") "holds" "Form.holds" s_Form_holds
  F_Either_holds : FnD' K ("Either", some "holds") "holds" "Either.holds" s_Either_holds
  F_Both_holds : FnD' K ("Both", some "holds") "holds" "Both.holds" s_Both_holds
  F_is_line : FnD' K ("is_line", none) "is_line" "is_line" s_is_line
  g_is_line : mg "is_line" = some (.ref (He.ga K "is_line"))
  F_cells_of : FnD' K ("cells_of", none) "cells_of" "cells_of" s_cells_of
  g_cells_of : mg "cells_of" = some (.ref (He.ga K "cells_of"))
  F_closed : FnD' K ("closed", none) "closed" "closed" s_closed
  g_closed : mg "closed" = some (.ref (He.ga K "closed"))
  F_started : FnD' K ("started", none) "started" "started" s_started
  g_started : mg "started" = some (.ref (He.ga K "started"))
  F_Form_parts : FnD' K ("Form", some "parts") "parts" "Form.parts" s_Form_parts
  F_takes : FnD' K ("takes", none) "takes" "takes" s_takes
  g_takes : mg "takes" = some (.ref (He.ga K "takes"))
  F_moved : FnD' K ("moved", none) "moved" "moved" s_moved
  g_moved : mg "moved" = some (.ref (He.ga K "moved"))
  F_is_done : FnD' K ("is_done", none) "is_done" "is_done" s_is_done
  g_is_done : mg "is_done" = some (.ref (He.ga K "is_done"))
  F_Rule_begins_on : FnD' K ("Rule", some "begins_on") "begins_on" "Rule.begins_on" s_Rule_begins_on
  F_Rule_ends_on : FnD' K ("Rule", some "ends_on") "ends_on" "Rule.ends_on" s_Rule_ends_on
  pr_Rule_most : Pr K "Rule" "most" "Rule.most" s_Rule_most
  pr_Rule_alone : Pr K "Rule" "alone" "Rule.alone" s_Rule_alone
  F_Gluer_put : FnD' K ("Gluer", some "put") "put" "Gluer.put" s_Gluer_put
  F_Gluer___call__ : FunD K "__call__" "Gluer.__call__" (defArgs s_Gluer___call__) (defBody s_Gluer___call__) (defScope s_Gluer___call__) [V.non] [] (He.fAd K ("Gluer", some "__call__")) (fdOf K ("Gluer", some "__call__"))
  F_is_allowed_rules : FnD' K ("is_allowed_rules", none) "is_allowed" "is_allowed" s_is_allowed_rules
  g_is_allowed_rules : mg "is_allowed_rules" = some (.ref (He.ga K "is_allowed_rules"))
  F_check_settings : FnD' K ("check_settings", none) "check_settings" "check_settings" s_check_settings
  g_check_settings : mg "check_settings" = some (.ref (He.ga K "check_settings"))
  F_Rule___init__ : FunD K "__init__" "Rule.__init__" (defArgs s_Rule___init__) (defBody s_Rule___init__) (defScope s_Rule___init__) [] [("most", V.non), ("alone", V.bl true), ("tags", V.non), ("quiet", V.bl false)] (He.fAd K ("Rule", some "__init__")) (fdOf K ("Rule", some "__init__"))
  F_Rule_with_marks : FnD' K ("Rule", some "with_marks") "with_marks" "Rule.with_marks" s_Rule_with_marks
  F_Gluer___init__ : FnD' K ("Gluer", some "__init__") "__init__" "Gluer.__init__" s_Gluer___init__
  F_Either___init__ : FnD' K ("Either", some "__init__") "__init__" "Either.__init__" s_Either___init__
  F_Pattern___or__ : FnD' K ("Pattern", some "__or__") "__or__" "Pattern.__or__" s_Pattern___or__
  F_Both___init__ : FnD' K ("Both", some "__init__") "__init__" "Both.__init__" s_Both___init__
  F_Pattern___and__ : FnD' K ("Pattern", some "__and__") "__and__" "Pattern.__and__" s_Pattern___and__
  F_is_allowed : FnD' K ("is_allowed_patterns", none) "is_allowed" "is_allowed" s_is_allowed
  g_is_allowed : mg "is_allowed_patterns" = some (.ref (He.ga K "is_allowed_patterns"))
  F_Form___init__ : FnD' K ("Form", some "__init__") "__init__" "Form.__init__" s_Form___init__
  F_law_form : FnD' K ("_law_form", none) "_law_form" "_law_form" s_law_form
  g_law_form : mg "_law_form" = some (.ref (He.ga K "_law_form"))
  F_law_built : FnD' K ("_law_built", none) "_law_built" "_law_built" s_law_built
  g_law_built : mg "_law_built" = some (.ref (He.ga K "_law_built"))
  F_law_marks : FnD' K ("_law_marks", none) "_law_marks" "_law_marks" s_law_marks
  g_law_marks : mg "_law_marks" = some (.ref (He.ga K "_law_marks"))
  F_law_ruled : FnD' K ("_law_ruled", none) "_law_ruled" "_law_ruled" s_law_ruled
  g_law_ruled : mg "_law_ruled" = some (.ref (He.ga K "_law_ruled"))
  F_law_ends : FnD' K ("_law_ends", none) "_law_ends" "_law_ends" s_law_ends
  g_law_ends : mg "_law_ends" = some (.ref (He.ga K "_law_ends"))
  F_law_fits : FnD' K ("_law_fits", none) "_law_fits" "_law_fits" s_law_fits
  g_law_fits : mg "_law_fits" = some (.ref (He.ga K "_law_fits"))
  F_law_bears : FnD' K ("_law_bears", none) "_law_bears" "_law_bears" s_law_bears
  g_law_bears : mg "_law_bears" = some (.ref (He.ga K "_law_bears"))
  F_law_marked : FnD' K ("_law_marked", none) "_law_marked" "_law_marked" s_law_marked
  g_law_marked : mg "_law_marked" = some (.ref (He.ga K "_law_marked"))
  F_law_fed : FnD' K ("_law_fed", none) "_law_fed" "_law_fed" s_law_fed
  g_law_fed : mg "_law_fed" = some (.ref (He.ga K "_law_fed"))
  pr_Gluer_many : Pr K "Gluer" "many" "Gluer.many" s_Gluer_many
  F_Gluer_finish : FnD' K ("Gluer", some "finish") "finish" "Gluer.finish" s_Gluer_finish
  F_Gluer_waiting : FnD' K ("Gluer", some "waiting") "waiting" "Gluer.waiting" s_Gluer_waiting
  F_law_right : FnD' K ("_law_right", none) "_law_right" "_law_right" s_law_right
  g_law_right : mg "_law_right" = some (.ref (He.ga K "_law_right"))
  F_law_line : FnD' K ("_law_line", none) "_law_line" "_law_line" s_law_line
  g_law_line : mg "_law_line" = some (.ref (He.ga K "_law_line"))
  F_law_written : FnD' K ("_law_written", none) "_law_written" "_law_written" s_law_written
  g_law_written : mg "_law_written" = some (.ref (He.ga K "_law_written"))
  F_law_row : FnD' K ("_law_row", none) "_law_row" "_law_row" s_law_row
  g_law_row : mg "_law_row" = some (.ref (He.ga K "_law_row"))
  F_law : FnD' K ("law", none) "law" "law" s_law
  g_law : mg "law" = some (.ref (He.ga K "law"))
  c_Form : Cls K (He.ga K "Form")
  gc_Form : mg "Form" = some (.ref (He.ga K "Form"))
  na_Form_pieces : NoAttr K (He.ga K "Form") "pieces"
  me_Form___contains__ : Meth K (He.ga K "Form") "__contains__" (He.fAd K ("Form", some "__contains__"))
  me_Form_forms : Meth K (He.ga K "Form") "forms" (He.fAd K ("Form", some "forms"))
  me_Form_holds : Meth K (He.ga K "Form") "holds" (He.fAd K ("Form", some "holds"))
  me_Form_parts : Meth K (He.ga K "Form") "parts" (He.fAd K ("Form", some "parts"))
  mk_Form : Mk K (He.ga K "Form") (He.fAd K ("Form", some "__init__"))
  c_Both : Cls K (He.ga K "Both")
  gc_Both : mg "Both" = some (.ref (He.ga K "Both"))
  na_Both_left : NoAttr K (He.ga K "Both") "left"
  na_Both_right : NoAttr K (He.ga K "Both") "right"
  me_Both___contains__ : Meth K (He.ga K "Both") "__contains__" (He.fAd K ("Both", some "__contains__"))
  me_Both_forms : Meth K (He.ga K "Both") "forms" (He.fAd K ("Both", some "forms"))
  me_Both_holds : Meth K (He.ga K "Both") "holds" (He.fAd K ("Both", some "holds"))
  mk_Both : Mk K (He.ga K "Both") (He.fAd K ("Both", some "__init__"))
  c_Either : Cls K (He.ga K "Either")
  gc_Either : mg "Either" = some (.ref (He.ga K "Either"))
  na_Either_left : NoAttr K (He.ga K "Either") "left"
  na_Either_right : NoAttr K (He.ga K "Either") "right"
  me_Either___contains__ : Meth K (He.ga K "Either") "__contains__" (He.fAd K ("Either", some "__contains__"))
  me_Either_forms : Meth K (He.ga K "Either") "forms" (He.fAd K ("Either", some "forms"))
  me_Either_holds : Meth K (He.ga K "Either") "holds" (He.fAd K ("Either", some "holds"))
  mk_Either : Mk K (He.ga K "Either") (He.fAd K ("Either", some "__init__"))
  c_Pattern : Cls K (He.ga K "Pattern")
  gc_Pattern : mg "Pattern" = some (.ref (He.ga K "Pattern"))
  me_Pattern___or__ : Meth K (He.ga K "Pattern") "__or__" (He.fAd K ("Pattern", some "__or__"))
  me_Pattern___and__ : Meth K (He.ga K "Pattern") "__and__" (He.fAd K ("Pattern", some "__and__"))
  c_Rule : Cls K (He.ga K "Rule")
  gc_Rule : mg "Rule" = some (.ref (He.ga K "Rule"))
  na_Rule_openers : NoAttr K (He.ga K "Rule") "openers"
  na_Rule_closers : NoAttr K (He.ga K "Rule") "closers"
  na_Rule_settings : NoAttr K (He.ga K "Rule") "settings"
  me_Rule_begins_on : Meth K (He.ga K "Rule") "begins_on" (He.fAd K ("Rule", some "begins_on"))
  me_Rule_ends_on : Meth K (He.ga K "Rule") "ends_on" (He.fAd K ("Rule", some "ends_on"))
  mk_Rule : Mk K (He.ga K "Rule") (He.fAd K ("Rule", some "__init__"))
  me_Rule_with_marks : Meth K (He.ga K "Rule") "with_marks" (He.fAd K ("Rule", some "with_marks"))
  c_Gluer : Cls K (He.ga K "Gluer")
  gc_Gluer : mg "Gluer" = some (.ref (He.ga K "Gluer"))
  na_Gluer_rule : NoAttr K (He.ga K "Gluer") "rule"
  na_Gluer_opened : NoAttr K (He.ga K "Gluer") "opened"
  na_Gluer_given : NoAttr K (He.ga K "Gluer") "given"
  me_Gluer_taken : Meth K (He.ga K "Gluer") "taken" (He.fAd K ("Gluer", some "taken"))
  me_Gluer_put : Meth K (He.ga K "Gluer") "put" (He.fAd K ("Gluer", some "put"))
  me_Gluer___call__ : Meth K (He.ga K "Gluer") "__call__" (He.fAd K ("Gluer", some "__call__"))
  mk_Gluer : Mk K (He.ga K "Gluer") (He.fAd K ("Gluer", some "__init__"))
  me_Gluer_finish : Meth K (He.ga K "Gluer") "finish" (He.fAd K ("Gluer", some "finish"))
  me_Gluer_waiting : Meth K (He.ga K "Gluer") "waiting" (He.fAd K ("Gluer", some "waiting"))
  pf : PatF K
  k_ANY_CELL : ∃ t, mg "ANY_CELL" = some (.str "<any>" t)
  k_DIGITS_CELL : ∃ t, mg "DIGITS_CELL" = some (.str "<digits>" t)
  k_DIGIT_SIGNS : ∃ t, mg "DIGIT_SIGNS" = some (.str "0123456789" t)
  g_FIELDS : mg "FIELDS" = some (.ref (He.ga K "FIELDS"))
  q_FIELDS : ∀ F : Hp, (qT qS).r K F (.ref (He.ga K "FIELDS")) (["most", "alone", "tags", "quiet"] : List Str)
  g_FREE_CELLS : mg "FREE_CELLS" = some (.ref (He.ga K "FREE_CELLS"))
  q_FREE_CELLS : ∀ F : Hp, (qT qS).r K F (.ref (He.ga K "FREE_CELLS")) (["<digits>", "<word>", "<any>"] : List Str)
  k_LETTER_SIGNS : ∃ t, mg "LETTER_SIGNS" = some (.str "ABCDEFGHIJKLMNOPQRSTUVWXYZabcdefghijklmnopqrstuvwxyz" t)
  k_MOST_FORMS : ∃ t, mg "MOST_FORMS" = some (.int 3 t)
  k_MOST_PARTS : ∃ t, mg "MOST_PARTS" = some (.int 4 t)
  k_MOST_SIGNS : ∃ t, mg "MOST_SIGNS" = some (.int 4 t)
  k_SIGNS : ∃ t, mg "SIGNS" = some (.str " #-.0123456789:>ABCDEFGHIJKLMNOPQRSTUVWXYZabcdefghijklmnopqrstuvwxyz" t)
  k_WORD_CELL : ∃ t, mg "WORD_CELL" = some (.str "<word>" t)
  n_any : mg "any" = none
  n_bool : mg "bool" = none
  n_int : mg "int" = none
  n_isinstance : mg "isinstance" = none
  n_len : mg "len" = none
  n_list : mg "list" = none
  n_max : mg "max" = none
  n_min : mg "min" = none
  n_range : mg "range" = none
  n_str : mg "str" = none
  n_tuple : mg "tuple" = none
section
variable {P : Program} {w : World} {K : PySem.W.Frag} {mg : Str → Option Value} {base : Heap}
theorem fld_Form_pieces {P0' : Addr → Prop} {F0 H0 F H : Hp} {v : V} {a : (List Str)} {Q : VK} (T : Tx K mg) (S : Sx P0' F0 H0 F H) (r : qForm.r K F v a) (k : ∀ u, (qT qS).r K F u a → Q u H) : fdK K "pieces" Q v H := by
  obtain ⟨p, dx, u0, rfl, h2, k0⟩ := r
  exact fd_at (S.sub _ _ h2) T.c_Form T.na_Form_pieces (by rfl) (k _ k0)
theorem in_Form___contains__ {P0' : Addr → Prop} {F0 H0 F H : Hp} {v : V} {a : (List Str)} {Q : VK} {E : XK} {sp : L2.Sp} {x : V} (S : Sx P0' F0 H0 F H) (r : qForm.r K F v a) (k : sp [v, x] H (inK Q) E) : rInO (He.ga K "Form") sp E x v H Q := by
  obtain ⟨p, dx, u0, rfl, h2, k0⟩ := r
  exact in_at (S.sub _ _ h2) k
theorem mt_Form_forms {P0' : Addr → Prop} {F0 H0 F H : Hp} {v : V} {a : (List Str)} {G : V → Hp → Prop} (S : Sx P0' F0 H0 F H) (r : qForm.r K F v a) (k : G v H) : mtK (He.ga K "Form") "forms" G v H := by
  obtain ⟨p, dx, u0, rfl, h2, k0⟩ := r
  exact mt_at (S.sub _ _ h2) (by rfl) k
theorem mt_Form_holds {P0' : Addr → Prop} {F0 H0 F H : Hp} {v : V} {a : (List Str)} {G : V → Hp → Prop} (S : Sx P0' F0 H0 F H) (r : qForm.r K F v a) (k : G v H) : mtK (He.ga K "Form") "holds" G v H := by
  obtain ⟨p, dx, u0, rfl, h2, k0⟩ := r
  exact mt_at (S.sub _ _ h2) (by rfl) k
theorem mt_Form_parts {P0' : Addr → Prop} {F0 H0 F H : Hp} {v : V} {a : (List Str)} {G : V → Hp → Prop} (S : Sx P0' F0 H0 F H) (r : qForm.r K F v a) (k : G v H) : mtK (He.ga K "Form") "parts" G v H := by
  obtain ⟨p, dx, u0, rfl, h2, k0⟩ := r
  exact mt_at (S.sub _ _ h2) (by rfl) k
theorem fld_Both_left {P0' : Addr → Prop} {F0 H0 F H : Hp} {v : V} {a : (Pat × Pat)} {Q : VK} (T : Tx K mg) (S : Sx P0' F0 H0 F H) (r : qBoth.r K F v a) (k : ∀ u, qPat.r K F u a.1 → Q u H) : fdK K "left" Q v H := by
  obtain ⟨p, dx, u0, u1, rfl, h2, k0, k1⟩ := r
  exact fd_at (S.sub _ _ h2) T.c_Both T.na_Both_left (by rfl) (k _ k0)
theorem fld_Both_right {P0' : Addr → Prop} {F0 H0 F H : Hp} {v : V} {a : (Pat × Pat)} {Q : VK} (T : Tx K mg) (S : Sx P0' F0 H0 F H) (r : qBoth.r K F v a) (k : ∀ u, qPat.r K F u a.2 → Q u H) : fdK K "right" Q v H := by
  obtain ⟨p, dx, u0, u1, rfl, h2, k0, k1⟩ := r
  exact fd_at (S.sub _ _ h2) T.c_Both T.na_Both_right (by rfl) (k _ k1)
theorem in_Both___contains__ {P0' : Addr → Prop} {F0 H0 F H : Hp} {v : V} {a : (Pat × Pat)} {Q : VK} {E : XK} {sp : L2.Sp} {x : V} (S : Sx P0' F0 H0 F H) (r : qBoth.r K F v a) (k : sp [v, x] H (inK Q) E) : rInO (He.ga K "Both") sp E x v H Q := by
  obtain ⟨p, dx, u0, u1, rfl, h2, k0, k1⟩ := r
  exact in_at (S.sub _ _ h2) k
theorem mt_Both_forms {P0' : Addr → Prop} {F0 H0 F H : Hp} {v : V} {a : (Pat × Pat)} {G : V → Hp → Prop} (S : Sx P0' F0 H0 F H) (r : qBoth.r K F v a) (k : G v H) : mtK (He.ga K "Both") "forms" G v H := by
  obtain ⟨p, dx, u0, u1, rfl, h2, k0, k1⟩ := r
  exact mt_at (S.sub _ _ h2) (by rfl) k
theorem mt_Both_holds {P0' : Addr → Prop} {F0 H0 F H : Hp} {v : V} {a : (Pat × Pat)} {G : V → Hp → Prop} (S : Sx P0' F0 H0 F H) (r : qBoth.r K F v a) (k : G v H) : mtK (He.ga K "Both") "holds" G v H := by
  obtain ⟨p, dx, u0, u1, rfl, h2, k0, k1⟩ := r
  exact mt_at (S.sub _ _ h2) (by rfl) k
theorem fld_Either_left {P0' : Addr → Prop} {F0 H0 F H : Hp} {v : V} {a : (Pat × Pat)} {Q : VK} (T : Tx K mg) (S : Sx P0' F0 H0 F H) (r : qEither.r K F v a) (k : ∀ u, qPat.r K F u a.1 → Q u H) : fdK K "left" Q v H := by
  obtain ⟨p, dx, u0, u1, rfl, h2, k0, k1⟩ := r
  exact fd_at (S.sub _ _ h2) T.c_Either T.na_Either_left (by rfl) (k _ k0)
theorem fld_Either_right {P0' : Addr → Prop} {F0 H0 F H : Hp} {v : V} {a : (Pat × Pat)} {Q : VK} (T : Tx K mg) (S : Sx P0' F0 H0 F H) (r : qEither.r K F v a) (k : ∀ u, qPat.r K F u a.2 → Q u H) : fdK K "right" Q v H := by
  obtain ⟨p, dx, u0, u1, rfl, h2, k0, k1⟩ := r
  exact fd_at (S.sub _ _ h2) T.c_Either T.na_Either_right (by rfl) (k _ k1)
theorem in_Either___contains__ {P0' : Addr → Prop} {F0 H0 F H : Hp} {v : V} {a : (Pat × Pat)} {Q : VK} {E : XK} {sp : L2.Sp} {x : V} (S : Sx P0' F0 H0 F H) (r : qEither.r K F v a) (k : sp [v, x] H (inK Q) E) : rInO (He.ga K "Either") sp E x v H Q := by
  obtain ⟨p, dx, u0, u1, rfl, h2, k0, k1⟩ := r
  exact in_at (S.sub _ _ h2) k
theorem mt_Either_forms {P0' : Addr → Prop} {F0 H0 F H : Hp} {v : V} {a : (Pat × Pat)} {G : V → Hp → Prop} (S : Sx P0' F0 H0 F H) (r : qEither.r K F v a) (k : G v H) : mtK (He.ga K "Either") "forms" G v H := by
  obtain ⟨p, dx, u0, u1, rfl, h2, k0, k1⟩ := r
  exact mt_at (S.sub _ _ h2) (by rfl) k
theorem mt_Either_holds {P0' : Addr → Prop} {F0 H0 F H : Hp} {v : V} {a : (Pat × Pat)} {G : V → Hp → Prop} (S : Sx P0' F0 H0 F H) (r : qEither.r K F v a) (k : G v H) : mtK (He.ga K "Either") "holds" G v H := by
  obtain ⟨p, dx, u0, u1, rfl, h2, k0, k1⟩ := r
  exact mt_at (S.sub _ _ h2) (by rfl) k
theorem fld_Rule_openers {P0' : Addr → Prop} {F0 H0 F H : Hp} {v : V} {a : ((List Pat) × (List Pat) × (List (Str × Th)))} {Q : VK} (T : Tx K mg) (S : Sx P0' F0 H0 F H) (r : qRule.r K F v a) (k : ∀ u, (qL qPat).r K F u a.1 → Q u H) : fdK K "openers" Q v H := by
  obtain ⟨p, dx, u0, u1, u2, rfl, h2, k0, k1, k2⟩ := r
  exact fd_at (S.sub _ _ h2) T.c_Rule T.na_Rule_openers (by rfl) (k _ k0)
theorem fld_Rule_closers {P0' : Addr → Prop} {F0 H0 F H : Hp} {v : V} {a : ((List Pat) × (List Pat) × (List (Str × Th)))} {Q : VK} (T : Tx K mg) (S : Sx P0' F0 H0 F H) (r : qRule.r K F v a) (k : ∀ u, (qL qPat).r K F u a.2.1 → Q u H) : fdK K "closers" Q v H := by
  obtain ⟨p, dx, u0, u1, u2, rfl, h2, k0, k1, k2⟩ := r
  exact fd_at (S.sub _ _ h2) T.c_Rule T.na_Rule_closers (by rfl) (k _ k1)
theorem fld_Rule_settings {P0' : Addr → Prop} {F0 H0 F H : Hp} {v : V} {a : ((List Pat) × (List Pat) × (List (Str × Th)))} {Q : VK} (T : Tx K mg) (S : Sx P0' F0 H0 F H) (r : qRule.r K F v a) (k : ∀ u, qSd.r K F u a.2.2 → Q u H) : fdK K "settings" Q v H := by
  obtain ⟨p, dx, u0, u1, u2, rfl, h2, k0, k1, k2⟩ := r
  exact fd_at (S.sub _ _ h2) T.c_Rule T.na_Rule_settings (by rfl) (k _ k2)
theorem pr_Rule_tags {P0' : Addr → Prop} {F0 H0 F H : Hp} {v : V} {a : ((List Pat) × (List Pat) × (List (Str × Th)))} {Q : VK} {E : XK} {sp : L2.Sp} (S : Sx P0' F0 H0 F H) (r : qRule.r K F v a) (k : sp [v] H Q E) : prK (He.ga K "Rule") sp [] E Q v H := by
  obtain ⟨p, dx, u0, u1, u2, rfl, h2, k0, k1, k2⟩ := r
  exact pr_at (S.sub _ _ h2) k
theorem mt_Rule_begins_on {P0' : Addr → Prop} {F0 H0 F H : Hp} {v : V} {a : ((List Pat) × (List Pat) × (List (Str × Th)))} {G : V → Hp → Prop} (S : Sx P0' F0 H0 F H) (r : qRule.r K F v a) (k : G v H) : mtK (He.ga K "Rule") "begins_on" G v H := by
  obtain ⟨p, dx, u0, u1, u2, rfl, h2, k0, k1, k2⟩ := r
  exact mt_at (S.sub _ _ h2) (by rfl) k
theorem mt_Rule_ends_on {P0' : Addr → Prop} {F0 H0 F H : Hp} {v : V} {a : ((List Pat) × (List Pat) × (List (Str × Th)))} {G : V → Hp → Prop} (S : Sx P0' F0 H0 F H) (r : qRule.r K F v a) (k : G v H) : mtK (He.ga K "Rule") "ends_on" G v H := by
  obtain ⟨p, dx, u0, u1, u2, rfl, h2, k0, k1, k2⟩ := r
  exact mt_at (S.sub _ _ h2) (by rfl) k
theorem pr_Rule_most {P0' : Addr → Prop} {F0 H0 F H : Hp} {v : V} {a : ((List Pat) × (List Pat) × (List (Str × Th)))} {Q : VK} {E : XK} {sp : L2.Sp} (S : Sx P0' F0 H0 F H) (r : qRule.r K F v a) (k : sp [v] H Q E) : prK (He.ga K "Rule") sp [] E Q v H := by
  obtain ⟨p, dx, u0, u1, u2, rfl, h2, k0, k1, k2⟩ := r
  exact pr_at (S.sub _ _ h2) k
theorem pr_Rule_alone {P0' : Addr → Prop} {F0 H0 F H : Hp} {v : V} {a : ((List Pat) × (List Pat) × (List (Str × Th)))} {Q : VK} {E : XK} {sp : L2.Sp} (S : Sx P0' F0 H0 F H) (r : qRule.r K F v a) (k : sp [v] H Q E) : prK (He.ga K "Rule") sp [] E Q v H := by
  obtain ⟨p, dx, u0, u1, u2, rfl, h2, k0, k1, k2⟩ := r
  exact pr_at (S.sub _ _ h2) k
theorem mt_Rule_with_marks {P0' : Addr → Prop} {F0 H0 F H : Hp} {v : V} {a : ((List Pat) × (List Pat) × (List (Str × Th)))} {G : V → Hp → Prop} (S : Sx P0' F0 H0 F H) (r : qRule.r K F v a) (k : G v H) : mtK (He.ga K "Rule") "with_marks" G v H := by
  obtain ⟨p, dx, u0, u1, u2, rfl, h2, k0, k1, k2⟩ := r
  exact mt_at (S.sub _ _ h2) (by rfl) k

def sp_law_pool (K : PySem.W.Frag) : Sp := fun vs H Q _ => ∃ (F : Hp) (v__law_script : V) (a__law_script : List Int) (a__law_k : Int) (r : (Int × Int)), vs = [v__law_script, (V.int (a__law_k))] ∧ Same F H ∧ qC.r K F v__law_script a__law_script ∧ m_law_pool a__law_script a__law_k = some r ∧ ∀ p F' H', H p = none → Sx P0 F H F' H' → Ow (fun a => a = p) H F' H' p (.lst [.int r.1, .int r.2]) → Q (.ref p) H'
theorem sc_law_pool : FnScope ["_law_script", "_law_k", "_law_cell", "_law_seed"] ["_law_script", "_law_k"] (defScope s_law_pool) := ⟨rfl, rfl, rfl, by decide +kernel, rfl, by decide +kernel, by decide +kernel⟩
theorem bn_law_pool (T : Tx K mg) : Binds K (fdOf K ("_law_pool", none)) ["_law_script", "_law_k"] [] := FunD.bindsN T.F_law_pool fun _ _ _ _ _ _ us hl => match us, hl with | [_, _], _ => rfl
theorem ok_law_pool (T : Tx K mg) : FnOk P w K mg base CX0 1 (He.ga K "_law_pool") (fdOf K ("_law_pool", none)) ["_law_script", "_law_k"] (sp_law_pool K) := by
  refine FunD.ok T.F_law_pool sc_law_pool (fun vs H0 Q E h => ?_) (fun cdv A outer s H0 vs Q E hr h => ?_)
  · obtain ⟨_, _, _, _, _, rfl, _⟩ := h
    rfl
  · obtain ⟨F0, v__law_script, a__law_script, a__law_k, r, rfl, hE, f__law_script, hm, hQ⟩ := h
    refine ⟨_, PSs.nox ((pss_cons (ps_set (i := 2) sc_law_pool.nd rfl (by first | exact Or.inl rfl | exact Or.inr rfl) pe_int) (C8.pss_cut (ps_if (pt_cmpR (r := rNeD K) (op_neD hr.units) (pv 0) (pe_lst pa_nil) (nomark _)) (pss_one (ps_set (i := 2) sc_law_pool.nd rfl (by first | exact Or.inl rfl | exact Or.inr rfl) (pe_ix (r := rIxL K) ix_list (pv 0) (pe_op op_mod (pe_callTy cr_int (by rfl) T.n_int (by decide +kernel) (pa_cons (pv 1) pa_nil)) (pe_callB (r := rLenQ K) cr_lenQ (by rfl) T.n_len (by decide +kernel) (pa_cons (pv 0) pa_nil))) (fun _ _ => rfl)))) pss_nil) (pss_cons (ps_set (i := 3) sc_law_pool.nd rfl (by first | exact Or.inl rfl | exact Or.inr rfl) (pe_op op_mod (pe_op op_mul (pe_callTy cr_int (by rfl) T.n_int (by decide +kernel) (pa_cons (pe_op op_add (pe_op op_add (pe_op op_mod (pe_callTy cr_int (by rfl) T.n_int (by decide +kernel) (pa_cons (pv 2) pa_nil)) pe_int) (pe_op op_mul pe_int (pv 1))) pe_int) pa_nil)) pe_int) pe_int)) (pss_one (ps_ret (pe_lst (pa_cons (pe_op op_mul (pv 2) (pe_callTy cr_int (by rfl) T.n_int (by decide +kernel) (pa_cons (pe_cmpR op_ge (pv 2) (pe_op op_pow pe_int pe_int) (nomark _)) pa_nil))) (pa_cons (pv 3) pa_nil))))))))), ?_⟩
    have S : Sx P0 F0 H0 F0 H0 := Sx.refl0 hE
    unfold m_law_pool at hm
    obtain ⟨t1, e2, hm⟩ := bd_some hm
    refine rd_seq ?_
    refine rd_asg ?_
    refine rd_c ?_
    refine rd_gn ?_
    refine rd_cut (fun σ' H' => ∃ (F : Hp) (o3 : Option V), σ' = [some v__law_script, some (V.int (a__law_k)), some (V.int (t1)), o3] ∧ Sx P0 F0 H0 F H') ?_ ?_
    · skip
      have S3 := Sx.refl0 S.sub
      refine rd_ifS ?_
      refine rd_test ?_
      refine rd_op ?_
      refine rd_v rfl ?_
      refine rd_lst ?_
      refine rd_nil ?_
      refine rd_lK rfl ?_
      refine alL (K := K) (A := qI) (xs := ([] : List Int)) S3 .nil (fun v4 F5 H6 c7 f8 => ?_)
      have S9 := S3.call0 c7
      have f__law_script := qC.mono c7.le f__law_script
      obtain ⟨g10, e2⟩ := gd_some e2
      obtain ⟨g11, e2⟩ := gd_some e2
      refine rd_neD (D := (dL dI)) (S9.cd f__law_script) (S9.d (dL dI) f8) g10 g11 ?_
      refine rd_b ?_
      refine if_b e2 (fun b12 e2 => ?_) (fun b12 e2 => ?_)
      · skip
        obtain ⟨g13, e2⟩ := gd_some e2
        obtain ⟨t14, e15, e2⟩ := bd_some e2
        refine rd_asg ?_
        refine rd_op ?_
        refine rd_v rfl ?_
        refine rd_op ?_
        refine rd_cb ?_
        refine rd_cons ?_
        refine rd_v rfl ?_
        refine rd_nil ?_
        refine rd_intI ?_
        refine rd_cb ?_
        refine rd_cons ?_
        refine rd_v rfl ?_
        refine rd_nil ?_
        refine rd_lenQ (S9.c f__law_script).q ?_
        refine rd_I (modOk_of g13) ?_
        refine rd_ixL (S9.c f__law_script) e15 (fun u16 f17 => ?_)
        cases (show u16 = (V.int (t14)) from f17)
        cases e2
        refine rd_gn ?_
        exact ⟨F5, _, rfl, S9⟩
      · skip
        cases e2
        refine rd_next ?_
        exact ⟨F5, _, rfl, S9⟩
    · skip
      rintro σ19 H18 ⟨F20, o22, rfl, S21⟩
      have S23 := S.call0 S21
      have f__law_script := qC.mono S21.le f__law_script
      obtain ⟨g24, hm⟩ := gd_some hm
      obtain ⟨g25, hm⟩ := gd_some hm
      obtain ⟨g26, hm⟩ := gd_some hm
      obtain ⟨g27, hm⟩ := gd_some hm
      obtain ⟨g28, hm⟩ := gd_some hm
      obtain ⟨g29, hm⟩ := gd_some hm
      refine rd_seq ?_
      refine rd_asg ?_
      refine rd_op ?_
      refine rd_op ?_
      refine rd_cb ?_
      refine rd_cons ?_
      refine rd_op ?_
      refine rd_op ?_
      refine rd_op ?_
      refine rd_cb ?_
      refine rd_cons ?_
      refine rd_v rfl ?_
      refine rd_nil ?_
      refine rd_intI ?_
      refine rd_c ?_
      refine rd_I (modOk_of g24) ?_
      refine rd_op ?_
      refine rd_c ?_
      refine rd_v rfl ?_
      refine rd_I (mulOk_of g25) ?_
      refine rd_I0 ?_
      refine rd_c ?_
      refine rd_I0 ?_
      refine rd_nil ?_
      refine rd_intI ?_
      refine rd_c ?_
      refine rd_I (mulOk_of g26) ?_
      refine rd_c ?_
      refine rd_I (modOk_of g27) ?_
      refine rd_gn ?_
      refine rd_ret ?_
      refine rd_lst ?_
      refine rd_cons ?_
      refine rd_op ?_
      refine rd_v rfl ?_
      refine rd_cb ?_
      refine rd_cons ?_
      refine rd_op ?_
      refine rd_v rfl ?_
      refine rd_op ?_
      refine rd_c ?_
      refine rd_c ?_
      refine rd_I (powOk_of g28) ?_
      refine rd_I0 ?_
      refine rd_nil ?_
      refine rd_intB ?_
      refine rd_I (mulOk_of g29) ?_
      refine rd_cons ?_
      refine rd_v rfl ?_
      refine rd_nil ?_
      refine rd_lK rfl ?_
      refine al S23 (fun p30 H31 np32 c33 w34 => ?_)
      have z35 := S23.free0 np32
      have S36 := S23.call0 c33
      have f__law_script := qC.mono c33.le f__law_script
      cases hm
      exact hQ _ _ _ z35 S36 ⟨w34.fr, w34.at_, .inr rfl⟩
def sp_law_take (K : PySem.W.Frag) : Sp := fun vs H Q _ => ∃ (F : Hp) (p__law_pool_here : Addr) (a__law_pool_here : Int × Int) (a__law_many : Int) (r : (Int × (Int × Int))), vs = [.ref p__law_pool_here, (V.int (a__law_many))] ∧ Same F H ∧ Ow (fun a => a = p__law_pool_here) H F H p__law_pool_here (.lst [.int a__law_pool_here.1, .int a__law_pool_here.2]) ∧ m_law_take a__law_pool_here a__law_many = some r ∧ ∀ v F' H', Sx (fun a => a = p__law_pool_here) F H F' H' → Ow (fun a => a = p__law_pool_here) H F' H' p__law_pool_here (.lst [.int r.2.1, .int r.2.2]) → qI.r K F' v r.1 → Q v H'
theorem sc_law_take : FnScope ["_law_pool_here", "_law_many", "_law_digit"] ["_law_pool_here", "_law_many"] (defScope s_law_take) := ⟨rfl, rfl, rfl, by decide +kernel, rfl, by decide +kernel, by decide +kernel⟩
theorem bn_law_take (T : Tx K mg) : Binds K (fdOf K ("_law_take", none)) ["_law_pool_here", "_law_many"] [] := FunD.bindsN T.F_law_take fun _ _ _ _ _ _ us hl => match us, hl with | [_, _], _ => rfl
theorem ok_law_take (T : Tx K mg) : FnOk P w K mg base CX0 1 (He.ga K "_law_take") (fdOf K ("_law_take", none)) ["_law_pool_here", "_law_many"] (sp_law_take K) := by
  refine FunD.ok T.F_law_take sc_law_take (fun vs H0 Q E h => ?_) (fun cdv A outer s H0 vs Q E hr h => ?_)
  · obtain ⟨_, _, _, _, _, rfl, _⟩ := h
    rfl
  · obtain ⟨F0, p__law_pool_here, a__law_pool_here, a__law_many, r, rfl, hE, w__law_pool_here, hm, hQ⟩ := h
    refine ⟨_, PSs.nox ((pss_cons (ps_if (pt_cmpR op_gt (pe_ix (r := rIxL K) ix_list (pv 0) pe_int (fun _ _ => rfl)) pe_int (nomark _)) (pss_cons (ps_set (i := 2) sc_law_take.nd rfl (by first | exact Or.inl rfl | exact Or.inr rfl) (pe_op op_mod (pe_callTy cr_int (by rfl) T.n_int (by decide +kernel) (pa_cons (pe_ix (r := rIxL K) ix_list (pv 0) pe_int (fun _ _ => rfl)) pa_nil)) (pv 1))) (pss_cons (ps_asg (pe_op op_fdiv (pe_ix (r := rIxL K) ix_list (pv 0) pe_int (fun _ _ => rfl)) (pv 1)) (pg_sub (pv 0) pe_int set_list)) (pss_one (ps_ret (pv 2))))) pss_nil) (pss_cons (ps_asg (pe_op op_mod (pe_callTy cr_int (by rfl) T.n_int (by decide +kernel) (pa_cons (pe_op op_add (pe_op op_mul (pe_ix (r := rIxL K) ix_list (pv 0) pe_int (fun _ _ => rfl)) pe_int) pe_int) pa_nil)) pe_int) (pg_sub (pv 0) pe_int set_list)) (pss_one (ps_ret (pe_op op_mod (pe_callTy cr_int (by rfl) T.n_int (by decide +kernel) (pa_cons (pe_op op_fdiv (pe_op op_mod (pe_callTy cr_int (by rfl) T.n_int (by decide +kernel) (pa_cons (pe_op op_mul (pe_ix (r := rIxL K) ix_list (pv 0) pe_int (fun _ _ => rfl)) (pe_ix (r := rIxL K) ix_list (pv 0) pe_int (fun _ _ => rfl))) pa_nil)) pe_int) pe_int) pa_nil)) (pv 1))))))), ?_⟩
    have S : Sx (fun a => a = p__law_pool_here) F0 H0 F0 H0 := Sx.refl hE (live1 w__law_pool_here)
    unfold m_law_take at hm
    refine rd_seq ?_
    refine rd_ifS ?_
    refine rd_test ?_
    refine rd_op ?_
    refine rd_op ?_
    refine rd_v rfl ?_
    refine rd_c ?_
    refine pool0 w__law_pool_here ?_
    refine rd_c ?_
    refine rd_I0 ?_
    refine rd_b ?_
    refine if_b hm (fun b1 hm => ?_) (fun b1 hm => ?_)
    · skip
      obtain ⟨g2, hm⟩ := gd_some hm
      obtain ⟨g3, hm⟩ := gd_some hm
      refine rd_seq ?_
      refine rd_asg ?_
      refine rd_op ?_
      refine rd_cb ?_
      refine rd_cons ?_
      refine rd_op ?_
      refine rd_v rfl ?_
      refine rd_c ?_
      refine pool0 w__law_pool_here ?_
      refine rd_nil ?_
      refine rd_intI ?_
      refine rd_v rfl ?_
      refine rd_I (modOk_of g2) ?_
      refine rd_gn ?_
      refine rd_seq ?_
      refine rd_asg ?_
      refine rd_op ?_
      refine rd_op ?_
      refine rd_v rfl ?_
      refine rd_c ?_
      refine pool0 w__law_pool_here ?_
      refine rd_v rfl ?_
      refine rd_I (divOk_of g3) ?_
      refine rd_gsub ?_
      refine rd_v rfl ?_
      refine rd_c ?_
      refine pset0 S w__law_pool_here (fun H4 c5 w6 => ?_)
      have S7 := S.call1 c5 w__law_pool_here
      cases hm
      refine rd_ret ?_
      refine rd_v rfl ?_
      exact hQ _ _ _ S7 w6 rfl
    · skip
      obtain ⟨g8, hm⟩ := gd_some hm
      obtain ⟨g9, hm⟩ := gd_some hm
      refine rd_next ?_
      refine rd_seq ?_
      refine rd_asg ?_
      refine rd_op ?_
      refine rd_cb ?_
      refine rd_cons ?_
      refine rd_op ?_
      refine rd_op ?_
      refine rd_op ?_
      refine rd_v rfl ?_
      refine rd_c ?_
      refine pool1 w__law_pool_here ?_
      refine rd_c ?_
      refine rd_I (mulOk_of g8) ?_
      refine rd_c ?_
      refine rd_I0 ?_
      refine rd_nil ?_
      refine rd_intI ?_
      refine rd_c ?_
      refine rd_I (modOk_of g9) ?_
      refine rd_gsub ?_
      refine rd_v rfl ?_
      refine rd_c ?_
      refine pset1 S w__law_pool_here (fun H10 c11 w12 => ?_)
      have S13 := S.call1 c11 w__law_pool_here
      obtain ⟨g14, hm⟩ := gd_some hm
      obtain ⟨g15, hm⟩ := gd_some hm
      obtain ⟨g16, hm⟩ := gd_some hm
      obtain ⟨g17, hm⟩ := gd_some hm
      cases hm
      refine rd_ret ?_
      refine rd_op ?_
      refine rd_cb ?_
      refine rd_cons ?_
      refine rd_op ?_
      refine rd_op ?_
      refine rd_cb ?_
      refine rd_cons ?_
      refine rd_op ?_
      refine rd_op ?_
      refine rd_v rfl ?_
      refine rd_c ?_
      refine pool1 w12 ?_
      refine rd_op ?_
      refine rd_v rfl ?_
      refine rd_c ?_
      refine pool1 w12 ?_
      refine rd_I (mulOk_of g14) ?_
      refine rd_nil ?_
      refine rd_intI ?_
      refine rd_c ?_
      refine rd_I (modOk_of g15) ?_
      refine rd_c ?_
      refine rd_I (divOk_of g16) ?_
      refine rd_nil ?_
      refine rd_intI ?_
      refine rd_v rfl ?_
      refine rd_I (modOk_of g17) ?_
      exact hQ _ _ _ S13 w12 rfl
def sp_law_all_signs (K : PySem.W.Frag) : Sp := fun vs H Q _ => ∃ (F : Hp)  (r : Str), vs = [] ∧ Same F H ∧ m_law_all_signs = some r ∧ ∀ v F' H', Sx P0 F H F' H' → qS.r K F' v r → Q v H'
theorem sc_law_all_signs : FnScope [] [] (defScope s_law_all_signs) := ⟨rfl, rfl, rfl, by decide +kernel, rfl, by decide +kernel, by decide +kernel⟩
theorem bn_law_all_signs (T : Tx K mg) : Binds K (fdOf K ("_law_all_signs", none)) [] [] := FunD.bindsN T.F_law_all_signs fun _ _ _ _ _ _ us hl => match us, hl with | [], _ => rfl
theorem ok_law_all_signs (T : Tx K mg) : FnOk P w K mg base CX0 1 (He.ga K "_law_all_signs") (fdOf K ("_law_all_signs", none)) [] (sp_law_all_signs K) := by
  refine FunD.ok T.F_law_all_signs sc_law_all_signs (fun vs H0 Q E h => ?_) (fun cdv A outer s H0 vs Q E hr h => ?_)
  · obtain ⟨_, _, rfl, _⟩ := h
    rfl
  · obtain ⟨F0, r, rfl, hE, hm, hQ⟩ := h
    refine ⟨_, PSs.nox ((pss_one (ps_ret pe_str))), ?_⟩
    have S : Sx P0 F0 H0 F0 H0 := Sx.refl0 hE
    unfold m_law_all_signs at hm
    cases hm
    refine rd_ret ?_
    refine rd_c ?_
    exact hQ _ _ _ S rfl
def sp_law_text (K : PySem.W.Frag) : Sp := fun vs H Q _ => ∃ (F : Hp) (p__law_pool_here : Addr) (a__law_pool_here : Int × Int) (r : (Str × (Int × Int))), vs = [.ref p__law_pool_here] ∧ Same F H ∧ Ow (fun a => a = p__law_pool_here) H F H p__law_pool_here (.lst [.int a__law_pool_here.1, .int a__law_pool_here.2]) ∧ m_law_text a__law_pool_here = some r ∧ ∀ v F' H', Sx (fun a => a = p__law_pool_here) F H F' H' → Ow (fun a => a = p__law_pool_here) H F' H' p__law_pool_here (.lst [.int r.2.1, .int r.2.2]) → qS.r K F' v r.1 → Q v H'
theorem sc_law_text : FnScope ["_law_pool_here", "_law_text_here", "_law_style", "_law_k"] ["_law_pool_here"] (defScope s_law_text) := ⟨rfl, rfl, rfl, by decide +kernel, rfl, by decide +kernel, by decide +kernel⟩
theorem bn_law_text (T : Tx K mg) : Binds K (fdOf K ("_law_text", none)) ["_law_pool_here"] [] := FunD.bindsN T.F_law_text fun _ _ _ _ _ _ us hl => match us, hl with | [_], _ => rfl
theorem ok_law_text (T : Tx K mg) : FnOk P w K mg base CX0 2 (He.ga K "_law_text") (fdOf K ("_law_text", none)) ["_law_pool_here"] (sp_law_text K) := by
  refine FunD.ok T.F_law_text sc_law_text (fun vs H0 Q E h => ?_) (fun cdv A outer s H0 vs Q E hr h => ?_)
  · obtain ⟨_, _, _, _, rfl, _⟩ := h
    rfl
  · obtain ⟨F0, p__law_pool_here, a__law_pool_here, r, rfl, hE, w__law_pool_here, hm, hQ⟩ := h
    refine ⟨_, PSs.nox ((pss_cons (ps_set (i := 1) sc_law_text.nd rfl (by first | exact Or.inl rfl | exact Or.inr rfl) pe_str) (pss_cons (ps_set (i := 2) sc_law_text.nd rfl (by first | exact Or.inl rfl | exact Or.inr rfl) (pe_call (ok_law_take T) (hr.mono (by decide)) (by rfl) T.g_law_take T.F_law_take.kp (bn_law_take T) .nil pass0 (pa_cons (pv 0) (pa_cons pe_int pa_nil)))) (pss_cons (ps_for PassesOwn.never rfl (pi_range1 (by rfl) T.n_range (pa_cons (pe_op op_add pe_int (pe_call (ok_law_take T) (hr.mono (by decide)) (by rfl) T.g_law_take T.F_law_take.kp (bn_law_take T) .nil pass0 (pa_cons (pv 0) (pa_cons pe_int pa_nil)))) pa_nil)) (pg_name (i := 3) sc_law_text.nd rfl (by first | exact Or.inl rfl | exact Or.inr rfl)) (pss_one (ps_if (pt_cmpR op_eqI (pv 2) pe_int (nomark _)) (pss_one (ps_set (i := 1) sc_law_text.nd rfl (by first | exact Or.inl rfl | exact Or.inr rfl) (pe_op op_catS (pv 1) (pe_ix ix_str (pe_call0 (ok_law_all_signs T) (hr.mono (by decide)) (by rfl) T.g_law_all_signs T.F_law_all_signs.kp (bn_law_all_signs T) .nil pass0) (pe_call (ok_law_take T) (hr.mono (by decide)) (by rfl) T.g_law_take T.F_law_take.kp (bn_law_take T) .nil pass0 (pa_cons (pv 0) (pa_cons pe_int pa_nil))) (fun _ _ => rfl))))) (pss_one (ps_set (i := 1) sc_law_text.nd rfl (by first | exact Or.inl rfl | exact Or.inr rfl) (pe_op op_catS (pv 1) (pe_ix ix_str pe_str (pe_call (ok_law_take T) (hr.mono (by decide)) (by rfl) T.g_law_take T.F_law_take.kp (bn_law_take T) .nil pass0 (pa_cons (pv 0) (pa_cons pe_int pa_nil))) (fun _ _ => rfl)))))))) (pss_one (ps_ret (pv 1))))))), ?_⟩
    have S : Sx (fun a => a = p__law_pool_here) F0 H0 F0 H0 := Sx.refl hE (live1 w__law_pool_here)
    unfold m_law_text at hm
    obtain ⟨t1, e2, hm⟩ := bd_some hm
    refine rd_seq ?_
    refine rd_asg ?_
    refine rd_c ?_
    refine rd_gn ?_
    refine rd_seq ?_
    refine rd_asg ?_
    refine rd_call ?_
    refine rd_cons ?_
    refine rd_v rfl ?_
    refine rd_cons ?_
    refine rd_c ?_
    refine rd_nil ?_
    refine ⟨F0, _, _, _, t1, rfl, S.sub, w__law_pool_here.arg, e2, fun v6 F3 H4 c5 w8 f7 => ?_⟩
    have S9 := S.call1 c5 w__law_pool_here
    have w10 := w__law_pool_here.back w8
    cases (show v6 = (V.int (t1.1)) from f7)
    obtain ⟨t11, e12, hm⟩ := bd_some hm
    refine rd_gn ?_
    refine rd_seq ?_
    refine rd_for ?_
    refine rd_iR1 ?_
    refine rd_cons ?_
    refine rd_op ?_
    refine rd_c ?_
    refine rd_call ?_
    refine rd_cons ?_
    refine rd_v rfl ?_
    refine rd_cons ?_
    refine rd_c ?_
    refine rd_nil ?_
    refine ⟨F3, _, _, _, t11, rfl, S9.sub, w10.arg, e12, fun v16 F13 H14 c15 w18 f17 => ?_⟩
    have S19 := S9.call1 c15 w10
    have w20 := w10.back w18
    cases (show v16 = (V.int (t11.1)) from f17)
    obtain ⟨g21, hm⟩ := gd_some hm
    refine rd_I0 ?_
    refine rd_nil ?_
    refine rd_r1 g21 ?_
    obtain ⟨t22, e23, hm⟩ := bd_some hm
    refine rd_forS feedsRg (typedR (K := K) (F := F13)) e23 (fun (s24 : ((Int × Int) × Str)) σ H => ∃ (F : Hp) (o3 : Option V), σ = [some (V.ref p__law_pool_here), some (V.str (s24.2)), some (V.int (t1.1)), o3] ∧ Sx (fun a => a = p__law_pool_here) F13 H14 F H ∧ Ow (fun a => a = p__law_pool_here) H14 F H p__law_pool_here (.lst [V.int s24.1.1, V.int s24.1.2])) ?_ ?_ ?_ ?_
    · intro _ _ _ _; trivial
    · skip
      have S26 : Sx (fun a => a = p__law_pool_here) _ _ _ _ := Sx.refl S19.sub (fun a z => by rw [z, w20.at_]; exact (fun h => nomatch h))
      have w27 : Ow (fun a => a = p__law_pool_here) H14 _ _ _ _ := ⟨w20.fr, w20.at_, .inr (rfl)⟩
      exact ⟨F13, _, rfl, S26, w27⟩
    · skip
      rintro x28 v29 s30 c34 σ31 H32 f33 ⟨F35, o37, rfl, S36, w38⟩ hm41
      unfold m_law_text_b1 at hm41
      cases (show v29 = (V.int (x28)) from f33)
      refine rd_gn ?_
      refine rd_ifS ?_
      refine rd_test ?_
      refine rd_op ?_
      refine rd_v rfl ?_
      refine rd_c ?_
      refine rd_I0 ?_
      refine rd_b ?_
      refine if_b hm41 (fun b42 hm41 => ?_) (fun b42 hm41 => ?_)
      · skip
        obtain ⟨t43, e44, hm41⟩ := bd_some hm41
        refine rd_asg ?_
        refine rd_op ?_
        refine rd_v rfl ?_
        refine rd_op ?_
        refine rd_call ?_
        refine rd_nil ?_
        refine ⟨F35, t43, rfl, S36.sub, e44, fun v48 F45 H46 c47 f49 => ?_⟩
        have S50 := S36.call0 c47
        have w38 := w38.call0 c47
        cases (show v48 = (V.str (t43)) from f49)
        obtain ⟨t51, e52, hm41⟩ := bd_some hm41
        refine rd_call ?_
        refine rd_cons ?_
        refine rd_v rfl ?_
        refine rd_cons ?_
        refine rd_c ?_
        refine rd_nil ?_
        refine ⟨F45, _, _, _, t51, rfl, S50.sub, w38.arg, e52, fun v56 F53 H54 c55 w58 f57 => ?_⟩
        have S59 := S50.call1 c55 w38
        have w60 := w38.back w58
        cases (show v56 = (V.int (t51.1)) from f57)
        obtain ⟨t61, e62, hm41⟩ := bd_some hm41
        obtain ⟨g63, hm41⟩ := gd_some hm41
        cases hm41
        refine rd_ixS e62 ?_
        refine rd_catS g63 ?_
        refine rd_gn ?_
        exact ⟨F53, _, rfl, S59, w60⟩
      · skip
        obtain ⟨t64, e65, hm41⟩ := bd_some hm41
        refine rd_asg ?_
        refine rd_op ?_
        refine rd_v rfl ?_
        refine rd_op ?_
        refine rd_c ?_
        refine rd_call ?_
        refine rd_cons ?_
        refine rd_v rfl ?_
        refine rd_cons ?_
        refine rd_c ?_
        refine rd_nil ?_
        refine ⟨F35, _, _, _, t64, rfl, S36.sub, w38.arg, e65, fun v69 F66 H67 c68 w71 f70 => ?_⟩
        have S72 := S36.call1 c68 w38
        have w73 := w38.back w71
        cases (show v69 = (V.int (t64.1)) from f70)
        obtain ⟨t74, e75, hm41⟩ := bd_some hm41
        obtain ⟨g76, hm41⟩ := gd_some hm41
        cases hm41
        refine rd_ixS e75 ?_
        refine rd_catS g76 ?_
        refine rd_gn ?_
        exact ⟨F66, _, rfl, S72, w73⟩
    · skip
      rintro σ77 H78 ⟨F79, o81, rfl, S80, w82⟩
      have S83 := S19.call1 S80 w20
      have w84 : Ow (fun a => a = p__law_pool_here) H0 _ _ _ _ := ⟨w82.fr, w82.at_, w20.mine⟩
      cases hm
      refine rd_ret ?_
      refine rd_v rfl ?_
      exact hQ _ _ _ S83 w84 rfl
def sp_law_parts (K : PySem.W.Frag) : Sp := fun vs H Q _ => ∃ (F : Hp) (p__law_pool_here : Addr) (a__law_pool_here : Int × Int) (r : ((List Str) × (Int × Int))), vs = [.ref p__law_pool_here] ∧ Same F H ∧ Ow (fun a => a = p__law_pool_here) H F H p__law_pool_here (.lst [.int a__law_pool_here.1, .int a__law_pool_here.2]) ∧ m_law_parts a__law_pool_here = some r ∧ ∀ v F' H', Sx (fun a => a = p__law_pool_here) F H F' H' → Ow (fun a => a = p__law_pool_here) H F' H' p__law_pool_here (.lst [.int r.2.1, .int r.2.2]) → (qL qS).r K F' v r.1 → Q v H'
theorem sc_law_parts : FnScope ["_law_pool_here", "_law_parts_here", "_law_k", "_law_kind", "_law_fixed"] ["_law_pool_here"] (defScope s_law_parts) := ⟨rfl, rfl, rfl, by decide +kernel, rfl, by decide +kernel, by decide +kernel⟩
theorem bn_law_parts (T : Tx K mg) : Binds K (fdOf K ("_law_parts", none)) ["_law_pool_here"] [] := FunD.bindsN T.F_law_parts fun _ _ _ _ _ _ us hl => match us, hl with | [_], _ => rfl
theorem ok_law_parts (T : Tx K mg) : FnOk P w K mg base CX0 3 (He.ga K "_law_parts") (fdOf K ("_law_parts", none)) ["_law_pool_here"] (sp_law_parts K) := by
  refine FunD.ok T.F_law_parts sc_law_parts (fun vs H0 Q E h => ?_) (fun cdv A outer s H0 vs Q E hr h => ?_)
  · obtain ⟨_, _, _, _, rfl, _⟩ := h
    rfl
  · obtain ⟨F0, p__law_pool_here, a__law_pool_here, r, rfl, hE, w__law_pool_here, hm, hQ⟩ := h
    refine ⟨_, PSs.nox ((pss_cons (ps_set (i := 1) sc_law_parts.nd rfl (by first | exact Or.inl rfl | exact Or.inr rfl) (pe_lst pa_nil)) (pss_cons (ps_for PassesOwn.never rfl (pi_range1 (by rfl) T.n_range (pa_cons (pe_op op_add pe_int (pe_call (ok_law_take T) (hr.mono (by decide)) (by rfl) T.g_law_take T.F_law_take.kp (bn_law_take T) .nil pass0 (pa_cons (pv 0) (pa_cons pe_int pa_nil)))) pa_nil)) (pg_name (i := 2) sc_law_parts.nd rfl (by first | exact Or.inl rfl | exact Or.inr rfl)) (pss_cons (ps_set (i := 3) sc_law_parts.nd rfl (by first | exact Or.inl rfl | exact Or.inr rfl) (pe_call (ok_law_take T) (hr.mono (by decide)) (by rfl) T.g_law_take T.F_law_take.kp (bn_law_take T) .nil pass0 (pa_cons (pv 0) (pa_cons pe_int pa_nil)))) (pss_cons (ps_set (i := 4) sc_law_parts.nd rfl (by first | exact Or.inl rfl | exact Or.inr rfl) (pe_and (pe_cmpR (r := rNeD K) (op_neD hr.units) (pv 1) (pe_lst pa_nil) (nomark _)) (pe_one (pe_cmpR (r := rIn K true) op_notIn_seq (pe_ix (r := rIxL K) ix_list (pv 1) (pe_un un_neg pe_int) (fun _ _ => rfl)) (pe_tup (pa_cons pe_str (pa_cons pe_str (pa_cons pe_str pa_nil)))) rfl)))) (pss_one (ps_if (PW.pt (pw_and (pt_cmpR op_eqI (pv 3) pe_int (nomark _)) (pw_and1 (pt_cmpR (r := rIn K true) op_notIn_seq pe_str (pv 1) rfl)))) (pss_one (ps_expr (pe_bmK (K := K) PySem.F.plainAttrs_list PySem.F.slot_list_append PySem.F.type_list_append mt_append (pv 1) (pa_cons pe_str pa_nil)))) (pss_one (ps_if (pt_cmpR op_eqI (pv 3) pe_int (nomark _)) (pss_one (ps_expr (pe_bmK (K := K) PySem.F.plainAttrs_list PySem.F.slot_list_append PySem.F.type_list_append mt_append (pv 1) (pa_cons pe_str pa_nil)))) (pss_one (ps_if (PW.pt (pw_or (pt_cmpR op_eqI (pv 3) pe_int (nomark _)) (pw_or1 (pt_val (pv 4))))) (pss_one (ps_expr (pe_bmK (K := K) PySem.F.plainAttrs_list PySem.F.slot_list_append PySem.F.type_list_append mt_append (pv 1) (pa_cons pe_str pa_nil)))) (pss_one (ps_expr (pe_bmK (K := K) PySem.F.plainAttrs_list PySem.F.slot_list_append PySem.F.type_list_append mt_append (pv 1) (pa_cons (pe_call (ok_law_text T) (hr.mono (by decide)) (by rfl) T.g_law_text T.F_law_text.kp (bn_law_text T) .nil pass0 (pa_cons (pv 0) pa_nil)) pa_nil))))))))))))) (pss_one (ps_ret (pv 1)))))), ?_⟩
    have S : Sx (fun a => a = p__law_pool_here) F0 H0 F0 H0 := Sx.refl hE (live1 w__law_pool_here)
    unfold m_law_parts at hm
    refine rd_seq ?_
    refine rd_asg ?_
    refine rd_lst ?_
    refine rd_nil ?_
    refine rd_lK rfl ?_
    refine al S (fun p1 H2 np3 c4 w5 => ?_)
    have r6 : Row qS K F0 [] ([] : List Str) := .nil
    have ne7 : p__law_pool_here ≠ p1 := w__law_pool_here.ne np3
    have z8 := S.free0 np3
    have S9 := S.call0 c4
    have w__law_pool_here := w__law_pool_here.call0 c4
    obtain ⟨t10, e11, hm⟩ := bd_some hm
    refine rd_gn ?_
    refine rd_seq ?_
    refine rd_for ?_
    refine rd_iR1 ?_
    refine rd_cons ?_
    refine rd_op ?_
    refine rd_c ?_
    refine rd_call ?_
    refine rd_cons ?_
    refine rd_v rfl ?_
    refine rd_cons ?_
    refine rd_c ?_
    refine rd_nil ?_
    refine ⟨F0, _, _, _, t10, rfl, S9.sub, w__law_pool_here.arg, e11, fun v15 F12 H13 c14 w17 f16 => ?_⟩
    have S18 := S9.call1 c14 w__law_pool_here
    have r6 := Row.mono c14.le r6
    have w5 := w5.call c14 (by intro z; exact (Ne.symm ne7) z)
    have w19 := w__law_pool_here.back w17
    cases (show v15 = (V.int (t10.1)) from f16)
    obtain ⟨g20, hm⟩ := gd_some hm
    refine rd_I0 ?_
    refine rd_nil ?_
    refine rd_r1 g20 ?_
    obtain ⟨t21, e22, hm⟩ := bd_some hm
    refine rd_forS feedsRg (typedR (K := K) (F := F12)) e22 (fun (s23 : ((Int × Int) × (List Str))) σ H => ∃ (F : Hp) (o2 : Option V) (o3 : Option V) (o4 : Option V) (vs1 : List V), σ = [some (V.ref p__law_pool_here), some (V.ref p1), o2, o3, o4] ∧ Sx (fun a => a = p__law_pool_here ∨ a = p1) F12 H13 F H ∧ Ow (fun a => a = p__law_pool_here ∨ a = p1) H13 F H p__law_pool_here (.lst [V.int s23.1.1, V.int s23.1.2]) ∧ Ow (fun a => a = p__law_pool_here ∨ a = p1) H13 F H p1 (.lst vs1) ∧ Row qS K F vs1 s23.2) ?_ ?_ ?_ ?_
    · intro _ _ _ _; trivial
    · skip
      have S25 : Sx (fun a => a = p__law_pool_here ∨ a = p1) _ _ _ _ := Sx.refl S18.sub (by
          rintro a (rfl | rfl)
          · rw [w19.at_]; exact (fun h => nomatch h)
          · rw [w5.at_]; exact (fun h => nomatch h))
      have w26 : Ow (fun a => a = p__law_pool_here ∨ a = p1) H13 _ _ _ _ := ⟨w19.fr, w19.at_, .inr (Or.inl rfl)⟩
      have w27 : Ow (fun a => a = p__law_pool_here ∨ a = p1) H13 _ _ _ _ := ⟨w5.fr, w5.at_, .inr (Or.inr (rfl))⟩
      exact ⟨F12, _, _, _, _, rfl, S25, w26, w27, r6⟩
    · skip
      rintro x28 v29 s30 c34 σ31 H32 f33 ⟨F35, o37, o38, o39, v40, rfl, S36, w41, w42, r43⟩ hm46
      unfold m_law_parts_b1 at hm46
      cases (show v29 = (V.int (x28)) from f33)
      obtain ⟨t47, e48, hm46⟩ := bd_some hm46
      refine rd_gn ?_
      refine rd_seq ?_
      refine rd_asg ?_
      refine rd_call ?_
      refine rd_cons ?_
      refine rd_v rfl ?_
      refine rd_cons ?_
      refine rd_c ?_
      refine rd_nil ?_
      refine ⟨F35, _, _, _, t47, rfl, S36.sub, w41.arg, e48, fun v52 F49 H50 c51 w54 f53 => ?_⟩
      have S55 := S36.call1 c51 w41
      have r43 := Row.mono c51.le r43
      have w42 := w42.call c51 (by intro z; exact (Ne.symm ne7) z)
      have w56 := w41.back w54
      cases (show v52 = (V.int (t47.1)) from f53)
      refine rd_gn ?_
      refine rd_seq ?_
      refine rd_asg ?_
      refine rd_andV ?_
      refine rd_op ?_
      refine rd_v rfl ?_
      refine rd_lst ?_
      refine rd_nil ?_
      refine rd_lK rfl ?_
      refine alL (K := K) (A := qS) (xs := ([] : List Str)) S55 .nil (fun v57 F58 H59 c60 f61 => ?_)
      have S62 := S55.call0 c60
      have w56 := w56.call0 c60
      have r43 := Row.mono c60.le r43
      have w42 := w42.call0 c60
      obtain ⟨g63, hm46⟩ := gd_some hm46
      obtain ⟨g64, hm46⟩ := gd_some hm46
      obtain ⟨t75, e76, hm46⟩ := bd_some hm46
      refine rd_neD (D := (dL dS)) (w42.dS S62.sub dS r43) (S62.d (dL dS) f61) g63 g64 ?_
      refine rd_b ?_
      refine andV_j (fun c H' => c = V.bl t75 ∧ ∃ F', Sx P0 F58 H59 F' H') ?_ ?_ ?_
      · intro b77 Q78 q79
        have e76 := if_t e76 b77
        have S80 := Sx.refl0 S62.sub
        obtain ⟨t81, e82, e76⟩ := bd_some e76
        refine rd_op ?_
        refine rd_op ?_
        refine rd_v rfl ?_
        refine rd_un ?_
        refine rd_c ?_
        refine rd_U ?_
        refine rd_ixL (w42.l r43).r e82 (fun u83 f84 => ?_)
        cases (show u83 = (V.str (t81)) from f84)
        refine rd_tup ?_
        refine rd_cons ?_
        refine rd_c ?_
        refine rd_cons ?_
        refine rd_c ?_
        refine rd_cons ?_
        refine rd_c ?_
        refine rd_nil ?_
        refine rd_uK rfl ?_
        refine alT (K := K) (A := qS) (xs := [("<any>" : Str), ("<digits>" : Str), ("<word>" : Str)]) S80 (.cons rfl (.cons rfl (.cons rfl .nil))) (fun v85 F86 H87 c88 f89 => ?_)
        have S90 := S80.call0 c88
        have w56 := w56.call0 c88
        have r43 := Row.mono c88.le r43
        have w42 := w42.call0 c88
        cases e76
        refine rd_niS (S90.t f89).q ?_
        exact q79 _ _ ⟨rfl, F86, S90⟩
      · intro b77
        have e76 := if_f e76 b77
        cases e76
        have S91 := Sx.refl0 S62.sub
        exact ⟨rfl, F58, S91⟩
      rintro b95 H93 ⟨rfl, F92, c94⟩
      have S96 := S62.call0 c94
      have w56 := w56.call0 c94
      have r43 := Row.mono c94.le r43
      have w42 := w42.call0 c94
      refine rd_gn ?_
      refine rd_ifS ?_
      refine rd_and ?_
      refine rd_test ?_
      refine rd_op ?_
      refine rd_v rfl ?_
      refine rd_c ?_
      refine rd_I0 ?_
      refine rd_b ?_
      refine and_p (by intro _ Q' q; refine rd_test ?_; refine rd_op ?_; refine rd_c ?_; refine rd_v rfl ?_; refine rd_niS (w42.l r43).r.q ?_; refine rd_b ?_; exact q) ?_
      refine if_b hm46 (fun b97 hm46 => ?_) (fun b97 hm46 => ?_)
      · skip
        obtain ⟨g98, hm46⟩ := gd_some hm46
        refine rd_drop ?_
        refine rd_bm ?_
        refine rd_v rfl ?_
        refine rd_ty w42.ty ?_
        refine rd_cons ?_
        refine rd_c ?_
        refine rd_nil ?_
        refine ap S96 w42 r43 g98 (fun H99 c100 w101 => ?_)
        have r102 := r43.snoc (show qS.r K F92 _ ("<any>" : Str) from rfl)
        have S103 := S96.call1 c100 w42
        have w56 := w56.call c100 (by intro z; exact ne7 z)
        have r102 := Row.mono c100.le r102
        cases hm46
        exact ⟨F92, _, _, _, _, rfl, S103, w56, w101, r102⟩
      · skip
        refine rd_ifS ?_
        refine rd_test ?_
        refine rd_op ?_
        refine rd_v rfl ?_
        refine rd_c ?_
        refine rd_I0 ?_
        refine rd_b ?_
        refine if_b hm46 (fun b104 hm46 => ?_) (fun b104 hm46 => ?_)
        · skip
          obtain ⟨g105, hm46⟩ := gd_some hm46
          refine rd_drop ?_
          refine rd_bm ?_
          refine rd_v rfl ?_
          refine rd_ty w42.ty ?_
          refine rd_cons ?_
          refine rd_c ?_
          refine rd_nil ?_
          refine ap S96 w42 r43 g105 (fun H106 c107 w108 => ?_)
          have r109 := r43.snoc (show qS.r K F92 _ ("<digits>" : Str) from rfl)
          have S110 := S96.call1 c107 w42
          have w56 := w56.call c107 (by intro z; exact ne7 z)
          have r109 := Row.mono c107.le r109
          cases hm46
          exact ⟨F92, _, _, _, _, rfl, S110, w56, w108, r109⟩
        · skip
          refine rd_ifS ?_
          refine rd_or ?_
          refine rd_test ?_
          refine rd_op ?_
          refine rd_v rfl ?_
          refine rd_c ?_
          refine rd_I0 ?_
          refine rd_b ?_
          refine or_p (by intro _ Q' q; refine rd_tB ?_; refine rd_v rfl ?_; refine rd_b ?_; exact q) ?_
          refine if_b hm46 (fun b111 hm46 => ?_) (fun b111 hm46 => ?_)
          · skip
            obtain ⟨g112, hm46⟩ := gd_some hm46
            refine rd_drop ?_
            refine rd_bm ?_
            refine rd_v rfl ?_
            refine rd_ty w42.ty ?_
            refine rd_cons ?_
            refine rd_c ?_
            refine rd_nil ?_
            refine ap S96 w42 r43 g112 (fun H113 c114 w115 => ?_)
            have r116 := r43.snoc (show qS.r K F92 _ ("<word>" : Str) from rfl)
            have S117 := S96.call1 c114 w42
            have w56 := w56.call c114 (by intro z; exact ne7 z)
            have r116 := Row.mono c114.le r116
            cases hm46
            exact ⟨F92, _, _, _, _, rfl, S117, w56, w115, r116⟩
          · skip
            obtain ⟨t118, e119, hm46⟩ := bd_some hm46
            refine rd_drop ?_
            refine rd_bm ?_
            refine rd_v rfl ?_
            refine rd_ty w42.ty ?_
            refine rd_cons ?_
            refine rd_call ?_
            refine rd_cons ?_
            refine rd_v rfl ?_
            refine rd_nil ?_
            refine ⟨F92, _, _, t118, rfl, S96.sub, w56.arg, e119, fun v123 F120 H121 c122 w125 f124 => ?_⟩
            have S126 := S96.call1 c122 w56
            have r43 := Row.mono c122.le r43
            have w42 := w42.call c122 (by intro z; exact (Ne.symm ne7) z)
            have w127 := w56.back w125
            cases (show v123 = (V.str (t118.1)) from f124)
            obtain ⟨g128, hm46⟩ := gd_some hm46
            refine rd_nil ?_
            refine ap S126 w42 r43 g128 (fun H129 c130 w131 => ?_)
            have r132 := r43.snoc (show qS.r K F120 _ t118.1 from rfl)
            have S133 := S126.call1 c130 w42
            have w127 := w127.call c130 (by intro z; exact ne7 z)
            have r132 := Row.mono c130.le r132
            cases hm46
            exact ⟨F120, _, _, _, _, rfl, S133, w127, w131, r132⟩
    · skip
      rintro σ134 H135 ⟨F136, o138, o139, o140, v141, rfl, S137, w142, w143, r144⟩
      have S145 := S18.call S137 (by
          rintro a (rfl | rfl)
          · exact w19.mine.symm
          · exact w5.mine.symm)
      have w146 : Ow (fun a => a = p__law_pool_here) H0 _ _ _ _ := ⟨w142.fr, w142.at_, w19.mine⟩
      have w147 : Ow (fun a => a = p__law_pool_here) H0 _ _ _ _ := ⟨w143.fr, w143.at_, w5.mine⟩
      obtain ⟨F148, S149, le150, f151, _, eq152⟩ := fz S145 w147 z8 r144
      have w146 := w146.fzO ne7 eq152
      cases hm
      refine rd_ret ?_
      refine rd_v rfl ?_
      exact hQ _ _ _ S149 w146 f151
def sp_law_tree (K : PySem.W.Frag) : Sp := fun vs H Q _ => ∃ (F : Hp) (p__law_pool_here : Addr) (a__law_pool_here : Int × Int) (r : ((Str × (List Str) × (List Str)) × (Int × Int))), vs = [.ref p__law_pool_here] ∧ Same F H ∧ Ow (fun a => a = p__law_pool_here) H F H p__law_pool_here (.lst [.int a__law_pool_here.1, .int a__law_pool_here.2]) ∧ m_law_tree a__law_pool_here = some r ∧ ∀ v F' H', Sx (fun a => a = p__law_pool_here) F H F' H' → Ow (fun a => a = p__law_pool_here) H F' H' p__law_pool_here (.lst [.int r.2.1, .int r.2.2]) → (qLr (fc qS (fc (qL qS) (f1 (qL qS))))).r K F' v r.1 → Q v H'
theorem sc_law_tree : FnScope ["_law_pool_here", "_law_kind"] ["_law_pool_here"] (defScope s_law_tree) := ⟨rfl, rfl, rfl, by decide +kernel, rfl, by decide +kernel, by decide +kernel⟩
theorem bn_law_tree (T : Tx K mg) : Binds K (fdOf K ("_law_tree", none)) ["_law_pool_here"] [] := FunD.bindsN T.F_law_tree fun _ _ _ _ _ _ us hl => match us, hl with | [_], _ => rfl
theorem ok_law_tree (T : Tx K mg) : FnOk P w K mg base CX0 4 (He.ga K "_law_tree") (fdOf K ("_law_tree", none)) ["_law_pool_here"] (sp_law_tree K) := by
  refine FunD.ok T.F_law_tree sc_law_tree (fun vs H0 Q E h => ?_) (fun cdv A outer s H0 vs Q E hr h => ?_)
  · obtain ⟨_, _, _, _, rfl, _⟩ := h
    rfl
  · obtain ⟨F0, p__law_pool_here, a__law_pool_here, r, rfl, hE, w__law_pool_here, hm, hQ⟩ := h
    refine ⟨_, PSs.nox ((pss_cons (ps_set (i := 1) sc_law_tree.nd rfl (by first | exact Or.inl rfl | exact Or.inr rfl) (pe_call (ok_law_take T) (hr.mono (by decide)) (by rfl) T.g_law_take T.F_law_take.kp (bn_law_take T) .nil pass0 (pa_cons (pv 0) (pa_cons pe_int pa_nil)))) (pss_cons (ps_if (pt_cmpR op_eqI (pv 1) pe_int (nomark _)) (pss_one (ps_ret (pe_lst (pa_cons pe_str (pa_cons (pe_call (ok_law_parts T) (hr.mono (by decide)) (by rfl) T.g_law_parts T.F_law_parts.kp (bn_law_parts T) .nil pass0 (pa_cons (pv 0) pa_nil)) (pa_cons (pe_call (ok_law_parts T) (hr.mono (by decide)) (by rfl) T.g_law_parts T.F_law_parts.kp (bn_law_parts T) .nil pass0 (pa_cons (pv 0) pa_nil)) pa_nil)))))) pss_nil) (pss_cons (ps_if (pt_cmpR op_eqI (pv 1) pe_int (nomark _)) (pss_one (ps_ret (pe_lst (pa_cons pe_str (pa_cons (pe_lst (pa_cons (pe_call (ok_law_text T) (hr.mono (by decide)) (by rfl) T.g_law_text T.F_law_text.kp (bn_law_text T) .nil pass0 (pa_cons (pv 0) pa_nil)) (pa_cons pe_str pa_nil))) (pa_cons (pe_lst (pa_cons pe_str (pa_cons (pe_call (ok_law_text T) (hr.mono (by decide)) (by rfl) T.g_law_text T.F_law_text.kp (bn_law_text T) .nil pass0 (pa_cons (pv 0) pa_nil)) pa_nil))) pa_nil)))))) pss_nil) (pss_cons (ps_if (pt_cmpR op_eqI (pv 1) pe_int (nomark _)) (pss_one (ps_ret (pe_lst (pa_cons pe_str (pa_cons (pe_call (ok_law_parts T) (hr.mono (by decide)) (by rfl) T.g_law_parts T.F_law_parts.kp (bn_law_parts T) .nil pass0 (pa_cons (pv 0) pa_nil)) (pa_cons (pe_lst (pa_cons pe_str pa_nil)) pa_nil)))))) pss_nil) (pss_one (ps_ret (pe_lst (pa_cons pe_str (pa_cons (pe_call (ok_law_parts T) (hr.mono (by decide)) (by rfl) T.g_law_parts T.F_law_parts.kp (bn_law_parts T) .nil pass0 (pa_cons (pv 0) pa_nil)) (pa_cons (pe_lst pa_nil) pa_nil))))))))))), ?_⟩
    have S : Sx (fun a => a = p__law_pool_here) F0 H0 F0 H0 := Sx.refl hE (live1 w__law_pool_here)
    unfold m_law_tree at hm
    obtain ⟨t1, e2, hm⟩ := bd_some hm
    refine rd_seq ?_
    refine rd_asg ?_
    refine rd_call ?_
    refine rd_cons ?_
    refine rd_v rfl ?_
    refine rd_cons ?_
    refine rd_c ?_
    refine rd_nil ?_
    refine ⟨F0, _, _, _, t1, rfl, S.sub, w__law_pool_here.arg, e2, fun v6 F3 H4 c5 w8 f7 => ?_⟩
    have S9 := S.call1 c5 w__law_pool_here
    have w10 := w__law_pool_here.back w8
    cases (show v6 = (V.int (t1.1)) from f7)
    refine rd_gn ?_
    refine rd_seq ?_
    refine rd_ifS ?_
    refine rd_test ?_
    refine rd_op ?_
    refine rd_v rfl ?_
    refine rd_c ?_
    refine rd_I0 ?_
    refine rd_b ?_
    refine if_b hm (fun b11 hm => ?_) (fun b11 hm => ?_)
    · skip
      obtain ⟨t12, e13, hm⟩ := bd_some hm
      refine rd_ret ?_
      refine rd_lst ?_
      refine rd_cons ?_
      refine rd_c ?_
      refine rd_cons ?_
      refine rd_call ?_
      refine rd_cons ?_
      refine rd_v rfl ?_
      refine rd_nil ?_
      refine ⟨F3, _, _, t12, rfl, S9.sub, w10.arg, e13, fun v17 F14 H15 c16 w19 f18 => ?_⟩
      have S20 := S9.call1 c16 w10
      have w21 := w10.back w19
      obtain ⟨t22, e23, hm⟩ := bd_some hm
      refine rd_cons ?_
      refine rd_call ?_
      refine rd_cons ?_
      refine rd_v rfl ?_
      refine rd_nil ?_
      refine ⟨F14, _, _, t22, rfl, S20.sub, w21.arg, e23, fun v27 F24 H25 c26 w29 f28 => ?_⟩
      have S30 := S20.call1 c26 w21
      have f18 := (qL qS).mono c26.le f18
      have w31 := w21.back w29
      refine rd_nil ?_
      refine rd_lK rfl ?_
      refine alLr (K := K) (B := (fc qS (fc (qL qS) (f1 (qL qS))))) (a := (("|" : Str), t12.1, t22.1)) S30 ⟨_, _, rfl, rfl, _, _, rfl, f18, _, rfl, f28⟩ (fun v32 F33 H34 c35 f36 => ?_)
      have S37 := S30.call0 c35
      have w31 := w31.call0 c35
      cases hm
      exact hQ _ _ _ S37 w31 f36
    · skip
      refine rd_next ?_
      refine rd_seq ?_
      refine rd_ifS ?_
      refine rd_test ?_
      refine rd_op ?_
      refine rd_v rfl ?_
      refine rd_c ?_
      refine rd_I0 ?_
      refine rd_b ?_
      refine if_b hm (fun b38 hm => ?_) (fun b38 hm => ?_)
      · skip
        obtain ⟨t39, e40, hm⟩ := bd_some hm
        refine rd_ret ?_
        refine rd_lst ?_
        refine rd_cons ?_
        refine rd_c ?_
        refine rd_cons ?_
        refine rd_lst ?_
        refine rd_cons ?_
        refine rd_call ?_
        refine rd_cons ?_
        refine rd_v rfl ?_
        refine rd_nil ?_
        refine ⟨F3, _, _, t39, rfl, S9.sub, w10.arg, e40, fun v44 F41 H42 c43 w46 f45 => ?_⟩
        have S47 := S9.call1 c43 w10
        have w48 := w10.back w46
        cases (show v44 = (V.str (t39.1)) from f45)
        refine rd_cons ?_
        refine rd_c ?_
        refine rd_nil ?_
        refine rd_lK rfl ?_
        refine alL (K := K) (A := qS) (xs := [t39.1, ("<any>" : Str)]) S47 (.cons rfl (.cons rfl .nil)) (fun v49 F50 H51 c52 f53 => ?_)
        have S54 := S47.call0 c52
        have w48 := w48.call0 c52
        obtain ⟨t55, e56, hm⟩ := bd_some hm
        refine rd_cons ?_
        refine rd_lst ?_
        refine rd_cons ?_
        refine rd_c ?_
        refine rd_cons ?_
        refine rd_call ?_
        refine rd_cons ?_
        refine rd_v rfl ?_
        refine rd_nil ?_
        refine ⟨F50, _, _, t55, rfl, S54.sub, w48.arg, e56, fun v60 F57 H58 c59 w62 f61 => ?_⟩
        have S63 := S54.call1 c59 w48
        have f53 := (qL qS).mono c59.le f53
        have w64 := w48.back w62
        cases (show v60 = (V.str (t55.1)) from f61)
        refine rd_nil ?_
        refine rd_lK rfl ?_
        refine alL (K := K) (A := qS) (xs := [("<any>" : Str), t55.1]) S63 (.cons rfl (.cons rfl .nil)) (fun v65 F66 H67 c68 f69 => ?_)
        have S70 := S63.call0 c68
        have f53 := (qL qS).mono c68.le f53
        have w64 := w64.call0 c68
        refine rd_nil ?_
        refine rd_lK rfl ?_
        refine alLr (K := K) (B := (fc qS (fc (qL qS) (f1 (qL qS))))) (a := (("&" : Str), [t39.1, ("<any>" : Str)], [("<any>" : Str), t55.1])) S70 ⟨_, _, rfl, rfl, _, _, rfl, f53, _, rfl, f69⟩ (fun v71 F72 H73 c74 f75 => ?_)
        have S76 := S70.call0 c74
        have w64 := w64.call0 c74
        cases hm
        exact hQ _ _ _ S76 w64 f75
      · skip
        refine rd_next ?_
        refine rd_seq ?_
        refine rd_ifS ?_
        refine rd_test ?_
        refine rd_op ?_
        refine rd_v rfl ?_
        refine rd_c ?_
        refine rd_I0 ?_
        refine rd_b ?_
        refine if_b hm (fun b77 hm => ?_) (fun b77 hm => ?_)
        · skip
          obtain ⟨t78, e79, hm⟩ := bd_some hm
          refine rd_ret ?_
          refine rd_lst ?_
          refine rd_cons ?_
          refine rd_c ?_
          refine rd_cons ?_
          refine rd_call ?_
          refine rd_cons ?_
          refine rd_v rfl ?_
          refine rd_nil ?_
          refine ⟨F3, _, _, t78, rfl, S9.sub, w10.arg, e79, fun v83 F80 H81 c82 w85 f84 => ?_⟩
          have S86 := S9.call1 c82 w10
          have w87 := w10.back w85
          refine rd_cons ?_
          refine rd_lst ?_
          refine rd_cons ?_
          refine rd_c ?_
          refine rd_nil ?_
          refine rd_lK rfl ?_
          refine alL (K := K) (A := qS) (xs := [("<any>" : Str)]) S86 (.cons rfl .nil) (fun v88 F89 H90 c91 f92 => ?_)
          have S93 := S86.call0 c91
          have f84 := (qL qS).mono c91.le f84
          have w87 := w87.call0 c91
          refine rd_nil ?_
          refine rd_lK rfl ?_
          refine alLr (K := K) (B := (fc qS (fc (qL qS) (f1 (qL qS))))) (a := (("&" : Str), t78.1, [("<any>" : Str)])) S93 ⟨_, _, rfl, rfl, _, _, rfl, f84, _, rfl, f92⟩ (fun v94 F95 H96 c97 f98 => ?_)
          have S99 := S93.call0 c97
          have w87 := w87.call0 c97
          cases hm
          exact hQ _ _ _ S99 w87 f98
        · skip
          obtain ⟨t100, e101, hm⟩ := bd_some hm
          refine rd_next ?_
          refine rd_ret ?_
          refine rd_lst ?_
          refine rd_cons ?_
          refine rd_c ?_
          refine rd_cons ?_
          refine rd_call ?_
          refine rd_cons ?_
          refine rd_v rfl ?_
          refine rd_nil ?_
          refine ⟨F3, _, _, t100, rfl, S9.sub, w10.arg, e101, fun v105 F102 H103 c104 w107 f106 => ?_⟩
          have S108 := S9.call1 c104 w10
          have w109 := w10.back w107
          refine rd_cons ?_
          refine rd_lst ?_
          refine rd_nil ?_
          refine rd_lK rfl ?_
          refine alL (K := K) (A := qS) (xs := ([] : List Str)) S108 .nil (fun v110 F111 H112 c113 f114 => ?_)
          have S115 := S108.call0 c113
          have f106 := (qL qS).mono c113.le f106
          have w109 := w109.call0 c113
          refine rd_nil ?_
          refine rd_lK rfl ?_
          refine alLr (K := K) (B := (fc qS (fc (qL qS) (f1 (qL qS))))) (a := (("=" : Str), t100.1, ([] : List Str))) S115 ⟨_, _, rfl, rfl, _, _, rfl, f106, _, rfl, f114⟩ (fun v116 F117 H118 c119 f120 => ?_)
          have S121 := S115.call0 c119
          have w109 := w109.call0 c119
          cases hm
          exact hQ _ _ _ S121 w109 f120
def sp_law_rule (K : PySem.W.Frag) : Sp := fun vs H Q _ => ∃ (F : Hp) (p__law_pool_here : Addr) (a__law_pool_here : Int × Int) (r : (((List (Str × (List Str) × (List Str))) × (List (Str × (List Str) × (List Str))) × (Option Int) × Bool × (Option Int) × Bool) × (Int × Int))), vs = [.ref p__law_pool_here] ∧ Same F H ∧ Ow (fun a => a = p__law_pool_here) H F H p__law_pool_here (.lst [.int a__law_pool_here.1, .int a__law_pool_here.2]) ∧ m_law_rule a__law_pool_here = some r ∧ ∀ (p : Addr) (u0 : V) (u1 : V) (u2 : V) (u3 : V) (u4 : V) (u5 : V) (F' H' : Hp), H p = none → Sx (fun a => a = p__law_pool_here) F H F' H' → Ow (fun a => a = p__law_pool_here) H F' H' p__law_pool_here (.lst [.int r.2.1, .int r.2.2]) → Ow (fun a => a = p) H F' H' p (.lst [u0, u1, u2, u3, u4, u5]) → (qL (qLr (fc qS (fc (qL qS) (f1 (qL qS)))))).r K F' u0 r.1.1 → (qL (qLr (fc qS (fc (qL qS) (f1 (qL qS)))))).r K F' u1 r.1.2.1 → (qO qI).r K F' u2 r.1.2.2.1 → qB.r K F' u3 r.1.2.2.2.1 → (qO qI).r K F' u4 r.1.2.2.2.2.1 → qB.r K F' u5 r.1.2.2.2.2.2 → Q (.ref p) H'
theorem sc_law_rule : FnScope ["_law_pool_here", "_law_begins", "_law_ends_here", "_law_cap", "_law_limit", "_law_k"] ["_law_pool_here"] (defScope s_law_rule) := ⟨rfl, rfl, rfl, by decide +kernel, rfl, by decide +kernel, by decide +kernel⟩
theorem bn_law_rule (T : Tx K mg) : Binds K (fdOf K ("_law_rule", none)) ["_law_pool_here"] [] := FunD.bindsN T.F_law_rule fun _ _ _ _ _ _ us hl => match us, hl with | [_], _ => rfl
theorem ok_law_rule (T : Tx K mg) : FnOk P w K mg base CX0 5 (He.ga K "_law_rule") (fdOf K ("_law_rule", none)) ["_law_pool_here"] (sp_law_rule K) := by
  refine FunD.ok T.F_law_rule sc_law_rule (fun vs H0 Q E h => ?_) (fun cdv A outer s H0 vs Q E hr h => ?_)
  · obtain ⟨_, _, _, _, rfl, _⟩ := h
    rfl
  · obtain ⟨F0, p__law_pool_here, a__law_pool_here, r, rfl, hE, w__law_pool_here, hm, hQ⟩ := h
    refine ⟨_, PSs.nox ((pss_cons (ps_setLc (i := 1) (own := [("_law_k", 5)]) (tt := tYes) rfl sc_law_rule.nd rfl rfl (sw_true rfl rfl rfl (by decide +kernel)) (pi_range1 (by rfl) T.n_range (pa_cons (pe_call (ok_law_take T) (hr.mono (by decide)) (by rfl) T.g_law_take T.F_law_take.kp (bn_law_take T) .nil pass0 (pa_cons (pv 0) (pa_cons pe_int pa_nil))) pa_nil)) (blkOk_by (N := ["_law_pool_here", "_law_begins", "_law_ends_here", "_law_cap", "_law_limit", "_law_k"]) (sc := defScope s_law_rule) (by decide +kernel)) (fun _ _ _ _ _ => pg_name (i := 5) sc_law_rule.nd rfl (Or.inl rfl)) (fun _ _ _ _ _ => pts_nil) (fun _ _ _ _ _ => (pe_call (ok_law_tree T) (hr.mono (by decide)) (by rfl) T.g_law_tree T.F_law_tree.kp (bn_law_tree T) .nil pass0 (pa_cons (pv 0) pa_nil)))) (pss_cons (ps_setLc (i := 2) (own := [("_law_k", 5)]) (tt := tYes) rfl sc_law_rule.nd rfl rfl (sw_true rfl rfl rfl (by decide +kernel)) (pi_range1 (by rfl) T.n_range (pa_cons (pe_call (ok_law_take T) (hr.mono (by decide)) (by rfl) T.g_law_take T.F_law_take.kp (bn_law_take T) .nil pass0 (pa_cons (pv 0) (pa_cons pe_int pa_nil))) pa_nil)) (blkOk_by (N := ["_law_pool_here", "_law_begins", "_law_ends_here", "_law_cap", "_law_limit", "_law_k"]) (sc := defScope s_law_rule) (by decide +kernel)) (fun _ _ _ _ _ => pg_name (i := 5) sc_law_rule.nd rfl (Or.inl rfl)) (fun _ _ _ _ _ => pts_nil) (fun _ _ _ _ _ => (pe_call (ok_law_tree T) (hr.mono (by decide)) (by rfl) T.g_law_tree T.F_law_tree.kp (bn_law_tree T) .nil pass0 (pa_cons (pv 0) pa_nil)))) (pss_cons (ps_set (i := 3) sc_law_rule.nd rfl (by first | exact Or.inl rfl | exact Or.inr rfl) (pe_ix (r := rIxL K) ix_list (pe_lst (pa_cons pe_non (pa_cons (pe_op op_add pe_int (pe_call (ok_law_take T) (hr.mono (by decide)) (by rfl) T.g_law_take T.F_law_take.kp (bn_law_take T) .nil pass0 (pa_cons (pv 0) (pa_cons pe_int pa_nil)))) (pa_cons (pe_op op_add pe_int (pe_call (ok_law_take T) (hr.mono (by decide)) (by rfl) T.g_law_take T.F_law_take.kp (bn_law_take T) .nil pass0 (pa_cons (pv 0) (pa_cons pe_int pa_nil)))) pa_nil)))) (pe_call (ok_law_take T) (hr.mono (by decide)) (by rfl) T.g_law_take T.F_law_take.kp (bn_law_take T) .nil pass0 (pa_cons (pv 0) (pa_cons pe_int pa_nil))) (fun _ _ => rfl))) (pss_cons (ps_set (i := 4) sc_law_rule.nd rfl (by first | exact Or.inl rfl | exact Or.inr rfl) (pe_ix (r := rIxL K) ix_list (pe_lst (pa_cons pe_non (pa_cons (pe_call (ok_law_take T) (hr.mono (by decide)) (by rfl) T.g_law_take T.F_law_take.kp (bn_law_take T) .nil pass0 (pa_cons (pv 0) (pa_cons pe_int pa_nil))) (pa_cons (pe_call (ok_law_take T) (hr.mono (by decide)) (by rfl) T.g_law_take T.F_law_take.kp (bn_law_take T) .nil pass0 (pa_cons (pv 0) (pa_cons pe_int pa_nil))) pa_nil)))) (pe_call (ok_law_take T) (hr.mono (by decide)) (by rfl) T.g_law_take T.F_law_take.kp (bn_law_take T) .nil pass0 (pa_cons (pv 0) (pa_cons pe_int pa_nil))) (fun _ _ => rfl))) (pss_one (ps_ret (pe_lst (pa_cons (pv 1) (pa_cons (pv 2) (pa_cons (pv 3) (pa_cons (pe_cmpR op_gt (pe_call (ok_law_take T) (hr.mono (by decide)) (by rfl) T.g_law_take T.F_law_take.kp (bn_law_take T) .nil pass0 (pa_cons (pv 0) (pa_cons pe_int pa_nil))) pe_int (nomark _)) (pa_cons (pv 4) (pa_cons (pe_cmpR op_eqI (pe_call (ok_law_take T) (hr.mono (by decide)) (by rfl) T.g_law_take T.F_law_take.kp (bn_law_take T) .nil pass0 (pa_cons (pv 0) (pa_cons pe_int pa_nil))) pe_int (nomark _)) pa_nil)))))))))))))), ?_⟩
    have S : Sx (fun a => a = p__law_pool_here) F0 H0 F0 H0 := Sx.refl hE (live1 w__law_pool_here)
    unfold m_law_rule at hm
    obtain ⟨t1, e2, hm⟩ := bd_some hm
    refine rd_seq ?_
    refine rd_asg ?_
    refine rd_lc ?_
    refine rd_iR1 ?_
    refine rd_cons ?_
    refine rd_call ?_
    refine rd_cons ?_
    refine rd_v rfl ?_
    refine rd_cons ?_
    refine rd_c ?_
    refine rd_nil ?_
    refine ⟨F0, _, _, _, t1, rfl, S.sub, w__law_pool_here.arg, e2, fun v6 F3 H4 c5 w8 f7 => ?_⟩
    have S9 := S.call1 c5 w__law_pool_here
    have w10 := w__law_pool_here.back w8
    cases (show v6 = (V.int (t1.1)) from f7)
    obtain ⟨g11, hm⟩ := gd_some hm
    refine rd_nil ?_
    refine rd_r1 g11 ?_
    obtain ⟨g12, hm⟩ := gd_some hm
    obtain ⟨t13, e14, hm⟩ := bd_some hm
    refine rd_comp (B := (qLr (fc qS (fc (qL qS) (f1 (qL qS)))))) feedsRg (typedR (K := K) (F := F3)) e14 g12 (Pc := (fun a => a = p__law_pool_here)) (fun a z => by rw [z, w10.at_]; exact (fun h => nomatch h)) S9.sub (fun (s15 : (Int × Int)) F H => Ow (fun a => a = p__law_pool_here) H4 F H p__law_pool_here (.lst [V.int s15.1, V.int s15.2])) ?_ ?_ ?_ ?_ ?_ ?_
    · intro _ _ _ _ _; trivial
    · exact ⟨w10.fr, w10.at_, .inr rfl⟩
    · intro s F H q o w _ hq; exact w.temp hq
    · intro s F H q u o w h0 hq; exact w.putO (ne_of_none w10.at_ h0)
    · skip
      intro x17 v18 s19 o20 F21 H22 d23 acc24 f25 S26 w27 w28 n29 hm30 E31 N32 hN33 hE34
      have S35 : Sx (fun a => a = p__law_pool_here) _ _ _ _ := Sx.refl S26.sub (fun a z => by rw [z, w27.at_]; exact (fun h => nomatch h))
      have w36 : Ow (fun a => a = p__law_pool_here) H22 _ _ _ _ := ⟨w27.fr, w27.at_, .inr (rfl)⟩
      unfold m_law_rule_b1 at hm30
      cases (show v18 = (V.int (x17)) from f25)
      obtain ⟨t37, e38, hm30⟩ := bd_some hm30
      refine rd_gn ?_
      refine rd_wp rfl ?_
      refine rd_yes ?_
      refine if_tt ?_
      refine rd_call ?_
      refine rd_cons ?_
      refine rd_v rfl ?_
      refine rd_nil ?_
      refine ⟨F21, _, _, t37, rfl, S35.sub, w36.arg, e38, fun v42 F39 H40 c41 w44 f43 => ?_⟩
      have S45 := S35.call1 c41 w36
      have w46 := w36.back w44
      cases hm30
      exact hN33 _ _ _ _ rfl S45 f43 ⟨w46.fr, w46.at_, .inr rfl⟩
    intro p47 us48 F49 H50 n51 c52 w53 w54 r55
    have z56 := S9.free0 n51
    have ne57 : p__law_pool_here ≠ p47 := w10.ne n51
    have S58 := S9.call1 c52 w10
    have w59 : Ow (fun a => a = p__law_pool_here) H0 _ _ _ _ := ⟨w53.fr, w53.at_, w10.mine⟩
    have w60 : Ow (fun a => a = p__law_pool_here) H0 _ _ _ _ := ⟨w54.fr, w54.at_, .inl z56⟩
    obtain ⟨F61, S62, le63, f64, _, eq65⟩ := fz S58 w60 z56 r55
    have w59 := w59.fzO ne57 eq65
    obtain ⟨t66, e67, hm⟩ := bd_some hm
    refine rd_gn ?_
    refine rd_seq ?_
    refine rd_asg ?_
    refine rd_lc ?_
    refine rd_iR1 ?_
    refine rd_cons ?_
    refine rd_call ?_
    refine rd_cons ?_
    refine rd_v rfl ?_
    refine rd_cons ?_
    refine rd_c ?_
    refine rd_nil ?_
    refine ⟨F61, _, _, _, t66, rfl, S62.sub, w59.arg, e67, fun v71 F68 H69 c70 w73 f72 => ?_⟩
    have S74 := S62.call1 c70 w59
    have f64 := (qL (qLr (fc qS (fc (qL qS) (f1 (qL qS)))))).mono c70.le f64
    have w75 := w59.back w73
    cases (show v71 = (V.int (t66.1)) from f72)
    obtain ⟨g76, hm⟩ := gd_some hm
    refine rd_nil ?_
    refine rd_r1 g76 ?_
    obtain ⟨g77, hm⟩ := gd_some hm
    obtain ⟨t78, e79, hm⟩ := bd_some hm
    refine rd_comp (B := (qLr (fc qS (fc (qL qS) (f1 (qL qS)))))) feedsRg (typedR (K := K) (F := F68)) e79 g77 (Pc := (fun a => a = p__law_pool_here)) (fun a z => by rw [z, w75.at_]; exact (fun h => nomatch h)) S74.sub (fun (s80 : (Int × Int)) F H => Ow (fun a => a = p__law_pool_here) H69 F H p__law_pool_here (.lst [V.int s80.1, V.int s80.2])) ?_ ?_ ?_ ?_ ?_ ?_
    · intro _ _ _ _ _; trivial
    · exact ⟨w75.fr, w75.at_, .inr rfl⟩
    · intro s F H q o w _ hq; exact w.temp hq
    · intro s F H q u o w h0 hq; exact w.putO (ne_of_none w75.at_ h0)
    · skip
      intro x82 v83 s84 o85 F86 H87 d88 acc89 f90 S91 w92 w93 n94 hm95 E96 N97 hN98 hE99
      have f64 := (qL (qLr (fc qS (fc (qL qS) (f1 (qL qS)))))).mono S91.le f64
      have S100 : Sx (fun a => a = p__law_pool_here) _ _ _ _ := Sx.refl S91.sub (fun a z => by rw [z, w92.at_]; exact (fun h => nomatch h))
      have w101 : Ow (fun a => a = p__law_pool_here) H87 _ _ _ _ := ⟨w92.fr, w92.at_, .inr (rfl)⟩
      unfold m_law_rule_b2 at hm95
      cases (show v83 = (V.int (x82)) from f90)
      obtain ⟨t102, e103, hm95⟩ := bd_some hm95
      refine rd_gn ?_
      refine rd_wp rfl ?_
      refine rd_yes ?_
      refine if_tt ?_
      refine rd_call ?_
      refine rd_cons ?_
      refine rd_v rfl ?_
      refine rd_nil ?_
      refine ⟨F86, _, _, t102, rfl, S100.sub, w101.arg, e103, fun v107 F104 H105 c106 w109 f108 => ?_⟩
      have S110 := S100.call1 c106 w101
      have f64 := (qL (qLr (fc qS (fc (qL qS) (f1 (qL qS)))))).mono c106.le f64
      have w111 := w101.back w109
      cases hm95
      exact hN98 _ _ _ _ rfl S110 f108 ⟨w111.fr, w111.at_, .inr rfl⟩
    intro p112 us113 F114 H115 n116 c117 w118 w119 r120
    have z121 := S74.free0 n116
    have ne122 : p__law_pool_here ≠ p112 := w75.ne n116
    have S123 := S74.call1 c117 w75
    have f64 := (qL (qLr (fc qS (fc (qL qS) (f1 (qL qS)))))).mono c117.le f64
    have w124 : Ow (fun a => a = p__law_pool_here) H0 _ _ _ _ := ⟨w118.fr, w118.at_, w75.mine⟩
    have w125 : Ow (fun a => a = p__law_pool_here) H0 _ _ _ _ := ⟨w119.fr, w119.at_, .inl z121⟩
    obtain ⟨F126, S127, le128, f129, _, eq130⟩ := fz S123 w125 z121 r120
    have f64 := (qL (qLr (fc qS (fc (qL qS) (f1 (qL qS)))))).mono le128 f64
    have w124 := w124.fzO ne122 eq130
    obtain ⟨t131, e132, hm⟩ := bd_some hm
    refine rd_gn ?_
    refine rd_seq ?_
    refine rd_asg ?_
    refine rd_op ?_
    refine rd_lst ?_
    refine rd_cons ?_
    refine rd_c ?_
    refine rd_cons ?_
    refine rd_op ?_
    refine rd_c ?_
    refine rd_call ?_
    refine rd_cons ?_
    refine rd_v rfl ?_
    refine rd_cons ?_
    refine rd_c ?_
    refine rd_nil ?_
    refine ⟨F126, _, _, _, t131, rfl, S127.sub, w124.arg, e132, fun v136 F133 H134 c135 w138 f137 => ?_⟩
    have S139 := S127.call1 c135 w124
    have f64 := (qL (qLr (fc qS (fc (qL qS) (f1 (qL qS)))))).mono c135.le f64
    have f129 := (qL (qLr (fc qS (fc (qL qS) (f1 (qL qS)))))).mono c135.le f129
    have w140 := w124.back w138
    cases (show v136 = (V.int (t131.1)) from f137)
    obtain ⟨t141, e142, hm⟩ := bd_some hm
    refine rd_I0 ?_
    refine rd_cons ?_
    refine rd_op ?_
    refine rd_c ?_
    refine rd_call ?_
    refine rd_cons ?_
    refine rd_v rfl ?_
    refine rd_cons ?_
    refine rd_c ?_
    refine rd_nil ?_
    refine ⟨F133, _, _, _, t141, rfl, S139.sub, w140.arg, e142, fun v146 F143 H144 c145 w148 f147 => ?_⟩
    have S149 := S139.call1 c145 w140
    have f64 := (qL (qLr (fc qS (fc (qL qS) (f1 (qL qS)))))).mono c145.le f64
    have f129 := (qL (qLr (fc qS (fc (qL qS) (f1 (qL qS)))))).mono c145.le f129
    have w150 := w140.back w148
    cases (show v146 = (V.int (t141.1)) from f147)
    have f151 : (qO qI).r K F143 V.non none := (show (qO qI).r K F143 V.non none from rfl)
    have f152 : (qO qI).r K F143 (V.int ((1 + t131.1))) (some (1 + t131.1)) := (show (qO qI).r K F143 (V.int ((1 + t131.1))) (some (1 + t131.1)) from rfl)
    have f153 : (qO qI).r K F143 (V.int ((1 + t141.1))) (some (1 + t141.1)) := (show (qO qI).r K F143 (V.int ((1 + t141.1))) (some (1 + t141.1)) from rfl)
    refine rd_I0 ?_
    refine rd_nil ?_
    refine rd_lK rfl ?_
    refine alL (K := K) (A := (qO qI)) (xs := [none, (some (1 + t131.1)), (some (1 + t141.1))]) S149 (.cons f151 (.cons f152 (.cons f153 .nil))) (fun v154 F155 H156 c157 f158 => ?_)
    have S159 := S149.call0 c157
    have f64 := (qL (qLr (fc qS (fc (qL qS) (f1 (qL qS)))))).mono c157.le f64
    have f129 := (qL (qLr (fc qS (fc (qL qS) (f1 (qL qS)))))).mono c157.le f129
    have w150 := w150.call0 c157
    obtain ⟨t160, e161, hm⟩ := bd_some hm
    refine rd_call ?_
    refine rd_cons ?_
    refine rd_v rfl ?_
    refine rd_cons ?_
    refine rd_c ?_
    refine rd_nil ?_
    refine ⟨F155, _, _, _, t160, rfl, S159.sub, w150.arg, e161, fun v165 F162 H163 c164 w167 f166 => ?_⟩
    have S168 := S159.call1 c164 w150
    have f64 := (qL (qLr (fc qS (fc (qL qS) (f1 (qL qS)))))).mono c164.le f64
    have f129 := (qL (qLr (fc qS (fc (qL qS) (f1 (qL qS)))))).mono c164.le f129
    have f158 := (qL (qO qI)).mono c164.le f158
    have w169 := w150.back w167
    cases (show v165 = (V.int (t160.1)) from f166)
    obtain ⟨t170, e171, hm⟩ := bd_some hm
    refine rd_ixL (S168.l f158).r e171 (fun u172 f173 => ?_)
    obtain ⟨t174, e175, hm⟩ := bd_some hm
    refine rd_gn ?_
    refine rd_seq ?_
    refine rd_asg ?_
    refine rd_op ?_
    refine rd_lst ?_
    refine rd_cons ?_
    refine rd_c ?_
    refine rd_cons ?_
    refine rd_call ?_
    refine rd_cons ?_
    refine rd_v rfl ?_
    refine rd_cons ?_
    refine rd_c ?_
    refine rd_nil ?_
    refine ⟨F162, _, _, _, t174, rfl, S168.sub, w169.arg, e175, fun v179 F176 H177 c178 w181 f180 => ?_⟩
    have S182 := S168.call1 c178 w169
    have f64 := (qL (qLr (fc qS (fc (qL qS) (f1 (qL qS)))))).mono c178.le f64
    have f129 := (qL (qLr (fc qS (fc (qL qS) (f1 (qL qS)))))).mono c178.le f129
    have f173 := (qO qI).mono c178.le f173
    have w183 := w169.back w181
    cases (show v179 = (V.int (t174.1)) from f180)
    obtain ⟨t184, e185, hm⟩ := bd_some hm
    refine rd_cons ?_
    refine rd_call ?_
    refine rd_cons ?_
    refine rd_v rfl ?_
    refine rd_cons ?_
    refine rd_c ?_
    refine rd_nil ?_
    refine ⟨F176, _, _, _, t184, rfl, S182.sub, w183.arg, e185, fun v189 F186 H187 c188 w191 f190 => ?_⟩
    have S192 := S182.call1 c188 w183
    have f64 := (qL (qLr (fc qS (fc (qL qS) (f1 (qL qS)))))).mono c188.le f64
    have f129 := (qL (qLr (fc qS (fc (qL qS) (f1 (qL qS)))))).mono c188.le f129
    have f173 := (qO qI).mono c188.le f173
    have w193 := w183.back w191
    cases (show v189 = (V.int (t184.1)) from f190)
    have f194 : (qO qI).r K F186 V.non none := (show (qO qI).r K F186 V.non none from rfl)
    have f195 : (qO qI).r K F186 (V.int (t174.1)) (some t174.1) := (show (qO qI).r K F186 (V.int (t174.1)) (some t174.1) from rfl)
    have f196 : (qO qI).r K F186 (V.int (t184.1)) (some t184.1) := (show (qO qI).r K F186 (V.int (t184.1)) (some t184.1) from rfl)
    refine rd_nil ?_
    refine rd_lK rfl ?_
    refine alL (K := K) (A := (qO qI)) (xs := [none, (some t174.1), (some t184.1)]) S192 (.cons f194 (.cons f195 (.cons f196 .nil))) (fun v197 F198 H199 c200 f201 => ?_)
    have S202 := S192.call0 c200
    have f64 := (qL (qLr (fc qS (fc (qL qS) (f1 (qL qS)))))).mono c200.le f64
    have f129 := (qL (qLr (fc qS (fc (qL qS) (f1 (qL qS)))))).mono c200.le f129
    have f173 := (qO qI).mono c200.le f173
    have w193 := w193.call0 c200
    obtain ⟨t203, e204, hm⟩ := bd_some hm
    refine rd_call ?_
    refine rd_cons ?_
    refine rd_v rfl ?_
    refine rd_cons ?_
    refine rd_c ?_
    refine rd_nil ?_
    refine ⟨F198, _, _, _, t203, rfl, S202.sub, w193.arg, e204, fun v208 F205 H206 c207 w210 f209 => ?_⟩
    have S211 := S202.call1 c207 w193
    have f64 := (qL (qLr (fc qS (fc (qL qS) (f1 (qL qS)))))).mono c207.le f64
    have f129 := (qL (qLr (fc qS (fc (qL qS) (f1 (qL qS)))))).mono c207.le f129
    have f173 := (qO qI).mono c207.le f173
    have f201 := (qL (qO qI)).mono c207.le f201
    have w212 := w193.back w210
    cases (show v208 = (V.int (t203.1)) from f209)
    obtain ⟨t213, e214, hm⟩ := bd_some hm
    refine rd_ixL (S211.l f201).r e214 (fun u215 f216 => ?_)
    obtain ⟨t217, e218, hm⟩ := bd_some hm
    refine rd_gn ?_
    refine rd_ret ?_
    refine rd_lst ?_
    refine rd_cons ?_
    refine rd_v rfl ?_
    refine rd_cons ?_
    refine rd_v rfl ?_
    refine rd_cons ?_
    refine rd_v rfl ?_
    refine rd_cons ?_
    refine rd_op ?_
    refine rd_call ?_
    refine rd_cons ?_
    refine rd_v rfl ?_
    refine rd_cons ?_
    refine rd_c ?_
    refine rd_nil ?_
    refine ⟨F205, _, _, _, t217, rfl, S211.sub, w212.arg, e218, fun v222 F219 H220 c221 w224 f223 => ?_⟩
    have S225 := S211.call1 c221 w212
    have f64 := (qL (qLr (fc qS (fc (qL qS) (f1 (qL qS)))))).mono c221.le f64
    have f129 := (qL (qLr (fc qS (fc (qL qS) (f1 (qL qS)))))).mono c221.le f129
    have f173 := (qO qI).mono c221.le f173
    have f216 := (qO qI).mono c221.le f216
    have w226 := w212.back w224
    cases (show v222 = (V.int (t217.1)) from f223)
    obtain ⟨t227, e228, hm⟩ := bd_some hm
    refine rd_c ?_
    refine rd_I0 ?_
    refine rd_cons ?_
    refine rd_v rfl ?_
    refine rd_cons ?_
    refine rd_op ?_
    refine rd_call ?_
    refine rd_cons ?_
    refine rd_v rfl ?_
    refine rd_cons ?_
    refine rd_c ?_
    refine rd_nil ?_
    refine ⟨F219, _, _, _, t227, rfl, S225.sub, w226.arg, e228, fun v232 F229 H230 c231 w234 f233 => ?_⟩
    have S235 := S225.call1 c231 w226
    have f64 := (qL (qLr (fc qS (fc (qL qS) (f1 (qL qS)))))).mono c231.le f64
    have f129 := (qL (qLr (fc qS (fc (qL qS) (f1 (qL qS)))))).mono c231.le f129
    have f173 := (qO qI).mono c231.le f173
    have f216 := (qO qI).mono c231.le f216
    have w236 := w226.back w234
    cases (show v232 = (V.int (t227.1)) from f233)
    refine rd_c ?_
    refine rd_I0 ?_
    refine rd_nil ?_
    refine rd_lK rfl ?_
    refine al S235 (fun p237 H238 np239 c240 w241 => ?_)
    have ne242 : p__law_pool_here ≠ p237 := w236.ne np239
    have z243 := S235.free0 np239
    have S244 := S235.call0 c240
    have f64 := (qL (qLr (fc qS (fc (qL qS) (f1 (qL qS)))))).mono c240.le f64
    have f129 := (qL (qLr (fc qS (fc (qL qS) (f1 (qL qS)))))).mono c240.le f129
    have f173 := (qO qI).mono c240.le f173
    have f216 := (qO qI).mono c240.le f216
    have w236 := w236.call0 c240
    cases hm
    exact hQ _ _ _ _ _ _ _ _ _ z243 S244 w236 ⟨w241.fr, w241.at_, .inr rfl⟩ f64 f129 f173 rfl f216 rfl
def sp_Rule_tags (K : PySem.W.Frag) : Sp := fun vs H Q _ => ∃ (F : Hp) (v_self : V) (a_self : (List Pat × List Pat × List (Str × Th))) (r : (Option Int)), vs = [v_self] ∧ Same F H ∧ qRule.r K F v_self a_self ∧ m_Rule_tags a_self = some r ∧ ∀ v F' H', Sx P0 F H F' H' → (qO qI).r K F' v r → Q v H'
theorem sc_Rule_tags : FnScope ["self"] ["self"] (defScope s_Rule_tags) := ⟨rfl, rfl, rfl, by decide +kernel, rfl, by decide +kernel, by decide +kernel⟩
theorem bn_Rule_tags (T : Tx K mg) : Binds K (fdG K "Rule" "tags") ["self"] [] := FunD.bindsN T.pr_Rule_tags.F fun _ _ _ _ _ _ us hl => match us, hl with | [_], _ => rfl
theorem ok_Rule_tags (T : Tx K mg) : FnOk P w K mg base CX0 1 (geA K "Rule" "tags") (fdG K "Rule" "tags") ["self"] (sp_Rule_tags K) := by
  refine FunD.ok T.pr_Rule_tags.F sc_Rule_tags (fun vs H0 Q E h => ?_) (fun cdv A outer s H0 vs Q E hr h => ?_)
  · obtain ⟨_, _, _, _, rfl, _⟩ := h
    rfl
  · obtain ⟨F0, v_self, a_self, r, rfl, hE, f_self, hm, hQ⟩ := h
    refine ⟨_, PSs.nox ((pss_one (ps_ret (pe_dgetO hr.units (pe_fldK (pv 0) rfl) pe_str (fun _ _ => rfl))))), ?_⟩
    have S : Sx P0 F0 H0 F0 H0 := Sx.refl0 hE
    unfold m_Rule_tags at hm
    refine rd_ret ?_
    refine rd_op ?_
    refine rd_fld ?_
    refine rd_v rfl ?_
    refine fld_Rule_settings T S f_self (fun u1 f2 => ?_)
    obtain ⟨t3, e4, hm⟩ := bd_some hm
    refine rd_c ?_
    refine rd_dgSd S f2 e4 (fun u5 f6 => ?_)
    obtain ⟨t7, e8, hm⟩ := bd_some hm
    have f9 := thOI_fact f6 e8
    cases hm
    exact hQ _ _ _ S f9
def sp_Gluer_taken (K : PySem.W.Frag) : Sp := fun vs H Q _ => ∃ (F : Hp) (p_self : Addr) (dx : Addr) (u_rule : V) (q_opened : Addr) (vs_opened : List V) (a_self : ((List Pat × List Pat × List (Str × Th)) × (List ((Option Int) × (List Str))) × Int)) (v_tag : V) (a_tag : (Option Int)) (r : ((List Str) × ((List ((Option Int) × (List Str))) × Int))), vs = [.ref p_self, v_tag] ∧ Same F H ∧ Ow (fun a => a = p_self ∨ a = q_opened) H F H p_self (.ins (He.ga K "Gluer") dx [("rule", u_rule), ("opened", V.ref q_opened), ("given", (V.int (a_self.2.2)))]) ∧ qRule.r K F u_rule a_self.1 ∧ Ow (fun a => a = p_self ∨ a = q_opened) H F H q_opened (.lst vs_opened) ∧ Row (q2 (qO qI) (qL qS)) K F vs_opened a_self.2.1 ∧ q_opened ≠ p_self ∧ (qO qI).r K F v_tag a_tag ∧ m_Gluer_taken a_self a_tag = some r ∧ ∀ (v : V) (F' H' : Hp) (q'_opened : Addr) (vs'_opened : List V), Sx (fun a => a = p_self ∨ a = q_opened) F H F' H' → Ow (fun a => a = p_self ∨ a = q_opened) H F' H' p_self (.ins (He.ga K "Gluer") dx [("rule", u_rule), ("opened", V.ref q'_opened), ("given", (V.int (r.2.2)))]) → Ow (fun a => a = p_self ∨ a = q_opened) H F' H' q'_opened (.lst vs'_opened) → Row (q2 (qO qI) (qL qS)) K F' vs'_opened r.2.1 → q'_opened ≠ p_self → (qL qS).r K F' v r.1 → Q v H'
theorem sc_Gluer_taken : FnScope ["self", "tag", "at"] ["self", "tag"] (defScope s_Gluer_taken) := ⟨rfl, rfl, rfl, by decide +kernel, rfl, by decide +kernel, by decide +kernel⟩
theorem bn_Gluer_taken (T : Tx K mg) : Binds K (fdOf K ("Gluer", some "taken")) ["self", "tag"] [] := FunD.bindsN T.F_Gluer_taken fun _ _ _ _ _ _ us hl => match us, hl with | [_, _], _ => rfl
theorem ok_Gluer_taken (T : Tx K mg) : FnOk P w K mg base CX0 1 (He.fAd K ("Gluer", some "taken")) (fdOf K ("Gluer", some "taken")) ["self", "tag"] (sp_Gluer_taken K) := by
  refine FunD.ok T.F_Gluer_taken sc_Gluer_taken (fun vs H0 Q E h => ?_) (fun cdv A outer s H0 vs Q E hr h => ?_)
  · obtain ⟨_, _, _, _, _, _, _, _, _, _, rfl, _⟩ := h
    rfl
  · obtain ⟨F0, p_self, dx, u_rule, q_opened, vs_opened, a_self, v_tag, a_tag, r, rfl, hE, w_self, f_rule, w_opened, r_opened, n_opened, f_tag, hm, hQ⟩ := h
    refine ⟨_, PSs.nox ((pss_cons (ps_for PassesOwn.never rfl (pi_range1 (by rfl) T.n_range (pa_cons (pe_callB (r := rLenQ K) cr_lenQ (by rfl) T.n_len (by decide +kernel) (pa_cons (pe_fldK (pv 0) rfl) pa_nil)) pa_nil)) (pg_name (i := 2) sc_Gluer_taken.nd rfl (by first | exact Or.inl rfl | exact Or.inr rfl)) (pss_one (ps_if (pt_cmpR (r := rEqD K) (op_eqD hr.units) (pe_ix (r := rIxT K) ix_tup (pe_ix (r := rIxL K) ix_list (pe_fldK (pv 0) rfl) (pv 2) (fun _ _ => rfl)) pe_int (fun _ _ => rfl)) (pv 1) (nomark _)) (pss_one (ps_ret (pe_ix (r := rIxT K) ix_tup (pe_bmK (K := K) PySem.F.plainAttrs_list PySem.F.slot_list_pop PySem.F.type_list_pop mt_popAt (pe_fldK (pv 0) rfl) (pa_cons (pv 2) pa_nil)) pe_int (fun _ _ => rfl)))) pss_nil))) (pss_one (ps_ret (pe_lst pa_nil))))), ?_⟩
    have S : Sx (fun a => a = p_self ∨ a = q_opened) F0 H0 F0 H0 := Sx.refl hE (by
        rintro a (rfl | rfl)
        · rw [w_self.at_]; exact (fun h => nomatch h)
        · rw [w_opened.at_]; exact (fun h => nomatch h))
    unfold m_Gluer_taken at hm
    obtain ⟨g1, hm⟩ := gd_some hm
    refine rd_seq ?_
    refine rd_for ?_
    refine rd_iR1 ?_
    refine rd_cons ?_
    refine rd_cb ?_
    refine rd_cons ?_
    refine rd_fld ?_
    refine rd_v rfl ?_
    refine fd_at w_self.at_ T.c_Gluer T.na_Gluer_opened (by rfl) ?_
    refine rd_nil ?_
    refine rd_lenQ (w_opened.l r_opened).r.q ?_
    refine rd_nil ?_
    refine rd_r1 g1 ?_
    obtain ⟨t2, e3, hm⟩ := bd_some hm
    refine rd_forC feedsRg (typedR (K := K) (F := F0)) e3 (fun (s4 : ((List ((Option Int) × (List Str))) × Int)) σ H => ∃ (F : Hp) (o2 : Option V) (q0_1 : Addr) (vs0_1 : List V), σ = [some (V.ref p_self), some v_tag, o2] ∧ Sx (fun a => a = p_self ∨ a = q_opened) F0 H0 F H ∧ Ow (fun a => a = p_self ∨ a = q_opened) H0 F H p_self (.ins (He.ga K "Gluer") dx [("rule", u_rule), ("opened", V.ref q0_1), ("given", (V.int (s4.2)))]) ∧ Ow (fun a => a = p_self ∨ a = q_opened) H0 F H q0_1 (.lst vs0_1) ∧ Row (q2 (qO qI) (qL qS)) K F vs0_1 s4.1 ∧ q0_1 ≠ p_self) ?_ ?_ ?_ ?_
    · intro _ _ _ _; trivial
    · skip
      have S6 : Sx (fun a => a = p_self ∨ a = q_opened) _ _ _ _ := Sx.refl S.sub (by
          rintro a (rfl | rfl)
          · rw [w_self.at_]; exact (fun h => nomatch h)
          · rw [w_opened.at_]; exact (fun h => nomatch h))
      have w7 : Ow (fun a => a = p_self ∨ a = q_opened) H0 _ _ _ _ := ⟨w_self.fr, w_self.at_, .inr (Or.inl rfl)⟩
      have w8 : Ow (fun a => a = p_self ∨ a = q_opened) H0 _ _ _ _ := ⟨w_opened.fr, w_opened.at_, .inr (Or.inr (rfl))⟩
      exact ⟨F0, _, _, _, rfl, S6, w7, w8, r_opened, n_opened⟩
    · skip
      rintro x9 v10 s11 c15 σ12 H13 f14 ⟨F16, o18, q19, v20, rfl, S17, r21, r22, r23, r24⟩ hm27 hbk25 hrt26
      have f_tag := (qO qI).mono S17.le f_tag
      have f_rule := qRule.mono S17.le f_rule
      unfold m_Gluer_taken_b1 at hm27
      cases (show v10 = (V.int (x9)) from f14)
      obtain ⟨t28, e29, hm27⟩ := bd_some hm27
      refine rd_gn ?_
      refine rd_ifS ?_
      refine rd_test ?_
      refine rd_op ?_
      refine rd_op ?_
      refine rd_op ?_
      refine rd_fld ?_
      refine rd_v rfl ?_
      refine fd_at r21.at_ T.c_Gluer T.na_Gluer_opened (by rfl) ?_
      refine rd_v rfl ?_
      refine rd_ixL (r22.l r23).r e29 (fun u30 f31 => ?_)
      refine rd_c ?_
      refine rd_x2 S17 f31 (fun u32 f33 => ?_)
      have f33 : (qO qI).r K F16 u32 (t28).1 := f33
      obtain ⟨g34, hm27⟩ := gd_some hm27
      obtain ⟨g35, hm27⟩ := gd_some hm27
      refine rd_v rfl ?_
      refine rd_eqD (D := (dO dI)) (S17.d (dO dI) f33) (S17.d (dO dI) f_tag) g34 g35 ?_
      refine rd_b ?_
      refine if_b hm27 (fun b36 hm27 => ?_) (fun b36 hm27 => ?_)
      · skip
        obtain ⟨t37, e38, hm27⟩ := bd_some hm27
        refine rd_ret ?_
        refine rd_op ?_
        refine rd_bm ?_
        refine rd_fld ?_
        refine rd_v rfl ?_
        refine fd_at r21.at_ T.c_Gluer T.na_Gluer_opened (by rfl) ?_
        refine rd_ty r22.ty ?_
        refine rd_cons ?_
        refine rd_v rfl ?_
        refine rd_nil ?_
        refine rd_popAt S17 r22 r23 e38 (fun u39 H40 us41 f42 c43 w44 r45 => ?_)
        have S46 := S17.call1 c43 r22
        have f_tag := (qO qI).mono c43.le f_tag
        have f42 := (q2 (qO qI) (qL qS)).mono c43.le f42
        have f_rule := qRule.mono c43.le f_rule
        have r21 := r21.call c43 (by intro z; exact (Ne.symm r24) z)
        have r45 := Row.mono c43.le r45
        refine rd_c ?_
        refine rd_y2 S46 f42 (fun u47 f48 => ?_)
        have f48 : (qL qS).r K F16 u47 (t37.1).2 := f48
        cases hm27
        have e49 := hrt26 _ rfl
        subst e49
        have hm := aft_rt hm
        have S50 := S.call S46 (by
            rintro a (rfl | rfl)
            · exact w_self.mine.symm
            · exact w_opened.mine.symm)
        have w51 : Ow (fun a => a = p_self ∨ a = q_opened) H0 _ _ _ _ := ⟨r21.fr, r21.at_, w_self.mine⟩
        have w52 : Ow (fun a => a = p_self ∨ a = q_opened) H0 _ _ _ _ := ⟨w44.fr, w44.at_, w44.mine.elim (fun z => .inl (S.free0 z)) (by rintro (rfl | rfl) ; exact w_self.mine; exact w_opened.mine)⟩
        cases hm
        exact hQ _ _ _ _ _ S50 w51 w52 r45 r24 f48
      · skip
        cases hm27
        refine rd_next ?_
        exact ⟨_, rfl, ⟨F16, _, _, _, rfl, S17, r21, r22, r23, r24⟩⟩
    · skip
      rintro s55 σ53 H54 e56 ⟨F57, o59, q60, v61, rfl, S58, r62, r63, r64, r65⟩
      subst e56
      have hm := aft_nx hm
      have S66 := S.call S58 (by
          rintro a (rfl | rfl)
          · exact w_self.mine.symm
          · exact w_opened.mine.symm)
      have f_tag := (qO qI).mono S58.le f_tag
      have f_rule := qRule.mono S58.le f_rule
      have w67 : Ow (fun a => a = p_self ∨ a = q_opened) H0 _ _ _ _ := ⟨r62.fr, r62.at_, w_self.mine⟩
      have w68 : Ow (fun a => a = p_self ∨ a = q_opened) H0 _ _ _ _ := ⟨r63.fr, r63.at_, r63.mine.elim (fun z => .inl (S.free0 z)) (by rintro (rfl | rfl) ; exact w_self.mine; exact w_opened.mine)⟩
      refine rd_ret ?_
      refine rd_lst ?_
      refine rd_nil ?_
      refine rd_lK rfl ?_
      refine alL (K := K) (A := qS) (xs := ([] : List Str)) S66 .nil (fun v69 F70 H71 c72 f73 => ?_)
      have S74 := S66.call0 c72
      have f_tag := (qO qI).mono c72.le f_tag
      have f_rule := qRule.mono c72.le f_rule
      have w67 := w67.call0 c72
      have r64 := Row.mono c72.le r64
      have w68 := w68.call0 c72
      cases hm
      exact hQ _ _ _ _ _ S74 w67 w68 r64 r65 f73
def sp_Form_forms (K : PySem.W.Frag) : Sp := fun vs H Q _ => ∃ (F : Hp) (v_self : V) (a_self : (List Str)) (r : (List (List Str))), vs = [v_self] ∧ Same F H ∧ qForm.r K F v_self a_self ∧ m_Form_forms a_self = some r ∧ ∀ v F' H', Sx P0 F H F' H' → (qL qForm).r K F' v r → Q v H'
theorem sc_Form_forms : FnScope ["self"] ["self"] (defScope s_Form_forms) := ⟨rfl, rfl, rfl, by decide +kernel, rfl, by decide +kernel, by decide +kernel⟩
theorem bn_Form_forms (T : Tx K mg) : Binds K (fdOf K ("Form", some "forms")) ["self"] [] := FunD.bindsN T.F_Form_forms fun _ _ _ _ _ _ us hl => match us, hl with | [_], _ => rfl
theorem ok_Form_forms (T : Tx K mg) : FnOk P w K mg base CX0 1 (He.fAd K ("Form", some "forms")) (fdOf K ("Form", some "forms")) ["self"] (sp_Form_forms K) := by
  refine FunD.ok T.F_Form_forms sc_Form_forms (fun vs H0 Q E h => ?_) (fun cdv A outer s H0 vs Q E hr h => ?_)
  · obtain ⟨_, _, _, _, rfl, _⟩ := h
    rfl
  · obtain ⟨F0, v_self, a_self, r, rfl, hE, f_self, hm, hQ⟩ := h
    refine ⟨_, PSs.nox ((pss_one (ps_ret (pe_lst (pa_cons (pv 0) pa_nil))))), ?_⟩
    have S : Sx P0 F0 H0 F0 H0 := Sx.refl0 hE
    unfold m_Form_forms at hm
    refine rd_ret ?_
    refine rd_lst ?_
    refine rd_cons ?_
    refine rd_v rfl ?_
    refine rd_nil ?_
    refine rd_lK rfl ?_
    refine alL (K := K) (A := qForm) (xs := [a_self]) S (.cons f_self .nil) (fun v1 F2 H3 c4 f5 => ?_)
    have S6 := S.call0 c4
    have f_self := qForm.mono c4.le f_self
    cases hm
    exact hQ _ _ _ S6 f5
theorem okv_Form_forms (T : Tx K mg) (n : Nat) : FnOk P w K mg base CX0 (n + 1) (He.fAd K ("Form", some "forms")) (fdOf K ("Form", some "forms")) ["self"] (sp_pat_forms n "Form" K) := by
  refine ((ok_Form_forms T).mono (by omega)).imp fun vs H0 Q E h => ?_
  obtain ⟨F0, v, a, r, rfl, hE, f, hc, hm, hQ⟩ := h
  obtain ⟨h1, h2, h3⟩ := patN_some hm
  cases h3
  cases a with
    | both _ _ => exact absurd (show ("Both" : Str) = "Form" from hc) (by decide)
    | either _ _ => exact absurd (show ("Either" : Str) = "Form" from hc) (by decide)
    | form a =>
    exact ⟨F0, v, a, _, rfl, hE, f, rfl, hQ⟩
theorem sc_Both_forms : FnScope ["self"] ["self"] (defScope s_Both_forms) := ⟨rfl, rfl, rfl, by decide +kernel, rfl, by decide +kernel, by decide +kernel⟩
theorem bn_Both_forms (T : Tx K mg) : Binds K (fdOf K ("Both", some "forms")) ["self"] [] := FunD.bindsN T.F_Both_forms fun _ _ _ _ _ _ us hl => match us, hl with | [_], _ => rfl
theorem okv_Both_forms (T : Tx K mg) {n : Nat} (V : VM P w K mg base (n + 1) "forms" ["self"] (fun x => sp_pat_forms n x K)) : FnOk P w K mg base CX0 (n + 2) (He.fAd K ("Both", some "forms")) (fdOf K ("Both", some "forms")) ["self"] (sp_pat_forms (n + 1) "Both" K) := by
  refine FunD.ok T.F_Both_forms sc_Both_forms (fun vs H0 Q E h => ?_) (fun cdv A outer s H0 vs Q E hr h => ?_)
  · obtain ⟨_, _, _, _, rfl, _⟩ := h
    rfl
  · obtain ⟨F0, v, a, r, rfl, hE, f, hc, hm, hQ⟩ := h
    obtain ⟨h1, h2, h3⟩ := patN_some hm
    cases h3
    cases a with
    | form _ => exact absurd (show ("Form" : Str) = "Both" from hc) (by decide)
    | either _ _ => exact absurd (show ("Either" : Str) = "Both" from hc) (by decide)
    | both l r' =>
    obtain ⟨p, dx, u, w', rfl, e2, rl, rr⟩ := (show qPatR K F0 v (.both l r') from f)
    replace rl : qPat.r K F0 u l := rl
    replace rr : qPat.r K F0 w' r' := rr
    have hl : l.ht ≤ n ∧ r'.ht ≤ n := by
      have h1 : max l.ht r'.ht + 1 ≤ n + 1 := h1
      omega
    have hf : l.forms.length + r'.forms.length ≤ 16 := by
      have h2 : (l.forms ++ r'.forms).length ≤ 16 := h2
      rw [List.length_append] at h2
      exact h2
    refine ⟨_, PSs.nox (pss_one (ps_ret (pe_op op_cat (pe_methV0 (E := E0) (pe_fldK (pv 0) rfl)) (pe_methV0 (E := E0) (pe_fldK (pv 0) rfl))))), ?_⟩
    have S : Sx P0 F0 H0 F0 H0 := Sx.refl0 hE
    refine rd_ret ?_
    refine rd_op ?_
    refine rd_methV ?_
    refine rd_fld ?_
    refine rd_v rfl ?_
    refine fd_at (S.sub _ _ e2) T.c_Both T.na_Both_left (by rfl) ?_
    refine V.call (hr.mono (by omega)) S rl (kt := ?_)
    refine rd_nil ?_
    refine ⟨F0, _, _, _, rfl, S.sub, rl, rfl, patN_of hl.1 (by omega), fun v1 F1 H1 c1 f1 => ?_⟩
    have S1 := S.call0 c1
    have rr := qPat.mono c1.le rr
    refine rd_methV ?_
    refine rd_fld ?_
    refine rd_v rfl ?_
    refine fd_at (S1.sub _ _ (S1.le _ _ e2)) T.c_Both T.na_Both_right (by rfl) ?_
    refine V.call (hr.mono (by omega)) S1 rr (kt := ?_)
    refine rd_nil ?_
    refine ⟨F1, _, _, _, rfl, S1.sub, rr, rfl, patN_of hl.2 (by omega), fun v2 F2 H2 c2 f2 => ?_⟩
    have S2 := S1.call0 c2
    have f1 := (qL qForm).mono c2.le f1
    refine rd_cat (S2.l f1) (S2.l f2) (decide_eq_true (Nat.le_trans hf (by rw [sizeLine_eq]; decide))) ?_
    refine alL' S2 (fun v3 F3 H3 c3 f3 => ?_)
    exact hQ _ _ _ (S2.call0 c3) f3
theorem sc_Either_forms : FnScope ["self"] ["self"] (defScope s_Either_forms) := ⟨rfl, rfl, rfl, by decide +kernel, rfl, by decide +kernel, by decide +kernel⟩
theorem bn_Either_forms (T : Tx K mg) : Binds K (fdOf K ("Either", some "forms")) ["self"] [] := FunD.bindsN T.F_Either_forms fun _ _ _ _ _ _ us hl => match us, hl with | [_], _ => rfl
theorem okv_Either_forms (T : Tx K mg) {n : Nat} (V : VM P w K mg base (n + 1) "forms" ["self"] (fun x => sp_pat_forms n x K)) : FnOk P w K mg base CX0 (n + 2) (He.fAd K ("Either", some "forms")) (fdOf K ("Either", some "forms")) ["self"] (sp_pat_forms (n + 1) "Either" K) := by
  refine FunD.ok T.F_Either_forms sc_Either_forms (fun vs H0 Q E h => ?_) (fun cdv A outer s H0 vs Q E hr h => ?_)
  · obtain ⟨_, _, _, _, rfl, _⟩ := h
    rfl
  · obtain ⟨F0, v, a, r, rfl, hE, f, hc, hm, hQ⟩ := h
    obtain ⟨h1, h2, h3⟩ := patN_some hm
    cases h3
    cases a with
    | form _ => exact absurd (show ("Form" : Str) = "Either" from hc) (by decide)
    | both _ _ => exact absurd (show ("Both" : Str) = "Either" from hc) (by decide)
    | either l r' =>
    obtain ⟨p, dx, u, w', rfl, e2, rl, rr⟩ := (show qPatR K F0 v (.either l r') from f)
    replace rl : qPat.r K F0 u l := rl
    replace rr : qPat.r K F0 w' r' := rr
    have hl : l.ht ≤ n ∧ r'.ht ≤ n := by
      have h1 : max l.ht r'.ht + 1 ≤ n + 1 := h1
      omega
    have hf : l.forms.length + r'.forms.length ≤ 16 := by
      have h2 : (l.forms ++ r'.forms).length ≤ 16 := h2
      rw [List.length_append] at h2
      exact h2
    refine ⟨_, PSs.nox (pss_one (ps_ret (pe_op op_cat (pe_methV0 (E := E0) (pe_fldK (pv 0) rfl)) (pe_methV0 (E := E0) (pe_fldK (pv 0) rfl))))), ?_⟩
    have S : Sx P0 F0 H0 F0 H0 := Sx.refl0 hE
    refine rd_ret ?_
    refine rd_op ?_
    refine rd_methV ?_
    refine rd_fld ?_
    refine rd_v rfl ?_
    refine fd_at (S.sub _ _ e2) T.c_Either T.na_Either_left (by rfl) ?_
    refine V.call (hr.mono (by omega)) S rl (kt := ?_)
    refine rd_nil ?_
    refine ⟨F0, _, _, _, rfl, S.sub, rl, rfl, patN_of hl.1 (by omega), fun v1 F1 H1 c1 f1 => ?_⟩
    have S1 := S.call0 c1
    have rr := qPat.mono c1.le rr
    refine rd_methV ?_
    refine rd_fld ?_
    refine rd_v rfl ?_
    refine fd_at (S1.sub _ _ (S1.le _ _ e2)) T.c_Either T.na_Either_right (by rfl) ?_
    refine V.call (hr.mono (by omega)) S1 rr (kt := ?_)
    refine rd_nil ?_
    refine ⟨F1, _, _, _, rfl, S1.sub, rr, rfl, patN_of hl.2 (by omega), fun v2 F2 H2 c2 f2 => ?_⟩
    have S2 := S1.call0 c2
    have f1 := (qL qForm).mono c2.le f1
    refine rd_cat (S2.l f1) (S2.l f2) (decide_eq_true (Nat.le_trans hf (by rw [sizeLine_eq]; decide))) ?_
    refine alL' S2 (fun v3 F3 H3 c3 f3 => ?_)
    exact hQ _ _ _ (S2.call0 c3) f3
theorem okv_void_forms {C : Str} (hC : C = "Both" ∨ C = "Either") : FnOk P w K mg base CX0 1 (He.fAd K (C, some "forms")) (fdOf K (C, some "forms")) ["self"] (sp_pat_forms 0 C K) := by
  have no : ∀ vs H Q E, ¬ sp_pat_forms 0 C K vs H Q E := by
    intro vs H Q E h
    obtain ⟨_, _, a, _, _, _, _, hc, hm, _⟩ := h
    obtain ⟨h1, _, _⟩ := patN_some hm
    cases a with
    | form _ =>
      subst hc
      rcases hC with h | h
      · exact absurd (show ("Form" : Str) = "Both" from h) (by decide)
      · exact absurd (show ("Form" : Str) = "Either" from h) (by decide)
    | both l r => exact absurd (show max l.ht r.ht + 1 ≤ 0 from h1) (by omega)
    | either l r => exact absurd (show max l.ht r.ht + 1 ≤ 0 from h1) (by omega)
  exact ⟨fun vs H Q E h => absurd h (no vs H Q E), fun A outer s H args us vs Q E hr he hb hv h => absurd h (no vs H Q E)⟩
theorem vm_forms (T : Tx K mg) : ∀ n, VM P w K mg base (n + 1) "forms" ["self"] (fun x => sp_pat_forms n x K)
  | 0 => ⟨fun x hx => by
    rcases hx with rfl | rfl | rfl
    · exact ⟨T.c_Form, T.me_Form_forms, okv_Form_forms T 0, bn_Form_forms T⟩
    · exact ⟨T.c_Both, T.me_Both_forms, okv_void_forms (.inl rfl), bn_Both_forms T⟩
    · exact ⟨T.c_Either, T.me_Either_forms, okv_void_forms (.inr rfl), bn_Either_forms T⟩⟩
  | n + 1 => ⟨fun x hx => by
    have V := vm_forms T n
    rcases hx with rfl | rfl | rfl
    · exact ⟨T.c_Form, T.me_Form_forms, okv_Form_forms T (n + 1), bn_Form_forms T⟩
    · exact ⟨T.c_Both, T.me_Both_forms, okv_Both_forms T V, bn_Both_forms T⟩
    · exact ⟨T.c_Either, T.me_Either_forms, okv_Either_forms T V, bn_Either_forms T⟩⟩
def sp_Form_holds (K : PySem.W.Frag) : Sp := fun vs H Q _ => ∃ (F : Hp) (v_self : V) (a_self : (List Str)) (v_truths : V) (a_truths : (List Bool)) (r : Bool), vs = [v_self, v_truths] ∧ Same F H ∧ qForm.r K F v_self a_self ∧ (qL qB).r K F v_truths a_truths ∧ m_Form_holds a_self a_truths = some r ∧ ∀ v F' H', Sx P0 F H F' H' → qB.r K F' v r → Q v H'
theorem sc_Form_holds : FnScope ["self", "truths"] ["self", "truths"] (defScope s_Form_holds) := ⟨rfl, rfl, rfl, by decide +kernel, rfl, by decide +kernel, by decide +kernel⟩
theorem bn_Form_holds (T : Tx K mg) : Binds K (fdOf K ("Form", some "holds")) ["self", "truths"] [] := FunD.bindsN T.F_Form_holds fun _ _ _ _ _ _ us hl => match us, hl with | [_, _], _ => rfl
theorem ok_Form_holds (T : Tx K mg) : FnOk P w K mg base CX0 1 (He.fAd K ("Form", some "holds")) (fdOf K ("Form", some "holds")) ["self", "truths"] (sp_Form_holds K) := by
  refine FunD.ok T.F_Form_holds sc_Form_holds (fun vs H0 Q E h => ?_) (fun cdv A outer s H0 vs Q E hr h => ?_)
  · obtain ⟨_, _, _, _, _, _, rfl, _⟩ := h
    rfl
  · obtain ⟨F0, v_self, a_self, v_truths, a_truths, r, rfl, hE, f_self, f_truths, hm, hQ⟩ := h
    refine ⟨_, PSs.nox ((pss_one (ps_ret (pe_ix (r := rIxL K) ix_list (pv 1) pe_int (fun _ _ => rfl))))), ?_⟩
    have S : Sx P0 F0 H0 F0 H0 := Sx.refl0 hE
    unfold m_Form_holds at hm
    obtain ⟨t1, e2, hm⟩ := bd_some hm
    refine rd_ret ?_
    refine rd_op ?_
    refine rd_v rfl ?_
    refine rd_c ?_
    refine rd_ixL (S.l f_truths).r e2 (fun u3 f4 => ?_)
    cases (show u3 = (V.bl (t1)) from f4)
    cases hm
    exact hQ _ _ _ S rfl
theorem okv_Form_holds (T : Tx K mg) (n : Nat) : FnOk P w K mg base CX0 (n + 1) (He.fAd K ("Form", some "holds")) (fdOf K ("Form", some "holds")) ["self", "truths"] (sp_pat_holds n "Form" K) := by
  refine ((ok_Form_holds T).mono (by omega)).imp fun vs H0 Q E h => ?_
  obtain ⟨F0, v, a, vt, t, r, rfl, hE, f, hc, ft, hm, hQ⟩ := h
  obtain ⟨h1, h2, h3⟩ := patN_some hm
  cases a with
    | both _ _ => exact absurd (show ("Both" : Str) = "Form" from hc) (by decide)
    | either _ _ => exact absurd (show ("Either" : Str) = "Form" from hc) (by decide)
    | form a =>
    exact ⟨F0, v, a, vt, t, r, rfl, hE, f, ft, (show ((atI t 0).bind fun t1 => some t1) = some r by rw [show atI t 0 = some r from h3]; rfl), hQ⟩
theorem sc_Both_holds : FnScope ["self", "truths", "middle"] ["self", "truths"] (defScope s_Both_holds) := ⟨rfl, rfl, rfl, by decide +kernel, rfl, by decide +kernel, by decide +kernel⟩
theorem bn_Both_holds (T : Tx K mg) : Binds K (fdOf K ("Both", some "holds")) ["self", "truths"] [] := FunD.bindsN T.F_Both_holds fun _ _ _ _ _ _ us hl => match us, hl with | [_, _], _ => rfl
theorem okv_Both_holds (T : Tx K mg) {n : Nat} (V : VM P w K mg base (n + 1) "holds" ["self", "truths"] (fun x => sp_pat_holds n x K)) : FnOk P w K mg base CX0 (n + 2) (He.fAd K ("Both", some "holds")) (fdOf K ("Both", some "holds")) ["self", "truths"] (sp_pat_holds (n + 1) "Both" K) := by
  have VF : VM P w K mg base (n + 1) "forms" ["self"] (fun x => sp_pat_forms n x K) := vm_forms T n
  refine FunD.ok T.F_Both_holds sc_Both_holds (fun vs H0 Q E h => ?_) (fun cdv A outer s H0 vs Q E hr h => ?_)
  · obtain ⟨_, _, _, _, _, _, rfl, _⟩ := h
    rfl
  · obtain ⟨F0, v, a, vt, t, r, rfl, hE, f, hc, ft, hm, hQ⟩ := h
    obtain ⟨h1, h2, h3⟩ := patN_some hm
    cases a with
    | form _ => exact absurd (show ("Form" : Str) = "Both" from hc) (by decide)
    | either _ _ => exact absurd (show ("Either" : Str) = "Both" from hc) (by decide)
    | both l r' =>
    obtain ⟨p, dx, u, w', rfl, e2, rl, rr⟩ := (show qPatR K F0 v (.both l r') from f)
    replace rl : qPat.r K F0 u l := rl
    replace rr : qPat.r K F0 w' r' := rr
    have hl : l.ht ≤ n ∧ r'.ht ≤ n := by
      have h1 : max l.ht r'.ht + 1 ≤ n + 1 := h1
      omega
    have hf : l.forms.length + r'.forms.length ≤ 16 := by
      have h2 : (l.forms ++ r'.forms).length ≤ 16 := h2
      rw [List.length_append] at h2
      exact h2
    obtain ⟨b, eb, h3⟩ := bd_some (show ((l.holds (cut t none (some (l.forms.length : Int)))).bind fun b => if b = true then r'.holds (cut t (some (l.forms.length : Int)) none) else some false) = some r from h3)
    refine ⟨_, PSs.nox (pss_cons (ps_set (i := 2) sc_Both_holds.nd rfl (by first | exact Or.inl rfl | exact Or.inr rfl) (pe_callB (r := rLenQ K) cr_lenQ (by rfl) T.n_len (by decide +kernel) (pa_cons (pe_methV0 (E := E0) (pe_fldK (pv 0) rfl)) pa_nil))) (pss_one (ps_ret (pe_and (pe_methV (E := E0) (pe_fldK (pv 0) rfl) (pa_cons (pe_slice (r := rSlL K) sl_list (pv 1) po_none (po_some (pv 2))) pa_nil)) (pe_one (pe_methV (E := E0) (pe_fldK (pv 0) rfl) (pa_cons (pe_slice (r := rSlL K) sl_list (pv 1) (po_some (pv 2)) po_none) pa_nil))))))), ?_⟩
    have S : Sx P0 F0 H0 F0 H0 := Sx.refl0 hE
    refine rd_seq ?_
    refine rd_asg ?_
    refine rd_cb ?_
    refine rd_cons ?_
    refine rd_methV ?_
    refine rd_fld ?_
    refine rd_v rfl ?_
    refine fd_at (S.sub _ _ e2) T.c_Both T.na_Both_left (by rfl) ?_
    refine VF.call (hr.mono (by omega)) S rl (kt := ?_)
    refine rd_nil ?_
    refine ⟨F0, _, _, _, rfl, S.sub, rl, rfl, patN_of hl.1 (by omega), fun v1 F1 H1 c1 f1 => ?_⟩
    have S1 := S.call0 c1
    have rr := qPat.mono c1.le rr
    have rl := qPat.mono c1.le rl
    have ft := (qL qB).mono c1.le ft
    refine rd_nil ?_
    refine rd_lenQ (S1.l f1).r.q ?_
    refine rd_gn ?_
    refine rd_ret ?_
    refine rd_andV ?_
    refine rd_methV ?_
    refine rd_fld ?_
    refine rd_v rfl ?_
    refine fd_at (S1.sub _ _ (S1.le _ _ e2)) T.c_Both T.na_Both_left (by rfl) ?_
    refine V.call (hr.mono (by omega)) S1 rl (kt := ?_)
    refine rd_cons ?_
    refine rd_sl ?_
    refine rd_v rfl ?_
    refine rd_np ?_
    refine rd_pt ?_
    refine rd_v rfl ?_
    refine rd_i ?_
    refine rd_slL (S1.l ft).r ?_
    refine alL' S1 (fun v2 F2 H2 c2 f2 => ?_)
    have S2 := S1.call0 c2
    have rl := qPat.mono c2.le rl
    have rr := qPat.mono c2.le rr
    have ft := (qL qB).mono c2.le ft
    refine rd_nil ?_
    refine ⟨F2, _, _, _, _, _, rfl, S2.sub, rl, rfl, f2, (patN_of hl.1 (by omega)).trans eb, fun v4 F4 H4 c4 f4 => ?_⟩
    cases (show v4 = .bl b from f4)
    have S4 := S2.call0 c4
    have rr := qPat.mono c4.le rr
    have ft := (qL qB).mono c4.le ft
    refine rd_b ?_
    cases b with
    | true =>
      refine if_tt ?_
      refine rd_methV ?_
      refine rd_fld ?_
      refine rd_v rfl ?_
      refine fd_at (S4.sub _ _ (S4.le _ _ e2)) T.c_Both T.na_Both_right (by rfl) ?_
      refine V.call (hr.mono (by omega)) S4 rr (kt := ?_)
      refine rd_cons ?_
      refine rd_sl ?_
      refine rd_v rfl ?_
      refine rd_pt ?_
      refine rd_v rfl ?_
      refine rd_i ?_
      refine rd_np ?_
      refine rd_slL (S4.l ft).r ?_
      refine alL' S4 (fun v5 F5 H5 c5 f5 => ?_)
      have S5 := S4.call0 c5
      have rr := qPat.mono c5.le rr
      refine rd_nil ?_
      refine ⟨F5, _, _, _, _, _, rfl, S5.sub, rr, rfl, f5, (patN_of hl.2 (by omega)).trans h3, fun v6 F6 H6 c6 f6 => ?_⟩
      cases (show v6 = .bl r from f6)
      exact hQ _ _ _ (S5.call0 c6) rfl
    | false =>
      cases (show some false = some r from h3)
      exact hQ _ _ _ S4 rfl
theorem sc_Either_holds : FnScope ["self", "truths", "middle"] ["self", "truths"] (defScope s_Either_holds) := ⟨rfl, rfl, rfl, by decide +kernel, rfl, by decide +kernel, by decide +kernel⟩
theorem bn_Either_holds (T : Tx K mg) : Binds K (fdOf K ("Either", some "holds")) ["self", "truths"] [] := FunD.bindsN T.F_Either_holds fun _ _ _ _ _ _ us hl => match us, hl with | [_, _], _ => rfl
theorem okv_Either_holds (T : Tx K mg) {n : Nat} (V : VM P w K mg base (n + 1) "holds" ["self", "truths"] (fun x => sp_pat_holds n x K)) : FnOk P w K mg base CX0 (n + 2) (He.fAd K ("Either", some "holds")) (fdOf K ("Either", some "holds")) ["self", "truths"] (sp_pat_holds (n + 1) "Either" K) := by
  have VF : VM P w K mg base (n + 1) "forms" ["self"] (fun x => sp_pat_forms n x K) := vm_forms T n
  refine FunD.ok T.F_Either_holds sc_Either_holds (fun vs H0 Q E h => ?_) (fun cdv A outer s H0 vs Q E hr h => ?_)
  · obtain ⟨_, _, _, _, _, _, rfl, _⟩ := h
    rfl
  · obtain ⟨F0, v, a, vt, t, r, rfl, hE, f, hc, ft, hm, hQ⟩ := h
    obtain ⟨h1, h2, h3⟩ := patN_some hm
    cases a with
    | form _ => exact absurd (show ("Form" : Str) = "Either" from hc) (by decide)
    | both _ _ => exact absurd (show ("Both" : Str) = "Either" from hc) (by decide)
    | either l r' =>
    obtain ⟨p, dx, u, w', rfl, e2, rl, rr⟩ := (show qPatR K F0 v (.either l r') from f)
    replace rl : qPat.r K F0 u l := rl
    replace rr : qPat.r K F0 w' r' := rr
    have hl : l.ht ≤ n ∧ r'.ht ≤ n := by
      have h1 : max l.ht r'.ht + 1 ≤ n + 1 := h1
      omega
    have hf : l.forms.length + r'.forms.length ≤ 16 := by
      have h2 : (l.forms ++ r'.forms).length ≤ 16 := h2
      rw [List.length_append] at h2
      exact h2
    obtain ⟨b, eb, h3⟩ := bd_some (show ((l.holds (cut t none (some (l.forms.length : Int)))).bind fun b => if b = true then some true else r'.holds (cut t (some (l.forms.length : Int)) none)) = some r from h3)
    refine ⟨_, PSs.nox (pss_cons (ps_set (i := 2) sc_Either_holds.nd rfl (by first | exact Or.inl rfl | exact Or.inr rfl) (pe_callB (r := rLenQ K) cr_lenQ (by rfl) T.n_len (by decide +kernel) (pa_cons (pe_methV0 (E := E0) (pe_fldK (pv 0) rfl)) pa_nil))) (pss_one (ps_ret (pe_or (pe_methV (E := E0) (pe_fldK (pv 0) rfl) (pa_cons (pe_slice (r := rSlL K) sl_list (pv 1) po_none (po_some (pv 2))) pa_nil)) (pe_one (pe_methV (E := E0) (pe_fldK (pv 0) rfl) (pa_cons (pe_slice (r := rSlL K) sl_list (pv 1) (po_some (pv 2)) po_none) pa_nil))))))), ?_⟩
    have S : Sx P0 F0 H0 F0 H0 := Sx.refl0 hE
    refine rd_seq ?_
    refine rd_asg ?_
    refine rd_cb ?_
    refine rd_cons ?_
    refine rd_methV ?_
    refine rd_fld ?_
    refine rd_v rfl ?_
    refine fd_at (S.sub _ _ e2) T.c_Either T.na_Either_left (by rfl) ?_
    refine VF.call (hr.mono (by omega)) S rl (kt := ?_)
    refine rd_nil ?_
    refine ⟨F0, _, _, _, rfl, S.sub, rl, rfl, patN_of hl.1 (by omega), fun v1 F1 H1 c1 f1 => ?_⟩
    have S1 := S.call0 c1
    have rr := qPat.mono c1.le rr
    have rl := qPat.mono c1.le rl
    have ft := (qL qB).mono c1.le ft
    refine rd_nil ?_
    refine rd_lenQ (S1.l f1).r.q ?_
    refine rd_gn ?_
    refine rd_ret ?_
    refine rd_orV ?_
    refine rd_methV ?_
    refine rd_fld ?_
    refine rd_v rfl ?_
    refine fd_at (S1.sub _ _ (S1.le _ _ e2)) T.c_Either T.na_Either_left (by rfl) ?_
    refine V.call (hr.mono (by omega)) S1 rl (kt := ?_)
    refine rd_cons ?_
    refine rd_sl ?_
    refine rd_v rfl ?_
    refine rd_np ?_
    refine rd_pt ?_
    refine rd_v rfl ?_
    refine rd_i ?_
    refine rd_slL (S1.l ft).r ?_
    refine alL' S1 (fun v2 F2 H2 c2 f2 => ?_)
    have S2 := S1.call0 c2
    have rl := qPat.mono c2.le rl
    have rr := qPat.mono c2.le rr
    have ft := (qL qB).mono c2.le ft
    refine rd_nil ?_
    refine ⟨F2, _, _, _, _, _, rfl, S2.sub, rl, rfl, f2, (patN_of hl.1 (by omega)).trans eb, fun v4 F4 H4 c4 f4 => ?_⟩
    cases (show v4 = .bl b from f4)
    have S4 := S2.call0 c4
    have rr := qPat.mono c4.le rr
    have ft := (qL qB).mono c4.le ft
    refine rd_b ?_
    cases b with
    | true =>
      cases (show some true = some r from h3)
      exact hQ _ _ _ S4 rfl
    | false =>
      refine if_ff ?_
      refine rd_methV ?_
      refine rd_fld ?_
      refine rd_v rfl ?_
      refine fd_at (S4.sub _ _ (S4.le _ _ e2)) T.c_Either T.na_Either_right (by rfl) ?_
      refine V.call (hr.mono (by omega)) S4 rr (kt := ?_)
      refine rd_cons ?_
      refine rd_sl ?_
      refine rd_v rfl ?_
      refine rd_pt ?_
      refine rd_v rfl ?_
      refine rd_i ?_
      refine rd_np ?_
      refine rd_slL (S4.l ft).r ?_
      refine alL' S4 (fun v5 F5 H5 c5 f5 => ?_)
      have S5 := S4.call0 c5
      have rr := qPat.mono c5.le rr
      refine rd_nil ?_
      refine ⟨F5, _, _, _, _, _, rfl, S5.sub, rr, rfl, f5, (patN_of hl.2 (by omega)).trans h3, fun v6 F6 H6 c6 f6 => ?_⟩
      cases (show v6 = .bl r from f6)
      exact hQ _ _ _ (S5.call0 c6) rfl
theorem okv_void_holds {C : Str} (hC : C = "Both" ∨ C = "Either") : FnOk P w K mg base CX0 1 (He.fAd K (C, some "holds")) (fdOf K (C, some "holds")) ["self", "truths"] (sp_pat_holds 0 C K) := by
  have no : ∀ vs H Q E, ¬ sp_pat_holds 0 C K vs H Q E := by
    intro vs H Q E h
    obtain ⟨_, _, a, _, _, _, _, _, _, hc, _, hm, _⟩ := h
    obtain ⟨h1, _, _⟩ := patN_some hm
    cases a with
    | form _ =>
      subst hc
      rcases hC with h | h
      · exact absurd (show ("Form" : Str) = "Both" from h) (by decide)
      · exact absurd (show ("Form" : Str) = "Either" from h) (by decide)
    | both l r => exact absurd (show max l.ht r.ht + 1 ≤ 0 from h1) (by omega)
    | either l r => exact absurd (show max l.ht r.ht + 1 ≤ 0 from h1) (by omega)
  exact ⟨fun vs H Q E h => absurd h (no vs H Q E), fun A outer s H args us vs Q E hr he hb hv h => absurd h (no vs H Q E)⟩
theorem vm_holds (T : Tx K mg) : ∀ n, VM P w K mg base (n + 1) "holds" ["self", "truths"] (fun x => sp_pat_holds n x K)
  | 0 => ⟨fun x hx => by
    rcases hx with rfl | rfl | rfl
    · exact ⟨T.c_Form, T.me_Form_holds, okv_Form_holds T 0, bn_Form_holds T⟩
    · exact ⟨T.c_Both, T.me_Both_holds, okv_void_holds (.inl rfl), bn_Both_holds T⟩
    · exact ⟨T.c_Either, T.me_Either_holds, okv_void_holds (.inr rfl), bn_Either_holds T⟩⟩
  | n + 1 => ⟨fun x hx => by
    have V := vm_holds T n
    rcases hx with rfl | rfl | rfl
    · exact ⟨T.c_Form, T.me_Form_holds, okv_Form_holds T (n + 1), bn_Form_holds T⟩
    · exact ⟨T.c_Both, T.me_Both_holds, okv_Both_holds T V, bn_Both_holds T⟩
    · exact ⟨T.c_Either, T.me_Either_holds, okv_Either_holds T V, bn_Either_holds T⟩⟩
def sp_is_line (K : PySem.W.Frag) : Sp := fun vs H Q _ => ∃ (F : Hp) (v_thing : V) (a_thing : Th) (r : Bool), vs = [v_thing] ∧ Same F H ∧ qTh.r K F v_thing a_thing ∧ m_is_line a_thing = some r ∧ ∀ v F' H', Sx P0 F H F' H' → qB.r K F' v r → Q v H'
theorem sc_is_line : FnScope ["thing", "sign"] ["thing"] (defScope s_is_line) := ⟨rfl, rfl, rfl, by decide +kernel, rfl, by decide +kernel, by decide +kernel⟩
theorem bn_is_line (T : Tx K mg) : Binds K (fdOf K ("is_line", none)) ["thing"] [] := FunD.bindsN T.F_is_line fun _ _ _ _ _ _ us hl => match us, hl with | [_], _ => rfl
theorem ok_is_line (T : Tx K mg) : FnOk P w K mg base CX0 1 (He.ga K "is_line") (fdOf K ("is_line", none)) ["thing"] (sp_is_line K) := by
  refine FunD.ok T.F_is_line sc_is_line (fun vs H0 Q E h => ?_) (fun cdv A outer s H0 vs Q E hr h => ?_)
  · obtain ⟨_, _, _, _, rfl, _⟩ := h
    rfl
  · obtain ⟨F0, v_thing, a_thing, r, rfl, hE, f_thing, hm, hQ⟩ := h
    refine ⟨_, PSs.nox ((pss_cons (ps_if (PW.pt (pw_or (pt_not (pt_val (pe_callB (r := rIsi K) call_isi (by rfl) T.n_isinstance (by decide +kernel) (pa_cons (pv 0) (pa_cons (pe_bltn (v := V.ty "str") (by rfl) T.n_str (by decide +kernel) rfl) pa_nil))))) (pw_or1 (pt_cmpR op_eqS (pv 0) pe_str (nomark _))))) (pss_one (ps_ret pe_bl)) pss_nil) (pss_cons (ps_for PassesOwn.never rfl (pi_str (pv 0)) (pg_name (i := 1) sc_is_line.nd rfl (by first | exact Or.inl rfl | exact Or.inr rfl)) (pss_one (ps_if (pt_cmpR op_niS (pv 1) (pe_glob (v := V.str " #-.0123456789:>ABCDEFGHIJKLMNOPQRSTUVWXYZabcdefghijklmnopqrstuvwxyz") (by rfl) (T.k_SIGNS.choose_spec) ⟨_, rfl⟩) rfl) (pss_one (ps_ret pe_bl)) pss_nil))) (pss_one (ps_ret pe_bl))))), ?_⟩
    have S : Sx P0 F0 H0 F0 H0 := Sx.refl0 hE
    unfold m_is_line at hm
    obtain ⟨t4, e5, hm⟩ := bd_some hm
    refine rd_seq ?_
    refine rd_ifS ?_
    refine rd_or ?_
    refine rd_not ?_
    refine rd_tB ?_
    refine rd_cb ?_
    refine rd_cons ?_
    refine rd_v rfl ?_
    refine rd_cons ?_
    refine rd_c ?_
    refine rd_nil ?_
    refine rd_isiTh (n := "str") (tx_th S f_thing) (by decide +kernel) ?_
    refine rd_b ?_
    refine or_j (fun c H' => c = t4 ∧ ∃ F', Sx P0 F0 H0 F' H') ?_ ?_ ?_
    · intro b6 Q7 q8
      have e5 := if_f e5 b6
      have S9 := Sx.refl0 S.sub
      obtain ⟨t10, e11, e5⟩ := bd_some e5
      have e12 := thS_fact f_thing e11
      cases e12
      cases e5
      refine rd_test ?_
      refine rd_op ?_
      refine rd_v rfl ?_
      refine rd_c ?_
      refine rd_S0 ?_
      refine rd_b ?_
      exact q8 _ _ ⟨rfl, F0, S9⟩
    · intro b6
      have e5 := if_t e5 b6
      cases e5
      have S13 := Sx.refl0 S.sub
      exact ⟨rfl, F0, S13⟩
    rintro b17 H15 ⟨rfl, F14, c16⟩
    have S18 := S.call0 c16
    have f_thing := qTh.mono c16.le f_thing
    refine if_b hm (fun b19 hm => ?_) (fun b19 hm => ?_)
    · skip
      cases hm
      refine rd_ret ?_
      refine rd_c ?_
      exact hQ _ _ _ S18 rfl
    · skip
      obtain ⟨t20, e21, hm⟩ := bd_some hm
      have e22 := thS_fact f_thing e21
      cases e22
      refine rd_next ?_
      refine rd_seq ?_
      refine rd_for ?_
      refine rd_iS ?_
      refine rd_v rfl ?_
      refine rd_wS ?_
      obtain ⟨t23, e24, hm⟩ := bd_some hm
      refine rd_forC feedsS (typedS (K := K) (F := F14)) e24 (fun (s25 : Unit) σ H => ∃ (F : Hp) (o1 : Option V), σ = [some (V.str (t20)), o1] ∧ Sx P0 F14 H15 F H) ?_ ?_ ?_ ?_
      · intro _ _ _ _; trivial
      · skip
        have S27 := Sx.refl0 S18.sub
        exact ⟨F14, _, rfl, S27⟩
      · skip
        rintro x28 v29 s30 c34 σ31 H32 f33 ⟨F35, o37, rfl, S36⟩ hm40 hbk38 hrt39
        unfold m_is_line_b1 at hm40
        cases (show v29 = (V.str (x28)) from f33)
        refine rd_gn ?_
        refine rd_ifS ?_
        refine rd_test ?_
        refine rd_op ?_
        refine rd_v rfl ?_
        refine rd_c ?_
        refine rd_niSS ?_
        refine rd_b ?_
        refine if_b hm40 (fun b41 hm40 => ?_) (fun b41 hm40 => ?_)
        · skip
          cases hm40
          have e42 := hrt39 _ rfl
          subst e42
          have hm := aft_rt hm
          have S43 := S18.call0 S36
          cases hm
          refine rd_ret ?_
          refine rd_c ?_
          exact hQ _ _ _ S43 rfl
        · skip
          cases hm40
          refine rd_next ?_
          exact ⟨_, rfl, ⟨F35, _, rfl, S36⟩⟩
      · skip
        rintro s46 σ44 H45 e47 ⟨F48, o50, rfl, S49⟩
        subst e47
        have hm := aft_nx hm
        have S51 := S18.call0 S49
        cases hm
        refine rd_ret ?_
        refine rd_c ?_
        exact hQ _ _ _ S51 rfl
def sp_cells_of (K : PySem.W.Frag) : Sp := fun vs H Q _ => ∃ (F : Hp) (v_parts : V) (a_parts : (List Str)) (r : (List Str)), vs = [v_parts] ∧ Same F H ∧ (qQ qS).r K F v_parts a_parts ∧ m_cells_of a_parts = some r ∧ ∀ v F' H', Sx P0 F H F' H' → (qL qS).r K F' v r → Q v H'
theorem sc_cells_of : FnScope ["parts", "cells", "part"] ["parts"] (defScope s_cells_of) := ⟨rfl, rfl, rfl, by decide +kernel, rfl, by decide +kernel, by decide +kernel⟩
theorem bn_cells_of (T : Tx K mg) : Binds K (fdOf K ("cells_of", none)) ["parts"] [] := FunD.bindsN T.F_cells_of fun _ _ _ _ _ _ us hl => match us, hl with | [_], _ => rfl
theorem ok_cells_of (T : Tx K mg) : FnOk P w K mg base CX0 1 (He.ga K "cells_of") (fdOf K ("cells_of", none)) ["parts"] (sp_cells_of K) := by
  refine FunD.ok T.F_cells_of sc_cells_of (fun vs H0 Q E h => ?_) (fun cdv A outer s H0 vs Q E hr h => ?_)
  · obtain ⟨_, _, _, _, rfl, _⟩ := h
    rfl
  · obtain ⟨F0, v_parts, a_parts, r, rfl, hE, f_parts, hm, hQ⟩ := h
    refine ⟨_, PSs.nox ((pss_cons (ps_set (i := 1) sc_cells_of.nd rfl (by first | exact Or.inl rfl | exact Or.inr rfl) (pe_lst pa_nil)) (pss_cons (ps_for PassesOwn.never rfl (pi_seq (pv 0)) (pg_name (i := 2) sc_cells_of.nd rfl (by first | exact Or.inl rfl | exact Or.inr rfl)) (pss_one (ps_if (pt_cmpR (r := rIn K false) op_in_seq (pv 2) (pe_glob (v := V.ref (He.ga K "FREE_CELLS")) (by rfl) T.g_FREE_CELLS rfl) rfl) (pss_one (ps_expr (pe_bmK (K := K) PySem.F.plainAttrs_list PySem.F.slot_list_append PySem.F.type_list_append mt_append (pv 1) (pa_cons (pv 2) pa_nil)))) (pss_one (ps_expr (pe_bmK (K := K) PySem.F.plainAttrs_list PySem.F.slot_list_extend PySem.F.type_list_extend mt_extend (pv 1) (pa_cons (pe_callTy (cr_listS rfl) (by rfl) T.n_list (by decide +kernel) (pa_cons (pv 2) pa_nil)) pa_nil))))))) (pss_one (ps_ret (pv 1)))))), ?_⟩
    have S : Sx P0 F0 H0 F0 H0 := Sx.refl0 hE
    unfold m_cells_of at hm
    refine rd_seq ?_
    refine rd_asg ?_
    refine rd_lst ?_
    refine rd_nil ?_
    refine rd_lK rfl ?_
    refine al S (fun p1 H2 np3 c4 w5 => ?_)
    have z7 := S.free0 np3
    have S8 := S.call0 c4
    have f_parts := (qQ qS).mono c4.le f_parts
    refine rd_gn ?_
    refine rd_seq ?_
    refine rd_for ?_
    refine rd_wSeq S8 f_parts (by intro _ k; exact rd_v rfl k) (fun J9 n10 G11 it12 fd13 ty14 hg15 => ?_)
    have r16 : Row qS K F0 [] ([] : List Str) := .nil
    obtain ⟨t17, e18, hm⟩ := bd_some hm
    refine rd_forS fd13 ty14 e18 (fun (s19 : (List Str)) σ H => ∃ (F : Hp) (o2 : Option V) (vs0 : List V), σ = [some v_parts, some (V.ref p1), o2] ∧ Sx (fun a => a = p1) F0 H2 F H ∧ Ow (fun a => a = p1) H2 F H p1 (.lst vs0) ∧ Row qS K F vs0 s19) ?_ ?_ ?_ ?_
    · rintro _ _ _ ⟨_, _, _, _, S20, _, _⟩
      exact (hg15 _ _ S20.le S20.sub)
    · skip
      have S21 : Sx (fun a => a = p1) _ _ _ _ := Sx.refl S8.sub (fun a z => by rw [z, w5.at_]; exact (fun h => nomatch h))
      have w22 : Ow (fun a => a = p1) H2 _ _ _ _ := ⟨w5.fr, w5.at_, .inr (rfl)⟩
      exact ⟨F0, _, _, rfl, S21, w22, r16⟩
    · skip
      rintro x23 v24 s25 c29 σ26 H27 f28 ⟨F30, o32, v33, rfl, S31, w34, r35⟩ hm38
      have f_parts := (qQ qS).mono S31.le f_parts
      unfold m_cells_of_b1 at hm38
      cases (show v24 = (V.str (x23)) from f28)
      have f39 : (qT qS).r K F30 (.ref (He.ga K "FREE_CELLS")) (["<digits>", "<word>", "<any>"] : List Str) := T.q_FREE_CELLS _
      refine rd_gn ?_
      refine rd_ifS ?_
      refine rd_test ?_
      refine rd_op ?_
      refine rd_v rfl ?_
      refine rd_c ?_
      refine rd_inS (S31.t f39).q ?_
      refine rd_b ?_
      refine if_b hm38 (fun b40 hm38 => ?_) (fun b40 hm38 => ?_)
      · skip
        obtain ⟨g41, hm38⟩ := gd_some hm38
        refine rd_drop ?_
        refine rd_bm ?_
        refine rd_v rfl ?_
        refine rd_ty w34.ty ?_
        refine rd_cons ?_
        refine rd_v rfl ?_
        refine rd_nil ?_
        refine ap S31 w34 r35 g41 (fun H42 c43 w44 => ?_)
        have r45 := r35.snoc (show qS.r K F30 _ x23 from rfl)
        have S46 := S31.call1 c43 w34
        have f_parts := (qQ qS).mono c43.le f_parts
        have r45 := Row.mono c43.le r45
        cases hm38
        exact ⟨F30, _, _, rfl, S46, w44, r45⟩
      · skip
        obtain ⟨g47, hm38⟩ := gd_some hm38
        refine rd_drop ?_
        refine rd_bm ?_
        refine rd_v rfl ?_
        refine rd_ty w34.ty ?_
        refine rd_cons ?_
        refine rd_cb ?_
        refine rd_cons ?_
        refine rd_v rfl ?_
        refine rd_nil ?_
        refine rd_listS (K := K) (F := F30) g47 ?_
        refine alL' S31 (fun v48 F49 H50 c51 f52 => ?_)
        have S53 := S31.call0 c51
        have f_parts := (qQ qS).mono c51.le f_parts
        have r35 := Row.mono c51.le r35
        have w34 := w34.call0 c51
        obtain ⟨g54, hm38⟩ := gd_some hm38
        refine rd_nil ?_
        refine ex' S53 w34 r35 (S53.l f52) g54 (fun us55 H56 c57 w58 r59 => ?_)
        have S60 := S53.call1 c57 w34
        have f_parts := (qQ qS).mono c57.le f_parts
        have r59 := Row.mono c57.le r59
        cases hm38
        exact ⟨F49, _, _, rfl, S60, w58, r59⟩
    · skip
      rintro σ61 H62 ⟨F63, o65, v66, rfl, S64, w67, r68⟩
      have S69 := S8.call1 S64 w5
      have f_parts := (qQ qS).mono S64.le f_parts
      have w70 : Ow P0 H0 _ _ _ _ := ⟨w67.fr, w67.at_, w5.mine⟩
      obtain ⟨F71, S72, le73, f74, _, eq75⟩ := fz S69 w70 z7 r68
      have f_parts := (qQ qS).mono le73 f_parts
      cases hm
      refine rd_ret ?_
      refine rd_v rfl ?_
      exact hQ _ _ _ S72 f74
def sp_closed (K : PySem.W.Frag) : Sp := fun vs H Q _ => ∃ (F : Hp) (v_cells : V) (a_cells : (List Str)) (v_positions : V) (a_positions : (List Int)) (r : (List Int)), vs = [v_cells, v_positions] ∧ Same F H ∧ (qL qS).r K F v_cells a_cells ∧ (qQ qI).r K F v_positions a_positions ∧ m_closed a_cells a_positions = some r ∧ ∀ v F' H', Sx P0 F H F' H' → (qT qI).r K F' v r → Q v H'
theorem sc_closed : FnScope ["cells", "positions", "found", "at"] ["cells", "positions"] (defScope s_closed) := ⟨rfl, rfl, rfl, by decide +kernel, rfl, by decide +kernel, by decide +kernel⟩
theorem bn_closed (T : Tx K mg) : Binds K (fdOf K ("closed", none)) ["cells", "positions"] [] := FunD.bindsN T.F_closed fun _ _ _ _ _ _ us hl => match us, hl with | [_, _], _ => rfl
theorem ok_closed (T : Tx K mg) : FnOk P w K mg base CX0 1 (He.ga K "closed") (fdOf K ("closed", none)) ["cells", "positions"] (sp_closed K) := by
  refine FunD.ok T.F_closed sc_closed (fun vs H0 Q E h => ?_) (fun cdv A outer s H0 vs Q E hr h => ?_)
  · obtain ⟨_, _, _, _, _, _, rfl, _⟩ := h
    rfl
  · obtain ⟨F0, v_cells, a_cells, v_positions, a_positions, r, rfl, hE, f_cells, f_positions, hm, hQ⟩ := h
    refine ⟨_, PSs.nox ((pss_cons (ps_set (i := 2) sc_closed.nd rfl (by first | exact Or.inl rfl | exact Or.inr rfl) (pe_lst pa_nil)) (pss_cons (ps_for PassesOwn.never rfl (pi_range1 (by rfl) T.n_range (pa_cons (pe_op op_add (pe_callB (r := rLenQ K) cr_lenQ (by rfl) T.n_len (by decide +kernel) (pa_cons (pv 0) pa_nil)) pe_int) pa_nil)) (pg_name (i := 3) sc_closed.nd rfl (by first | exact Or.inl rfl | exact Or.inr rfl)) (pss_one (ps_if (PW.pt (pw_or (pt_cmpR (r := rIn K false) op_in_seq (pv 3) (pv 1) rfl) (pw_or1 (PW.pt (pw_and (pt_cmpR op_gt (pv 3) pe_int (nomark _)) (pw_and (pt_cmpR op_eqS (pe_ix (r := rIxL K) ix_list (pv 0) (pe_op op_sub (pv 3) pe_int) (fun _ _ => rfl)) (pe_glob (v := V.str "<any>") (by rfl) (T.k_ANY_CELL.choose_spec) ⟨_, rfl⟩) (nomark _)) (pw_and1 (pt_cmpR (r := rIn K false) op_in_seq (pe_op op_sub (pv 3) pe_int) (pv 2) rfl)))))))) (pss_one (ps_expr (pe_bmK (K := K) PySem.F.plainAttrs_list PySem.F.slot_list_append PySem.F.type_list_append mt_append (pv 2) (pa_cons (pv 3) pa_nil)))) pss_nil))) (pss_one (ps_ret (pe_tupleOf (by rfl) T.n_tuple (pv 2))))))), ?_⟩
    have S : Sx P0 F0 H0 F0 H0 := Sx.refl0 hE
    unfold m_closed at hm
    refine rd_seq ?_
    refine rd_asg ?_
    refine rd_lst ?_
    refine rd_nil ?_
    refine rd_lK rfl ?_
    refine al S (fun p1 H2 np3 c4 w5 => ?_)
    have z7 := S.free0 np3
    have S8 := S.call0 c4
    have f_cells := (qL qS).mono c4.le f_cells
    have f_positions := (qQ qI).mono c4.le f_positions
    obtain ⟨g9, hm⟩ := gd_some hm
    refine rd_gn ?_
    refine rd_seq ?_
    refine rd_for ?_
    refine rd_iR1 ?_
    refine rd_cons ?_
    refine rd_op ?_
    refine rd_cb ?_
    refine rd_cons ?_
    refine rd_v rfl ?_
    refine rd_nil ?_
    refine rd_lenQ (S8.l f_cells).r.q ?_
    refine rd_c ?_
    refine rd_I0 ?_
    refine rd_nil ?_
    refine rd_r1 g9 ?_
    have r10 : Row qI K F0 [] ([] : List Int) := .nil
    obtain ⟨t11, e12, hm⟩ := bd_some hm
    refine rd_forS feedsRg (typedR (K := K) (F := F0)) e12 (fun (s13 : (List Int)) σ H => ∃ (F : Hp) (o3 : Option V) (vs0 : List V), σ = [some v_cells, some v_positions, some (V.ref p1), o3] ∧ Sx (fun a => a = p1) F0 H2 F H ∧ Ow (fun a => a = p1) H2 F H p1 (.lst vs0) ∧ Row qI K F vs0 s13) ?_ ?_ ?_ ?_
    · intro _ _ _ _; trivial
    · skip
      have S15 : Sx (fun a => a = p1) _ _ _ _ := Sx.refl S8.sub (fun a z => by rw [z, w5.at_]; exact (fun h => nomatch h))
      have w16 : Ow (fun a => a = p1) H2 _ _ _ _ := ⟨w5.fr, w5.at_, .inr (rfl)⟩
      exact ⟨F0, _, _, rfl, S15, w16, r10⟩
    · skip
      rintro x17 v18 s19 c23 σ20 H21 f22 ⟨F24, o26, v27, rfl, S25, w28, r29⟩ hm32
      have f_cells := (qL qS).mono S25.le f_cells
      have f_positions := (qQ qI).mono S25.le f_positions
      unfold m_closed_b1 at hm32
      cases (show v18 = (V.int (x17)) from f22)
      obtain ⟨t53, e54, hm32⟩ := bd_some hm32
      refine rd_gn ?_
      refine rd_ifS ?_
      refine rd_or ?_
      refine rd_test ?_
      refine rd_op ?_
      refine rd_v rfl ?_
      refine rd_v rfl ?_
      refine rd_inI (S25.q f_positions) ?_
      refine rd_b ?_
      refine or_j (fun c H' => c = t53 ∧ ∃ F', Sx P0 F24 H21 F' H') ?_ ?_ ?_
      · intro b55 Q56 q57
        have e54 := if_f e54 b55
        have S58 := Sx.refl0 S25.sub
        obtain ⟨t63, e64, e54⟩ := bd_some e54
        refine rd_and ?_
        refine rd_test ?_
        refine rd_op ?_
        refine rd_v rfl ?_
        refine rd_c ?_
        refine rd_I0 ?_
        refine rd_b ?_
        refine and_j (fun c H' => c = t63 ∧ ∃ F', Sx P0 F24 H21 F' H') ?_ ?_ ?_
        · intro b65 Q66 q67
          have e64 := if_t e64 b65
          have S68 := Sx.refl0 S58.sub
          obtain ⟨t69, e70, e64⟩ := bd_some e64
          refine rd_and ?_
          refine rd_test ?_
          refine rd_op ?_
          refine rd_op ?_
          refine rd_v rfl ?_
          refine rd_op ?_
          refine rd_v rfl ?_
          refine rd_c ?_
          refine rd_I0 ?_
          refine rd_ixL (S68.l f_cells).r e70 (fun u71 f72 => ?_)
          cases (show u71 = (V.str (t69)) from f72)
          cases e64
          refine rd_c ?_
          refine rd_S0 ?_
          refine rd_b ?_
          refine and_p (by intro _ Q' q; refine rd_test ?_; refine rd_op ?_; refine rd_op ?_; refine rd_v rfl ?_; refine rd_c ?_; refine rd_I0 ?_; refine rd_v rfl ?_; refine rd_inI (w28.l r29).r.q ?_; refine rd_b ?_; exact q) ?_
          exact q67 _ _ ⟨rfl, F24, S68⟩
        · intro b65
          have e64 := if_f e64 b65
          cases e64
          have S73 := Sx.refl0 S58.sub
          exact ⟨rfl, F24, S73⟩
        rintro b77 H75 ⟨rfl, F74, c76⟩
        have S78 := S58.call0 c76
        have f_cells := (qL qS).mono c76.le f_cells
        have f_positions := (qQ qI).mono c76.le f_positions
        have r29 := Row.mono c76.le r29
        have w28 := w28.call0 c76
        cases e54
        exact q57 _ _ ⟨rfl, F74, S78⟩
      · intro b55
        have e54 := if_t e54 b55
        cases e54
        have S79 := Sx.refl0 S25.sub
        exact ⟨rfl, F24, S79⟩
      rintro b83 H81 ⟨rfl, F80, c82⟩
      have S84 := S25.call0 c82
      have f_cells := (qL qS).mono c82.le f_cells
      have f_positions := (qQ qI).mono c82.le f_positions
      have r29 := Row.mono c82.le r29
      have w28 := w28.call0 c82
      refine if_b hm32 (fun b85 hm32 => ?_) (fun b85 hm32 => ?_)
      · skip
        obtain ⟨g86, hm32⟩ := gd_some hm32
        refine rd_drop ?_
        refine rd_bm ?_
        refine rd_v rfl ?_
        refine rd_ty w28.ty ?_
        refine rd_cons ?_
        refine rd_v rfl ?_
        refine rd_nil ?_
        refine ap S84 w28 r29 g86 (fun H87 c88 w89 => ?_)
        have r90 := r29.snoc (show qI.r K F80 _ x17 from rfl)
        have S91 := S84.call1 c88 w28
        have f_cells := (qL qS).mono c88.le f_cells
        have f_positions := (qQ qI).mono c88.le f_positions
        have r90 := Row.mono c88.le r90
        cases hm32
        exact ⟨F80, _, _, rfl, S91, w89, r90⟩
      · skip
        cases hm32
        refine rd_next ?_
        exact ⟨F80, _, _, rfl, S84, w28, r29⟩
    · skip
      rintro σ92 H93 ⟨F94, o96, v97, rfl, S95, w98, r99⟩
      have S100 := S8.call1 S95 w5
      have f_cells := (qL qS).mono S95.le f_cells
      have f_positions := (qQ qI).mono S95.le f_positions
      have w101 : Ow P0 H0 _ _ _ _ := ⟨w98.fr, w98.at_, w5.mine⟩
      refine rd_ret ?_
      refine rd_thn ?_
      refine rd_v rfl ?_
      refine rd_tuple (w101.l r99).r ?_
      refine alT' S100 (fun v102 F103 H104 c105 f106 => ?_)
      have S107 := S100.call0 c105
      have f_cells := (qL qS).mono c105.le f_cells
      have f_positions := (qQ qI).mono c105.le f_positions
      have r99 := Row.mono c105.le r99
      have w101 := w101.call0 c105
      cases hm
      exact hQ _ _ _ S107 f106
def sp_started (K : PySem.W.Frag) : Sp := fun vs H Q _ => ∃ (F : Hp) (v_cells : V) (a_cells : (List Str)) (r : (List Int)), vs = [v_cells] ∧ Same F H ∧ (qL qS).r K F v_cells a_cells ∧ m_started a_cells = some r ∧ ∀ v F' H', Sx P0 F H F' H' → (qT qI).r K F' v r → Q v H'
theorem sc_started : FnScope ["cells"] ["cells"] (defScope s_started) := ⟨rfl, rfl, rfl, by decide +kernel, rfl, by decide +kernel, by decide +kernel⟩
theorem bn_started (T : Tx K mg) : Binds K (fdOf K ("started", none)) ["cells"] [] := FunD.bindsN T.F_started fun _ _ _ _ _ _ us hl => match us, hl with | [_], _ => rfl
theorem ok_started (T : Tx K mg) : FnOk P w K mg base CX0 2 (He.ga K "started") (fdOf K ("started", none)) ["cells"] (sp_started K) := by
  refine FunD.ok T.F_started sc_started (fun vs H0 Q E h => ?_) (fun cdv A outer s H0 vs Q E hr h => ?_)
  · obtain ⟨_, _, _, _, rfl, _⟩ := h
    rfl
  · obtain ⟨F0, v_cells, a_cells, r, rfl, hE, f_cells, hm, hQ⟩ := h
    refine ⟨_, PSs.nox ((pss_one (ps_ret (pe_call (ok_closed T) (hr.mono (by decide)) (by rfl) T.g_closed T.F_closed.kp (bn_closed T) .nil pass0 (pa_cons (pv 0) (pa_cons (pe_lst (pa_cons pe_int pa_nil)) pa_nil)))))), ?_⟩
    have S : Sx P0 F0 H0 F0 H0 := Sx.refl0 hE
    unfold m_started at hm
    refine rd_ret ?_
    refine rd_call ?_
    refine rd_cons ?_
    refine rd_v rfl ?_
    refine rd_cons ?_
    refine rd_lst ?_
    refine rd_cons ?_
    refine rd_c ?_
    refine rd_nil ?_
    refine rd_lK rfl ?_
    refine alL (K := K) (A := qI) (xs := ([0] : List Int)) S (.cons rfl .nil) (fun v1 F2 H3 c4 f5 => ?_)
    have S6 := S.call0 c4
    have f_cells := (qL qS).mono c4.le f_cells
    have f7 : (qQ qI).r K F2 v1 ([0] : List Int) := (.inl f5)
    obtain ⟨t8, e9, hm⟩ := bd_some hm
    refine rd_nil ?_
    refine ⟨F2, _, _, _, _, t8, rfl, S6.sub, f_cells, f7, e9, fun v13 F10 H11 c12 f14 => ?_⟩
    have S15 := S6.call0 c12
    have f_cells := (qL qS).mono c12.le f_cells
    cases hm
    exact hQ _ _ _ S15 f14
def sp_Form_parts (K : PySem.W.Frag) : Sp := fun vs H Q _ => ∃ (F : Hp) (v_self : V) (a_self : (List Str)) (r : (List Str)), vs = [v_self] ∧ Same F H ∧ qForm.r K F v_self a_self ∧ m_Form_parts a_self = some r ∧ ∀ v F' H', Sx P0 F H F' H' → (qT qS).r K F' v r → Q v H'
theorem sc_Form_parts : FnScope ["self"] ["self"] (defScope s_Form_parts) := ⟨rfl, rfl, rfl, by decide +kernel, rfl, by decide +kernel, by decide +kernel⟩
theorem bn_Form_parts (T : Tx K mg) : Binds K (fdOf K ("Form", some "parts")) ["self"] [] := FunD.bindsN T.F_Form_parts fun _ _ _ _ _ _ us hl => match us, hl with | [_], _ => rfl
theorem ok_Form_parts (T : Tx K mg) : FnOk P w K mg base CX0 1 (He.fAd K ("Form", some "parts")) (fdOf K ("Form", some "parts")) ["self"] (sp_Form_parts K) := by
  refine FunD.ok T.F_Form_parts sc_Form_parts (fun vs H0 Q E h => ?_) (fun cdv A outer s H0 vs Q E hr h => ?_)
  · obtain ⟨_, _, _, _, rfl, _⟩ := h
    rfl
  · obtain ⟨F0, v_self, a_self, r, rfl, hE, f_self, hm, hQ⟩ := h
    refine ⟨_, PSs.nox ((pss_one (ps_ret (pe_fldK (pv 0) rfl)))), ?_⟩
    have S : Sx P0 F0 H0 F0 H0 := Sx.refl0 hE
    unfold m_Form_parts at hm
    refine rd_ret ?_
    refine rd_fld ?_
    refine rd_v rfl ?_
    refine fld_Form_pieces T S f_self (fun u1 f2 => ?_)
    cases hm
    exact hQ _ _ _ S f2
def sp_takes (K : PySem.W.Frag) : Sp := fun vs H Q _ => ∃ (F : Hp) (a_cell : Str) (a_sign : Str) (r : Bool), vs = [(V.str (a_cell)), (V.str (a_sign))] ∧ Same F H ∧ m_takes a_cell a_sign = some r ∧ ∀ v F' H', Sx P0 F H F' H' → qB.r K F' v r → Q v H'
theorem sc_takes : FnScope ["cell", "sign"] ["cell", "sign"] (defScope s_takes) := ⟨rfl, rfl, rfl, by decide +kernel, rfl, by decide +kernel, by decide +kernel⟩
theorem bn_takes (T : Tx K mg) : Binds K (fdOf K ("takes", none)) ["cell", "sign"] [] := FunD.bindsN T.F_takes fun _ _ _ _ _ _ us hl => match us, hl with | [_, _], _ => rfl
theorem ok_takes (T : Tx K mg) : FnOk P w K mg base CX0 1 (He.ga K "takes") (fdOf K ("takes", none)) ["cell", "sign"] (sp_takes K) := by
  refine FunD.ok T.F_takes sc_takes (fun vs H0 Q E h => ?_) (fun cdv A outer s H0 vs Q E hr h => ?_)
  · obtain ⟨_, _, _, _, rfl, _⟩ := h
    rfl
  · obtain ⟨F0, a_cell, a_sign, r, rfl, hE, hm, hQ⟩ := h
    refine ⟨_, PSs.nox ((pss_cons (ps_if (pt_cmpR op_eqS (pv 0) (pe_glob (v := V.str "<any>") (by rfl) (T.k_ANY_CELL.choose_spec) ⟨_, rfl⟩) (nomark _)) (pss_one (ps_ret pe_bl)) pss_nil) (pss_cons (ps_if (pt_cmpR op_eqS (pv 0) (pe_glob (v := V.str "<digits>") (by rfl) (T.k_DIGITS_CELL.choose_spec) ⟨_, rfl⟩) (nomark _)) (pss_one (ps_ret (pe_cmpR op_inS (pv 1) (pe_glob (v := V.str "0123456789") (by rfl) (T.k_DIGIT_SIGNS.choose_spec) ⟨_, rfl⟩) rfl))) pss_nil) (pss_cons (ps_if (pt_cmpR op_eqS (pv 0) (pe_glob (v := V.str "<word>") (by rfl) (T.k_WORD_CELL.choose_spec) ⟨_, rfl⟩) (nomark _)) (pss_one (ps_ret (pe_cmpR op_inS (pv 1) (pe_glob (v := V.str "ABCDEFGHIJKLMNOPQRSTUVWXYZabcdefghijklmnopqrstuvwxyz") (by rfl) (T.k_LETTER_SIGNS.choose_spec) ⟨_, rfl⟩) rfl))) pss_nil) (pss_one (ps_ret (pe_cmpR op_eqS (pv 0) (pv 1) (nomark _)))))))), ?_⟩
    have S : Sx P0 F0 H0 F0 H0 := Sx.refl0 hE
    unfold m_takes at hm
    refine rd_seq ?_
    refine rd_ifS ?_
    refine rd_test ?_
    refine rd_op ?_
    refine rd_v rfl ?_
    refine rd_c ?_
    refine rd_S0 ?_
    refine rd_b ?_
    refine if_b hm (fun b1 hm => ?_) (fun b1 hm => ?_)
    · skip
      cases hm
      refine rd_ret ?_
      refine rd_c ?_
      exact hQ _ _ _ S rfl
    · skip
      refine rd_next ?_
      refine rd_seq ?_
      refine rd_ifS ?_
      refine rd_test ?_
      refine rd_op ?_
      refine rd_v rfl ?_
      refine rd_c ?_
      refine rd_S0 ?_
      refine rd_b ?_
      refine if_b hm (fun b2 hm => ?_) (fun b2 hm => ?_)
      · skip
        cases hm
        refine rd_ret ?_
        refine rd_op ?_
        refine rd_v rfl ?_
        refine rd_c ?_
        refine rd_inSS ?_
        exact hQ _ _ _ S rfl
      · skip
        refine rd_next ?_
        refine rd_seq ?_
        refine rd_ifS ?_
        refine rd_test ?_
        refine rd_op ?_
        refine rd_v rfl ?_
        refine rd_c ?_
        refine rd_S0 ?_
        refine rd_b ?_
        refine if_b hm (fun b3 hm => ?_) (fun b3 hm => ?_)
        · skip
          cases hm
          refine rd_ret ?_
          refine rd_op ?_
          refine rd_v rfl ?_
          refine rd_c ?_
          refine rd_inSS ?_
          exact hQ _ _ _ S rfl
        · skip
          cases hm
          refine rd_next ?_
          refine rd_ret ?_
          refine rd_op ?_
          refine rd_v rfl ?_
          refine rd_v rfl ?_
          refine rd_S0 ?_
          exact hQ _ _ _ S rfl
def sp_moved (K : PySem.W.Frag) : Sp := fun vs H Q _ => ∃ (F : Hp) (v_cells : V) (a_cells : (List Str)) (v_positions : V) (a_positions : (List Int)) (a_sign : Str) (r : (List Int)), vs = [v_cells, v_positions, (V.str (a_sign))] ∧ Same F H ∧ (qL qS).r K F v_cells a_cells ∧ (qQ qI).r K F v_positions a_positions ∧ m_moved a_cells a_positions a_sign = some r ∧ ∀ v F' H', Sx P0 F H F' H' → (qT qI).r K F' v r → Q v H'
theorem sc_moved : FnScope ["cells", "positions", "sign", "found", "at"] ["cells", "positions", "sign"] (defScope s_moved) := ⟨rfl, rfl, rfl, by decide +kernel, rfl, by decide +kernel, by decide +kernel⟩
theorem bn_moved (T : Tx K mg) : Binds K (fdOf K ("moved", none)) ["cells", "positions", "sign"] [] := FunD.bindsN T.F_moved fun _ _ _ _ _ _ us hl => match us, hl with | [_, _, _], _ => rfl
theorem ok_moved (T : Tx K mg) : FnOk P w K mg base CX0 2 (He.ga K "moved") (fdOf K ("moved", none)) ["cells", "positions", "sign"] (sp_moved K) := by
  refine FunD.ok T.F_moved sc_moved (fun vs H0 Q E h => ?_) (fun cdv A outer s H0 vs Q E hr h => ?_)
  · obtain ⟨_, _, _, _, _, _, _, rfl, _⟩ := h
    rfl
  · obtain ⟨F0, v_cells, a_cells, v_positions, a_positions, a_sign, r, rfl, hE, f_cells, f_positions, hm, hQ⟩ := h
    refine ⟨_, PSs.nox ((pss_cons (ps_set (i := 3) sc_moved.nd rfl (by first | exact Or.inl rfl | exact Or.inr rfl) (pe_lst pa_nil)) (pss_cons (ps_for PassesOwn.never rfl (pi_seq (pv 1)) (pg_name (i := 4) sc_moved.nd rfl (by first | exact Or.inl rfl | exact Or.inr rfl)) (C8.pss_cut (ps_if (PW.pt (pw_and (pt_cmpR op_lt (pv 4) (pe_callB (r := rLenQ K) cr_lenQ (by rfl) T.n_len (by decide +kernel) (pa_cons (pv 0) pa_nil)) (nomark _)) (pw_and1 (pt_val (pe_call (ok_takes T) (hr.mono (by decide)) (by rfl) T.g_takes T.F_takes.kp (bn_takes T) .nil pass0 (pa_cons (pe_ix (r := rIxL K) ix_list (pv 0) (pv 4) (fun _ _ => rfl)) (pa_cons (pv 2) pa_nil))))))) (pss_one (ps_expr (pe_bmK (K := K) PySem.F.plainAttrs_list PySem.F.slot_list_append PySem.F.type_list_append mt_append (pv 3) (pa_cons (pe_ifExp (pt_cmpR op_eqS (pe_ix (r := rIxL K) ix_list (pv 0) (pv 4) (fun _ _ => rfl)) (pe_glob (v := V.str "<any>") (by rfl) (T.k_ANY_CELL.choose_spec) ⟨_, rfl⟩) (nomark _)) (pv 4) (pe_op op_add (pv 4) pe_int)) pa_nil)))) pss_nil) (pss_one (ps_if (PW.pt (pw_and (pt_cmpR op_gt (pv 4) pe_int (nomark _)) (pw_and (pt_cmpR (r := rIn K false) op_in_seq (pe_ix (r := rIxL K) ix_list (pv 0) (pe_op op_sub (pv 4) pe_int) (fun _ _ => rfl)) (pe_tup (pa_cons (pe_glob (v := V.str "<digits>") (by rfl) (T.k_DIGITS_CELL.choose_spec) ⟨_, rfl⟩) (pa_cons (pe_glob (v := V.str "<word>") (by rfl) (T.k_WORD_CELL.choose_spec) ⟨_, rfl⟩) pa_nil))) rfl) (pw_and1 (pt_val (pe_call (ok_takes T) (hr.mono (by decide)) (by rfl) T.g_takes T.F_takes.kp (bn_takes T) .nil pass0 (pa_cons (pe_ix (r := rIxL K) ix_list (pv 0) (pe_op op_sub (pv 4) pe_int) (fun _ _ => rfl)) (pa_cons (pv 2) pa_nil)))))))) (pss_one (ps_expr (pe_bmK (K := K) PySem.F.plainAttrs_list PySem.F.slot_list_append PySem.F.type_list_append mt_append (pv 3) (pa_cons (pv 4) pa_nil)))) pss_nil)))) (pss_one (ps_ret (pe_call (ok_closed T) (hr.mono (by decide)) (by rfl) T.g_closed T.F_closed.kp (bn_closed T) .nil pass0 (pa_cons (pv 0) (pa_cons (pv 3) pa_nil)))))))), ?_⟩
    have S : Sx P0 F0 H0 F0 H0 := Sx.refl0 hE
    unfold m_moved at hm
    refine rd_seq ?_
    refine rd_asg ?_
    refine rd_lst ?_
    refine rd_nil ?_
    refine rd_lK rfl ?_
    refine al S (fun p1 H2 np3 c4 w5 => ?_)
    have z7 := S.free0 np3
    have S8 := S.call0 c4
    have f_cells := (qL qS).mono c4.le f_cells
    have f_positions := (qQ qI).mono c4.le f_positions
    refine rd_gn ?_
    refine rd_seq ?_
    refine rd_for ?_
    refine rd_wSeq S8 f_positions (by intro _ k; exact rd_v rfl k) (fun J9 n10 G11 it12 fd13 ty14 hg15 => ?_)
    have r16 : Row qI K F0 [] ([] : List Int) := .nil
    obtain ⟨t17, e18, hm⟩ := bd_some hm
    refine rd_forS fd13 ty14 e18 (fun (s19 : (List Int)) σ H => ∃ (F : Hp) (o4 : Option V) (vs0 : List V), σ = [some v_cells, some v_positions, some (V.str (a_sign)), some (V.ref p1), o4] ∧ Sx (fun a => a = p1) F0 H2 F H ∧ Ow (fun a => a = p1) H2 F H p1 (.lst vs0) ∧ Row qI K F vs0 s19) ?_ ?_ ?_ ?_
    · rintro _ _ _ ⟨_, _, _, _, S20, _, _⟩
      exact (hg15 _ _ S20.le S20.sub)
    · skip
      have S21 : Sx (fun a => a = p1) _ _ _ _ := Sx.refl S8.sub (fun a z => by rw [z, w5.at_]; exact (fun h => nomatch h))
      have w22 : Ow (fun a => a = p1) H2 _ _ _ _ := ⟨w5.fr, w5.at_, .inr (rfl)⟩
      exact ⟨F0, _, _, rfl, S21, w22, r16⟩
    · skip
      rintro x23 v24 s25 c29 σ26 H27 f28 ⟨F30, o32, v33, rfl, S31, w34, r35⟩ hm38
      have f_cells := (qL qS).mono S31.le f_cells
      have f_positions := (qQ qI).mono S31.le f_positions
      unfold m_moved_b1 at hm38
      cases (show v24 = (V.int (x23)) from f28)
      obtain ⟨t39, e40, hm38⟩ := bd_some hm38
      refine rd_gn ?_
      refine rd_cut (fun σ' H' => ∃ (F : Hp) (vs0 : List V), σ' = [some v_cells, some v_positions, some (V.str (a_sign)), some (V.ref p1), some (V.int (x23))] ∧ Sx (fun a => a = p1) F30 H27 F H' ∧ Ow (fun a => a = p1) H27 F H' p1 (.lst vs0) ∧ Row qI K F vs0 t39) ?_ ?_
      · skip
        have S41 : Sx (fun a => a = p1) _ _ _ _ := Sx.refl S31.sub (fun a z => by rw [z, w34.at_]; exact (fun h => nomatch h))
        have w42 : Ow (fun a => a = p1) H27 _ _ _ _ := ⟨w34.fr, w34.at_, .inr (rfl)⟩
        obtain ⟨t55, e56, e40⟩ := bd_some e40
        refine rd_ifS ?_
        refine rd_and ?_
        refine rd_test ?_
        refine rd_op ?_
        refine rd_v rfl ?_
        refine rd_cb ?_
        refine rd_cons ?_
        refine rd_v rfl ?_
        refine rd_nil ?_
        refine rd_lenQ (S41.l f_cells).r.q ?_
        refine rd_I0 ?_
        refine rd_b ?_
        refine and_j (fun c H' => c = t55 ∧ ∃ F', Sx P0 F30 H27 F' H') ?_ ?_ ?_
        · intro b57 Q58 q59
          have e56 := if_t e56 b57
          have S60 := Sx.refl0 S41.sub
          obtain ⟨t61, e62, e56⟩ := bd_some e56
          refine rd_tB ?_
          refine rd_call ?_
          refine rd_cons ?_
          refine rd_op ?_
          refine rd_v rfl ?_
          refine rd_v rfl ?_
          refine rd_ixL (S60.l f_cells).r e62 (fun u63 f64 => ?_)
          cases (show u63 = (V.str (t61)) from f64)
          obtain ⟨t65, e66, e56⟩ := bd_some e56
          refine rd_cons ?_
          refine rd_v rfl ?_
          refine rd_nil ?_
          refine ⟨F30, _, _, t65, rfl, S60.sub, e66, fun v70 F67 H68 c69 f71 => ?_⟩
          have S72 := S60.call0 c69
          have f_cells := (qL qS).mono c69.le f_cells
          have f_positions := (qQ qI).mono c69.le f_positions
          have r35 := Row.mono c69.le r35
          have w42 := w42.call0 c69
          cases (show v70 = (V.bl (t65)) from f71)
          cases e56
          refine rd_b ?_
          exact q59 _ _ ⟨rfl, F67, S72⟩
        · intro b57
          have e56 := if_f e56 b57
          cases e56
          have S73 := Sx.refl0 S41.sub
          exact ⟨rfl, F30, S73⟩
        rintro b77 H75 ⟨rfl, F74, c76⟩
        have S78 := S41.call0 c76
        have f_cells := (qL qS).mono c76.le f_cells
        have f_positions := (qQ qI).mono c76.le f_positions
        have r35 := Row.mono c76.le r35
        have w42 := w42.call0 c76
        refine if_b e40 (fun b79 e40 => ?_) (fun b79 e40 => ?_)
        · skip
          obtain ⟨t80, e81, e40⟩ := bd_some e40
          refine rd_drop ?_
          refine rd_bm ?_
          refine rd_v rfl ?_
          refine rd_ty w42.ty ?_
          refine rd_cons ?_
          refine rd_ifE ?_
          refine rd_test ?_
          refine rd_op ?_
          refine rd_op ?_
          refine rd_v rfl ?_
          refine rd_v rfl ?_
          refine rd_ixL (S78.l f_cells).r e81 (fun u82 f83 => ?_)
          cases (show u82 = (V.str (t80)) from f83)
          obtain ⟨t84, e85, e40⟩ := bd_some e40
          refine rd_c ?_
          refine rd_S0 ?_
          refine rd_b ?_
          refine ifE_j (fun c H' => ∃ F', c = (V.int (t84)) ∧ Sx P0 F74 H75 F' H') ?_ ?_ ?_
          · intro b86 Q87 q88
            have hm89 := if_t e85 b86
            have S90 := Sx.refl0 S78.sub
            cases hm89
            refine rd_v rfl ?_
            exact q88 _ _ ⟨F74, rfl, S90⟩
          · intro b91 Q92 q93
            have hm94 := if_f e85 b91
            have S95 := Sx.refl0 S78.sub
            cases hm94
            refine rd_op ?_
            refine rd_v rfl ?_
            refine rd_c ?_
            refine rd_I0 ?_
            exact q93 _ _ ⟨F74, rfl, S95⟩
          rintro v99 H97 ⟨F96, f100, c98⟩
          have S101 := S78.call0 c98
          have f_cells := (qL qS).mono c98.le f_cells
          have f_positions := (qQ qI).mono c98.le f_positions
          have r35 := Row.mono c98.le r35
          have w42 := w42.call0 c98
          cases (show v99 = (V.int (t84)) from f100)
          obtain ⟨g102, e40⟩ := gd_some e40
          refine rd_nil ?_
          refine ap S101 w42 r35 g102 (fun H103 c104 w105 => ?_)
          have r106 := r35.snoc (show qI.r K F96 _ t84 from rfl)
          have S107 := S101.call1 c104 w42
          have f_cells := (qL qS).mono c104.le f_cells
          have f_positions := (qQ qI).mono c104.le f_positions
          have r106 := Row.mono c104.le r106
          cases e40
          exact ⟨F96, _, rfl, S107, w105, r106⟩
        · skip
          cases e40
          refine rd_next ?_
          exact ⟨F74, _, rfl, S78, w42, r35⟩
      · skip
        rintro σ109 H108 ⟨F110, v112, rfl, S111, w113, r114⟩
        have S115 := S31.call1 S111 w34
        have f_cells := (qL qS).mono S111.le f_cells
        have f_positions := (qQ qI).mono S111.le f_positions
        have w116 : Ow (fun a => a = p1) H2 _ _ _ _ := ⟨w113.fr, w113.at_, w34.mine⟩
        obtain ⟨t163, e164, hm38⟩ := bd_some hm38
        refine rd_ifS ?_
        refine rd_and ?_
        refine rd_test ?_
        refine rd_op ?_
        refine rd_v rfl ?_
        refine rd_c ?_
        refine rd_I0 ?_
        refine rd_b ?_
        refine and_j (fun c H' => c = t163 ∧ ∃ F', Sx P0 F110 H108 F' H') ?_ ?_ ?_
        · intro b165 Q166 q167
          have e164 := if_t e164 b165
          have S168 := Sx.refl0 S115.sub
          obtain ⟨t169, e170, e164⟩ := bd_some e164
          refine rd_and ?_
          refine rd_test ?_
          refine rd_op ?_
          refine rd_op ?_
          refine rd_v rfl ?_
          refine rd_op ?_
          refine rd_v rfl ?_
          refine rd_c ?_
          refine rd_I0 ?_
          refine rd_ixL (S168.l f_cells).r e170 (fun u171 f172 => ?_)
          cases (show u171 = (V.str (t169)) from f172)
          refine rd_tup ?_
          refine rd_cons ?_
          refine rd_c ?_
          refine rd_cons ?_
          refine rd_c ?_
          refine rd_nil ?_
          refine rd_uK rfl ?_
          refine alT (K := K) (A := qS) (xs := [("<digits>" : Str), ("<word>" : Str)]) S168 (.cons rfl (.cons rfl .nil)) (fun v173 F174 H175 c176 f177 => ?_)
          have S178 := S168.call0 c176
          have f_cells := (qL qS).mono c176.le f_cells
          have f_positions := (qQ qI).mono c176.le f_positions
          have r114 := Row.mono c176.le r114
          have w116 := w116.call0 c176
          obtain ⟨t191, e192, e164⟩ := bd_some e164
          refine rd_inS (S178.t f177).q ?_
          refine rd_b ?_
          refine and_j (fun c H' => c = t191 ∧ ∃ F', Sx P0 F174 H175 F' H') ?_ ?_ ?_
          · intro b193 Q194 q195
            have e192 := if_t e192 b193
            have S196 := Sx.refl0 S178.sub
            obtain ⟨t197, e198, e192⟩ := bd_some e192
            refine rd_tB ?_
            refine rd_call ?_
            refine rd_cons ?_
            refine rd_op ?_
            refine rd_v rfl ?_
            refine rd_op ?_
            refine rd_v rfl ?_
            refine rd_c ?_
            refine rd_I0 ?_
            refine rd_ixL (S196.l f_cells).r e198 (fun u199 f200 => ?_)
            cases (show u199 = (V.str (t197)) from f200)
            obtain ⟨t201, e202, e192⟩ := bd_some e192
            refine rd_cons ?_
            refine rd_v rfl ?_
            refine rd_nil ?_
            refine ⟨F174, _, _, t201, rfl, S196.sub, e202, fun v206 F203 H204 c205 f207 => ?_⟩
            have S208 := S196.call0 c205
            have f_cells := (qL qS).mono c205.le f_cells
            have f_positions := (qQ qI).mono c205.le f_positions
            have r114 := Row.mono c205.le r114
            have w116 := w116.call0 c205
            cases (show v206 = (V.bl (t201)) from f207)
            cases e192
            refine rd_b ?_
            exact q195 _ _ ⟨rfl, F203, S208⟩
          · intro b193
            have e192 := if_f e192 b193
            cases e192
            have S209 := Sx.refl0 S178.sub
            exact ⟨rfl, F174, S209⟩
          rintro b213 H211 ⟨rfl, F210, c212⟩
          have S214 := S178.call0 c212
          have f_cells := (qL qS).mono c212.le f_cells
          have f_positions := (qQ qI).mono c212.le f_positions
          have r114 := Row.mono c212.le r114
          have w116 := w116.call0 c212
          cases e164
          exact q167 _ _ ⟨rfl, F210, S214⟩
        · intro b165
          have e164 := if_f e164 b165
          cases e164
          have S215 := Sx.refl0 S115.sub
          exact ⟨rfl, F110, S215⟩
        rintro b219 H217 ⟨rfl, F216, c218⟩
        have S220 := S115.call0 c218
        have f_cells := (qL qS).mono c218.le f_cells
        have f_positions := (qQ qI).mono c218.le f_positions
        have r114 := Row.mono c218.le r114
        have w116 := w116.call0 c218
        refine if_b hm38 (fun b221 hm38 => ?_) (fun b221 hm38 => ?_)
        · skip
          obtain ⟨g222, hm38⟩ := gd_some hm38
          refine rd_drop ?_
          refine rd_bm ?_
          refine rd_v rfl ?_
          refine rd_ty w116.ty ?_
          refine rd_cons ?_
          refine rd_v rfl ?_
          refine rd_nil ?_
          refine ap S220 w116 r114 g222 (fun H223 c224 w225 => ?_)
          have r226 := r114.snoc (show qI.r K F216 _ x23 from rfl)
          have S227 := S220.call1 c224 w116
          have f_cells := (qL qS).mono c224.le f_cells
          have f_positions := (qQ qI).mono c224.le f_positions
          have r226 := Row.mono c224.le r226
          cases hm38
          exact ⟨F216, _, _, rfl, S227, w225, r226⟩
        · skip
          cases hm38
          refine rd_next ?_
          exact ⟨F216, _, _, rfl, S220, w116, r114⟩
    · skip
      rintro σ228 H229 ⟨F230, o232, v233, rfl, S231, w234, r235⟩
      have S236 := S8.call1 S231 w5
      have f_cells := (qL qS).mono S231.le f_cells
      have f_positions := (qQ qI).mono S231.le f_positions
      have w237 : Ow P0 H0 _ _ _ _ := ⟨w234.fr, w234.at_, w5.mine⟩
      obtain ⟨F238, S239, le240, f241, _, eq242⟩ := fz S236 w237 z7 r235
      have f_cells := (qL qS).mono le240 f_cells
      have f_positions := (qQ qI).mono le240 f_positions
      have f243 : (qQ qI).r K F238 (V.ref p1) t17 := (.inl f241)
      obtain ⟨t244, e245, hm⟩ := bd_some hm
      refine rd_ret ?_
      refine rd_call ?_
      refine rd_cons ?_
      refine rd_v rfl ?_
      refine rd_cons ?_
      refine rd_v rfl ?_
      refine rd_nil ?_
      refine ⟨F238, _, _, _, _, t244, rfl, S239.sub, f_cells, f243, e245, fun v249 F246 H247 c248 f250 => ?_⟩
      have S251 := S239.call0 c248
      have f_cells := (qL qS).mono c248.le f_cells
      have f_positions := (qQ qI).mono c248.le f_positions
      have f241 := (qL qI).mono c248.le f241
      cases hm
      exact hQ _ _ _ S251 f250
def sp_is_done (K : PySem.W.Frag) : Sp := fun vs H Q _ => ∃ (F : Hp) (v_cells : V) (a_cells : (List Str)) (v_positions : V) (a_positions : (List Int)) (r : Bool), vs = [v_cells, v_positions] ∧ Same F H ∧ (qL qS).r K F v_cells a_cells ∧ (qQ qI).r K F v_positions a_positions ∧ m_is_done a_cells a_positions = some r ∧ ∀ v F' H', Sx P0 F H F' H' → qB.r K F' v r → Q v H'
theorem sc_is_done : FnScope ["cells", "positions"] ["cells", "positions"] (defScope s_is_done) := ⟨rfl, rfl, rfl, by decide +kernel, rfl, by decide +kernel, by decide +kernel⟩
theorem bn_is_done (T : Tx K mg) : Binds K (fdOf K ("is_done", none)) ["cells", "positions"] [] := FunD.bindsN T.F_is_done fun _ _ _ _ _ _ us hl => match us, hl with | [_, _], _ => rfl
theorem ok_is_done (T : Tx K mg) : FnOk P w K mg base CX0 1 (He.ga K "is_done") (fdOf K ("is_done", none)) ["cells", "positions"] (sp_is_done K) := by
  refine FunD.ok T.F_is_done sc_is_done (fun vs H0 Q E h => ?_) (fun cdv A outer s H0 vs Q E hr h => ?_)
  · obtain ⟨_, _, _, _, _, _, rfl, _⟩ := h
    rfl
  · obtain ⟨F0, v_cells, a_cells, v_positions, a_positions, r, rfl, hE, f_cells, f_positions, hm, hQ⟩ := h
    refine ⟨_, PSs.nox ((pss_one (ps_ret (pe_cmpR (r := rIn K false) op_in_seq (pe_callB (r := rLenQ K) cr_lenQ (by rfl) T.n_len (by decide +kernel) (pa_cons (pv 0) pa_nil)) (pv 1) rfl)))), ?_⟩
    have S : Sx P0 F0 H0 F0 H0 := Sx.refl0 hE
    unfold m_is_done at hm
    cases hm
    refine rd_ret ?_
    refine rd_op ?_
    refine rd_cb ?_
    refine rd_cons ?_
    refine rd_v rfl ?_
    refine rd_nil ?_
    refine rd_lenQ (S.l f_cells).r.q ?_
    refine rd_v rfl ?_
    refine rd_inI (S.q f_positions) ?_
    exact hQ _ _ _ S rfl
def sp_pat___contains__ (x : Str) (K : PySem.W.Frag) : Sp := fun vs H Q _ => ∃ (F : Hp) (v_self : V) (a_self : Pat) (a_line : Str) (r : Bool), vs = [v_self, (V.str (a_line))] ∧ Same F H ∧ qPat.r K F v_self a_self ∧ a_self.cls = x ∧ m_pat___contains__ a_self a_line = some r ∧ ∀ v F' H', Sx P0 F H F' H' → qB.r K F' v r → Q v H'
theorem sc_pat___contains__ : FnScope ["self", "line", "truths", "form", "cells", "positions", "sign"] ["self", "line"] (defScope s_pat___contains__) := ⟨rfl, rfl, rfl, by decide +kernel, rfl, by decide +kernel, by decide +kernel⟩
theorem bn_pat___contains__ {x : Str} (F : FnD' K (x, some "__contains__") "__contains__" "Pattern.__contains__" s_pat___contains__) : Binds K (fdOf K (x, some "__contains__")) ["self", "line"] [] := FunD.bindsN F fun _ _ _ _ _ _ us hl => match us, hl with | [_, _], _ => rfl
theorem ok_pat___contains__ (T : Tx K mg) {x : Str} (F : FnD' K (x, some "__contains__") "__contains__" "Pattern.__contains__" s_pat___contains__) : FnOk P w K mg base CX0 5 (He.fAd K (x, some "__contains__")) (fdOf K (x, some "__contains__")) ["self", "line"] (sp_pat___contains__ x K) := by
  refine FunD.ok F sc_pat___contains__ (fun vs H0 Q E h => ?_) (fun cdv A outer s H0 vs Q E hr h => ?_)
  · obtain ⟨_, _, _, _, _, rfl, _⟩ := h
    rfl
  · obtain ⟨F0, v_self, a_self, a_line, r, rfl, hE, f_self, hcls, hm, hQ⟩ := h
    refine ⟨_, PSs.nox ((pss_cons (ps_if (pt_not (pt_val (pe_call (ok_is_line T) (hr.mono (by decide)) (by rfl) T.g_is_line T.F_is_line.kp (bn_is_line T) .nil pass0 (pa_cons (pv 1) pa_nil)))) (pss_one (ps_ret pe_bl)) pss_nil) (pss_cons (ps_set (i := 2) sc_pat___contains__.nd rfl (by first | exact Or.inl rfl | exact Or.inr rfl) (pe_lst pa_nil)) (pss_cons (ps_for PassesOwn.never rfl (pi_listK (pe_methV0 (E := E0) (pv 0))) (pg_name (i := 3) sc_pat___contains__.nd rfl (by first | exact Or.inl rfl | exact Or.inr rfl)) (pss_cons (ps_set (i := 4) sc_pat___contains__.nd rfl (by first | exact Or.inl rfl | exact Or.inr rfl) (pe_call (ok_cells_of T) (hr.mono (by decide)) (by rfl) T.g_cells_of T.F_cells_of.kp (bn_cells_of T) .nil pass0 (pa_cons (pe_meth0 (pv 3) T.c_Form T.me_Form_parts (ok_Form_parts T) (hr.mono (by decide)) (bn_Form_parts T) .nil pass0) pa_nil))) (pss_cons (ps_set (i := 5) sc_pat___contains__.nd rfl (by first | exact Or.inl rfl | exact Or.inr rfl) (pe_call (ok_started T) (hr.mono (by decide)) (by rfl) T.g_started T.F_started.kp (bn_started T) .nil pass0 (pa_cons (pv 4) pa_nil))) (pss_cons (ps_for PassesOwn.never rfl (pi_str (pv 1)) (pg_name (i := 6) sc_pat___contains__.nd rfl (by first | exact Or.inl rfl | exact Or.inr rfl)) (pss_one (ps_set (i := 5) sc_pat___contains__.nd rfl (by first | exact Or.inl rfl | exact Or.inr rfl) (pe_call (ok_moved T) (hr.mono (by decide)) (by rfl) T.g_moved T.F_moved.kp (bn_moved T) .nil pass0 (pa_cons (pv 4) (pa_cons (pv 5) (pa_cons (pv 6) pa_nil))))))) (pss_one (ps_expr (pe_bmK (K := K) PySem.F.plainAttrs_list PySem.F.slot_list_append PySem.F.type_list_append mt_append (pv 2) (pa_cons (pe_call (ok_is_done T) (hr.mono (by decide)) (by rfl) T.g_is_done T.F_is_done.kp (bn_is_done T) .nil pass0 (pa_cons (pv 4) (pa_cons (pv 5) pa_nil))) pa_nil)))))))) (pss_one (ps_ret (pe_methV (E := E0) (pv 0) (pa_cons (pv 2) pa_nil)))))))), ?_⟩
    have S : Sx P0 F0 H0 F0 H0 := Sx.refl0 hE
    unfold m_pat___contains__ at hm
    have f1 : qTh.r K F0 (V.str (a_line)) (Th.d (PyData.str (a_line))) := (show qTh.r K F0 _ (Th.d (PyData.str (a_line))) from Dp.str _)
    obtain ⟨t2, e3, hm⟩ := bd_some hm
    refine rd_seq ?_
    refine rd_ifS ?_
    refine rd_not ?_
    refine rd_tB ?_
    refine rd_call ?_
    refine rd_cons ?_
    refine rd_v rfl ?_
    refine rd_nil ?_
    refine ⟨F0, _, _, t2, rfl, S.sub, f1, e3, fun v7 F4 H5 c6 f8 => ?_⟩
    have S9 := S.call0 c6
    have f_self := qPat.mono c6.le f_self
    cases (show v7 = (V.bl (t2)) from f8)
    refine rd_b ?_
    refine if_b hm (fun b10 hm => ?_) (fun b10 hm => ?_)
    · skip
      cases hm
      refine rd_ret ?_
      refine rd_c ?_
      exact hQ _ _ _ S9 rfl
    · skip
      refine rd_next ?_
      refine rd_seq ?_
      refine rd_asg ?_
      refine rd_lst ?_
      refine rd_nil ?_
      refine rd_lK rfl ?_
      refine al S9 (fun p11 H12 np13 c14 w15 => ?_)
      have r16 : Row qB K F4 [] ([] : List Bool) := .nil
      have z17 := S9.free0 np13
      have S18 := S9.call0 c14
      have f_self := qPat.mono c14.le f_self
      refine rd_gn ?_
      refine rd_seq ?_
      refine rd_for ?_
      refine rd_iL ?_
      refine rd_methV ?_
      refine rd_v rfl ?_
      refine VM.call (vm_forms T 3) (hr.mono (by decide)) S18 f_self ?_
      obtain ⟨t19, e20, hm⟩ := bd_some hm
      refine rd_nil ?_
      refine ⟨F4, _, _, t19, rfl, S18.sub, f_self, rfl, e20, fun v24 F21 H22 c23 f25 => ?_⟩
      have S26 := S18.call0 c23
      have f_self := qPat.mono c23.le f_self
      have r16 := Row.mono c23.le r16
      have w15 := w15.call0 c23
      refine rd_wLF S26 (f25) (fun p27 vs28 hq29 row30 => ?_)
      obtain ⟨t31, e32, hm⟩ := bd_some hm
      refine rd_forS feedsL (typedRow row30) e32 (fun (s33 : (List Bool)) σ H => ∃ (F : Hp) (o3 : Option V) (o4 : Option V) (o5 : Option V) (o6 : Option V) (vs0 : List V), σ = [some v_self, some (V.str (a_line)), some (V.ref p11), o3, o4, o5, o6] ∧ Sx (fun a => a = p11) F21 H22 F H ∧ Ow (fun a => a = p11) H22 F H p11 (.lst vs0) ∧ Row qB K F vs0 s33) ?_ ?_ ?_ ?_
      · rintro _ _ _ ⟨_, _, _, _, _, _, _, S34, _, _⟩
        exact (Same.seq S34.sub (Same.seq S34.le hq29))
      · skip
        have S35 : Sx (fun a => a = p11) _ _ _ _ := Sx.refl S26.sub (fun a z => by rw [z, w15.at_]; exact (fun h => nomatch h))
        have w36 : Ow (fun a => a = p11) H22 _ _ _ _ := ⟨w15.fr, w15.at_, .inr (rfl)⟩
        exact ⟨F21, _, _, _, _, _, rfl, S35, w36, r16⟩
      · skip
        rintro x37 v38 s39 c43 σ40 H41 f42 ⟨F44, o46, o47, o48, o49, v50, rfl, S45, w51, r52⟩ hm55
        have f_self := qPat.mono S45.le f_self
        unfold m_pat___contains___b2 at hm55
        have f42 := qForm.mono S45.le f42
        refine rd_gn ?_
        refine rd_seq ?_
        refine rd_asg ?_
        refine rd_call ?_
        refine rd_cons ?_
        refine rd_meth ?_
        refine rd_v rfl ?_
        refine mt_Form_parts S45 f42 ?_
        obtain ⟨t56, e57, hm55⟩ := bd_some hm55
        refine rd_nil ?_
        refine ⟨F44, _, _, t56, rfl, S45.sub, f42, e57, fun v61 F58 H59 c60 f62 => ?_⟩
        have S63 := S45.call0 c60
        have f_self := qPat.mono c60.le f_self
        have f42 := qForm.mono c60.le f42
        have r52 := Row.mono c60.le r52
        have w51 := w51.call0 c60
        have f64 : (qQ qS).r K F58 v61 t56 := (.inr f62)
        obtain ⟨t65, e66, hm55⟩ := bd_some hm55
        refine rd_nil ?_
        refine ⟨F58, _, _, t65, rfl, S63.sub, f64, e66, fun v70 F67 H68 c69 f71 => ?_⟩
        have S72 := S63.call0 c69
        have f_self := qPat.mono c69.le f_self
        have f42 := qForm.mono c69.le f42
        have r52 := Row.mono c69.le r52
        have w51 := w51.call0 c69
        obtain ⟨t73, e74, hm55⟩ := bd_some hm55
        refine rd_gn ?_
        refine rd_seq ?_
        refine rd_asg ?_
        refine rd_call ?_
        refine rd_cons ?_
        refine rd_v rfl ?_
        refine rd_nil ?_
        refine ⟨F67, _, _, t73, rfl, S72.sub, f71, e74, fun v78 F75 H76 c77 f79 => ?_⟩
        have S80 := S72.call0 c77
        have f_self := qPat.mono c77.le f_self
        have f71 := (qL qS).mono c77.le f71
        have f42 := qForm.mono c77.le f42
        have r52 := Row.mono c77.le r52
        have w51 := w51.call0 c77
        refine rd_gn ?_
        refine rd_seq ?_
        refine rd_for ?_
        refine rd_iS ?_
        refine rd_v rfl ?_
        refine rd_wS ?_
        obtain ⟨t81, e82, hm55⟩ := bd_some hm55
        refine rd_forS feedsS (typedS (K := K) (F := F75)) e82 (fun (s83 : (List Int)) σ H => ∃ (F : Hp) (x0 : V) (o6 : Option V), σ = [some v_self, some (V.str (a_line)), some (V.ref p11), some v38, some v70, some x0, o6] ∧ Sx P0 F75 H76 F H ∧ (qT qI).r K F x0 s83) ?_ ?_ ?_ ?_
        · intro _ _ _ _; trivial
        · skip
          have S85 := Sx.refl0 S80.sub
          exact ⟨F75, _, _, rfl, S85, f79⟩
        · skip
          rintro x86 v87 s88 c92 σ89 H90 f91 ⟨F93, x95, o96, rfl, S94, f97⟩ hm100
          have f_self := qPat.mono S94.le f_self
          have f71 := (qL qS).mono S94.le f71
          have f42 := qForm.mono S94.le f42
          have r52 := Row.mono S94.le r52
          have w51 := w51.call0 S94
          unfold m_pat___contains___b1 at hm100
          cases (show v87 = (V.str (x86)) from f91)
          have f101 : (qQ qI).r K F93 x95 s88 := (.inr f97)
          obtain ⟨t102, e103, hm100⟩ := bd_some hm100
          refine rd_gn ?_
          refine rd_asg ?_
          refine rd_call ?_
          refine rd_cons ?_
          refine rd_v rfl ?_
          refine rd_cons ?_
          refine rd_v rfl ?_
          refine rd_cons ?_
          refine rd_v rfl ?_
          refine rd_nil ?_
          refine ⟨F93, _, _, _, _, _, t102, rfl, S94.sub, f71, f101, e103, fun v107 F104 H105 c106 f108 => ?_⟩
          have S109 := S94.call0 c106
          have f_self := qPat.mono c106.le f_self
          have f71 := (qL qS).mono c106.le f71
          have f97 := (qT qI).mono c106.le f97
          have f42 := qForm.mono c106.le f42
          have r52 := Row.mono c106.le r52
          have w51 := w51.call0 c106
          cases hm100
          refine rd_gn ?_
          exact ⟨F104, _, _, rfl, S109, f108⟩
        · skip
          rintro σ110 H111 ⟨F112, x114, o115, rfl, S113, f116⟩
          have S117 := S80.call0 S113
          have f_self := qPat.mono S113.le f_self
          have f71 := (qL qS).mono S113.le f71
          have f42 := qForm.mono S113.le f42
          have r52 := Row.mono S113.le r52
          have w51 := w51.call0 S113
          have f118 : (qQ qI).r K F112 x114 t81 := (.inr f116)
          obtain ⟨t119, e120, hm55⟩ := bd_some hm55
          refine rd_drop ?_
          refine rd_bm ?_
          refine rd_v rfl ?_
          refine rd_ty w51.ty ?_
          refine rd_cons ?_
          refine rd_call ?_
          refine rd_cons ?_
          refine rd_v rfl ?_
          refine rd_cons ?_
          refine rd_v rfl ?_
          refine rd_nil ?_
          refine ⟨F112, _, _, _, _, t119, rfl, S117.sub, f71, f118, e120, fun v124 F121 H122 c123 f125 => ?_⟩
          have S126 := S117.call0 c123
          have f_self := qPat.mono c123.le f_self
          have f71 := (qL qS).mono c123.le f71
          have f116 := (qT qI).mono c123.le f116
          have f42 := qForm.mono c123.le f42
          have r52 := Row.mono c123.le r52
          have w51 := w51.call0 c123
          cases (show v124 = (V.bl (t119)) from f125)
          obtain ⟨g127, hm55⟩ := gd_some hm55
          refine rd_nil ?_
          refine ap S126 w51 r52 g127 (fun H128 c129 w130 => ?_)
          have r131 := r52.snoc (show qB.r K F121 _ t119 from rfl)
          have S132 := S126.call1 c129 w51
          have f_self := qPat.mono c129.le f_self
          have f71 := (qL qS).mono c129.le f71
          have f116 := (qT qI).mono c129.le f116
          have f42 := qForm.mono c129.le f42
          have r131 := Row.mono c129.le r131
          cases hm55
          exact ⟨F121, _, _, _, _, _, rfl, S132, w130, r131⟩
      · skip
        rintro σ133 H134 ⟨F135, o137, o138, o139, o140, v141, rfl, S136, w142, r143⟩
        have S144 := S26.call1 S136 w15
        have f_self := qPat.mono S136.le f_self
        have w145 : Ow P0 H0 _ _ _ _ := ⟨w142.fr, w142.at_, w15.mine⟩
        refine rd_ret ?_
        refine rd_methV ?_
        refine rd_v rfl ?_
        refine VM.call (vm_holds T 3) (hr.mono (by decide)) S144 f_self ?_
        obtain ⟨F146, S147, le148, f149, _, eq150⟩ := fz S144 w145 z17 r143
        have f_self := qPat.mono le148 f_self
        obtain ⟨t151, e152, hm⟩ := bd_some hm
        refine rd_cons ?_
        refine rd_v rfl ?_
        refine rd_nil ?_
        refine ⟨F146, _, _, _, _, t151, rfl, S147.sub, f_self, rfl, f149, e152, fun v156 F153 H154 c155 f157 => ?_⟩
        have S158 := S147.call0 c155
        have f_self := qPat.mono c155.le f_self
        have f149 := (qL qB).mono c155.le f149
        cases (show v156 = (V.bl (t151)) from f157)
        cases hm
        exact hQ _ _ _ S158 rfl
theorem vm_contains (T : Tx K mg) : VM P w K mg base 5 "__contains__" ["self", "line"] (fun x => sp_pat___contains__ x K) := ⟨fun x hx => by
  rcases hx with rfl | rfl | rfl
  · exact ⟨T.c_Form, T.me_Form___contains__, ok_pat___contains__ T T.F_Form___contains__, bn_pat___contains__ T.F_Form___contains__⟩
  · exact ⟨T.c_Both, T.me_Both___contains__, ok_pat___contains__ T T.F_Both___contains__, bn_pat___contains__ T.F_Both___contains__⟩
  · exact ⟨T.c_Either, T.me_Either___contains__, ok_pat___contains__ T T.F_Either___contains__, bn_pat___contains__ T.F_Either___contains__⟩⟩
def sp_Rule_begins_on (K : PySem.W.Frag) : Sp := fun vs H Q _ => ∃ (F : Hp) (v_self : V) (a_self : (List Pat × List Pat × List (Str × Th))) (a_line : Str) (r : Bool), vs = [v_self, (V.str (a_line))] ∧ Same F H ∧ qRule.r K F v_self a_self ∧ m_Rule_begins_on a_self a_line = some r ∧ ∀ v F' H', Sx P0 F H F' H' → qB.r K F' v r → Q v H'
theorem sc_Rule_begins_on : FnScope ["self", "line", "mark"] ["self", "line"] (defScope s_Rule_begins_on) := ⟨rfl, rfl, rfl, by decide +kernel, rfl, by decide +kernel, by decide +kernel⟩
theorem bn_Rule_begins_on (T : Tx K mg) : Binds K (fdOf K ("Rule", some "begins_on")) ["self", "line"] [] := FunD.bindsN T.F_Rule_begins_on fun _ _ _ _ _ _ us hl => match us, hl with | [_, _], _ => rfl
theorem ok_Rule_begins_on (T : Tx K mg) : FnOk P w K mg base CX0 6 (He.fAd K ("Rule", some "begins_on")) (fdOf K ("Rule", some "begins_on")) ["self", "line"] (sp_Rule_begins_on K) := by
  refine FunD.ok T.F_Rule_begins_on sc_Rule_begins_on (fun vs H0 Q E h => ?_) (fun cdv A outer s H0 vs Q E hr h => ?_)
  · obtain ⟨_, _, _, _, _, rfl, _⟩ := h
    rfl
  · obtain ⟨F0, v_self, a_self, a_line, r, rfl, hE, f_self, hm, hQ⟩ := h
    refine ⟨_, PSs.nox ((pss_one (ps_ret (pe_callB (r := rAnyK K) (cr_anyK rfl) (by rfl) T.n_any (by decide +kernel) (pa_cons (pe_lc (own := [("mark", 2)]) (tt := tYes) rfl sc_Rule_begins_on.nd (pi_listK (pe_fldK (pv 0) rfl)) (blkOk_by (N := ["self", "line", "mark"]) (sc := defScope s_Rule_begins_on) (by decide +kernel)) (fun _ _ _ _ _ => pg_name (i := 2) sc_Rule_begins_on.nd rfl (Or.inl rfl)) (fun _ _ _ _ _ => pts_nil) (fun _ _ _ _ _ => (pe_cmpR (r := rInW P w K mg base 5 false) (op_inW (hr.mono (by decide))) (pv 1) (pv 2) rfl))) pa_nil))))), ?_⟩
    have S : Sx P0 F0 H0 F0 H0 := Sx.refl0 hE
    unfold m_Rule_begins_on at hm
    refine rd_ret ?_
    refine rd_cb ?_
    refine rd_cons ?_
    refine rd_lc ?_
    refine rd_iL ?_
    refine rd_fld ?_
    refine rd_v rfl ?_
    refine fld_Rule_openers T S f_self (fun u1 f2 => ?_)
    refine rd_wLF S (f2) (fun p3 vs4 hq5 row6 => ?_)
    obtain ⟨g7, hm⟩ := gd_some hm
    obtain ⟨t8, e9, hm⟩ := bd_some hm
    refine rd_comp (B := qB) feedsL (typedRow row6) e9 g7 (Pc := P0) (fun _ z => z.elim) S.sub (fun (s10 : Unit) F H => True) ?_ ?_ ?_ ?_ ?_ ?_
    · intro _ _ _ S11 _
      exact (Same.seq S11.sub (Same.seq S11.le hq5))
    · trivial
    · intros; trivial
    · intros; trivial
    · skip
      intro x12 v13 s14 o15 F16 H17 d18 acc19 f20 S21 w22 w23 n24 hm25 E26 N27 hN28 hE29
      have f_self := qRule.mono S21.le f_self
      have S30 := Sx.refl0 S21.sub
      unfold m_Rule_begins_on_b1 at hm25
      have f20 := qPat.mono S21.le f20
      refine rd_gn ?_
      refine rd_wp rfl ?_
      refine rd_yes ?_
      refine if_tt ?_
      refine rd_op ?_
      refine rd_v rfl ?_
      refine rd_v rfl ?_
      refine VM.inW (vm_contains T) S30 f20 ?_
      obtain ⟨t31, e32, hm25⟩ := bd_some hm25
      refine ⟨F16, _, _, _, t31, rfl, S30.sub, f20, rfl, e32, fun v36 F33 H34 c35 f37 => ?_⟩
      have S38 := S30.call0 c35
      have f_self := qRule.mono c35.le f_self
      have f20 := qPat.mono c35.le f20
      cases (show v36 = (V.bl (t31)) from f37)
      cases hm25
      refine rd_inWf ?_
      exact hN28 _ _ _ _ rfl S38 rfl trivial
    intro p39 us40 F41 H42 n43 c44 w45 w46 r47
    have z48 := S.free0 n43
    have S49 := S.call0 c44
    have f_self := qRule.mono c44.le f_self
    have w50 : Ow P0 H0 _ _ _ _ := ⟨w46.fr, w46.at_, .inl z48⟩
    obtain ⟨F51, S52, le53, f54, _, eq55⟩ := fz S49 w50 z48 r47
    have f_self := qRule.mono le53 f_self
    cases hm
    refine rd_nil ?_
    refine rd_any (S52.l f54).r ?_
    exact hQ _ _ _ S52 rfl
def sp_Rule_ends_on (K : PySem.W.Frag) : Sp := fun vs H Q _ => ∃ (F : Hp) (v_self : V) (a_self : (List Pat × List Pat × List (Str × Th))) (a_line : Str) (r : Bool), vs = [v_self, (V.str (a_line))] ∧ Same F H ∧ qRule.r K F v_self a_self ∧ m_Rule_ends_on a_self a_line = some r ∧ ∀ v F' H', Sx P0 F H F' H' → qB.r K F' v r → Q v H'
theorem sc_Rule_ends_on : FnScope ["self", "line", "mark"] ["self", "line"] (defScope s_Rule_ends_on) := ⟨rfl, rfl, rfl, by decide +kernel, rfl, by decide +kernel, by decide +kernel⟩
theorem bn_Rule_ends_on (T : Tx K mg) : Binds K (fdOf K ("Rule", some "ends_on")) ["self", "line"] [] := FunD.bindsN T.F_Rule_ends_on fun _ _ _ _ _ _ us hl => match us, hl with | [_, _], _ => rfl
theorem ok_Rule_ends_on (T : Tx K mg) : FnOk P w K mg base CX0 6 (He.fAd K ("Rule", some "ends_on")) (fdOf K ("Rule", some "ends_on")) ["self", "line"] (sp_Rule_ends_on K) := by
  refine FunD.ok T.F_Rule_ends_on sc_Rule_ends_on (fun vs H0 Q E h => ?_) (fun cdv A outer s H0 vs Q E hr h => ?_)
  · obtain ⟨_, _, _, _, _, rfl, _⟩ := h
    rfl
  · obtain ⟨F0, v_self, a_self, a_line, r, rfl, hE, f_self, hm, hQ⟩ := h
    refine ⟨_, PSs.nox ((pss_one (ps_ret (pe_callB (r := rAnyK K) (cr_anyK rfl) (by rfl) T.n_any (by decide +kernel) (pa_cons (pe_lc (own := [("mark", 2)]) (tt := tYes) rfl sc_Rule_ends_on.nd (pi_listK (pe_fldK (pv 0) rfl)) (blkOk_by (N := ["self", "line", "mark"]) (sc := defScope s_Rule_ends_on) (by decide +kernel)) (fun _ _ _ _ _ => pg_name (i := 2) sc_Rule_ends_on.nd rfl (Or.inl rfl)) (fun _ _ _ _ _ => pts_nil) (fun _ _ _ _ _ => (pe_cmpR (r := rInW P w K mg base 5 false) (op_inW (hr.mono (by decide))) (pv 1) (pv 2) rfl))) pa_nil))))), ?_⟩
    have S : Sx P0 F0 H0 F0 H0 := Sx.refl0 hE
    unfold m_Rule_ends_on at hm
    refine rd_ret ?_
    refine rd_cb ?_
    refine rd_cons ?_
    refine rd_lc ?_
    refine rd_iL ?_
    refine rd_fld ?_
    refine rd_v rfl ?_
    refine fld_Rule_closers T S f_self (fun u1 f2 => ?_)
    refine rd_wLF S (f2) (fun p3 vs4 hq5 row6 => ?_)
    obtain ⟨g7, hm⟩ := gd_some hm
    obtain ⟨t8, e9, hm⟩ := bd_some hm
    refine rd_comp (B := qB) feedsL (typedRow row6) e9 g7 (Pc := P0) (fun _ z => z.elim) S.sub (fun (s10 : Unit) F H => True) ?_ ?_ ?_ ?_ ?_ ?_
    · intro _ _ _ S11 _
      exact (Same.seq S11.sub (Same.seq S11.le hq5))
    · trivial
    · intros; trivial
    · intros; trivial
    · skip
      intro x12 v13 s14 o15 F16 H17 d18 acc19 f20 S21 w22 w23 n24 hm25 E26 N27 hN28 hE29
      have f_self := qRule.mono S21.le f_self
      have S30 := Sx.refl0 S21.sub
      unfold m_Rule_ends_on_b1 at hm25
      have f20 := qPat.mono S21.le f20
      refine rd_gn ?_
      refine rd_wp rfl ?_
      refine rd_yes ?_
      refine if_tt ?_
      refine rd_op ?_
      refine rd_v rfl ?_
      refine rd_v rfl ?_
      refine VM.inW (vm_contains T) S30 f20 ?_
      obtain ⟨t31, e32, hm25⟩ := bd_some hm25
      refine ⟨F16, _, _, _, t31, rfl, S30.sub, f20, rfl, e32, fun v36 F33 H34 c35 f37 => ?_⟩
      have S38 := S30.call0 c35
      have f_self := qRule.mono c35.le f_self
      have f20 := qPat.mono c35.le f20
      cases (show v36 = (V.bl (t31)) from f37)
      cases hm25
      refine rd_inWf ?_
      exact hN28 _ _ _ _ rfl S38 rfl trivial
    intro p39 us40 F41 H42 n43 c44 w45 w46 r47
    have z48 := S.free0 n43
    have S49 := S.call0 c44
    have f_self := qRule.mono c44.le f_self
    have w50 : Ow P0 H0 _ _ _ _ := ⟨w46.fr, w46.at_, .inl z48⟩
    obtain ⟨F51, S52, le53, f54, _, eq55⟩ := fz S49 w50 z48 r47
    have f_self := qRule.mono le53 f_self
    cases hm
    refine rd_nil ?_
    refine rd_any (S52.l f54).r ?_
    exact hQ _ _ _ S52 rfl
def sp_Rule_most (K : PySem.W.Frag) : Sp := fun vs H Q _ => ∃ (F : Hp) (v_self : V) (a_self : (List Pat × List Pat × List (Str × Th))) (r : (Option Int)), vs = [v_self] ∧ Same F H ∧ qRule.r K F v_self a_self ∧ m_Rule_most a_self = some r ∧ ∀ v F' H', Sx P0 F H F' H' → (qO qI).r K F' v r → Q v H'
theorem sc_Rule_most : FnScope ["self"] ["self"] (defScope s_Rule_most) := ⟨rfl, rfl, rfl, by decide +kernel, rfl, by decide +kernel, by decide +kernel⟩
theorem bn_Rule_most (T : Tx K mg) : Binds K (fdG K "Rule" "most") ["self"] [] := FunD.bindsN T.pr_Rule_most.F fun _ _ _ _ _ _ us hl => match us, hl with | [_], _ => rfl
theorem ok_Rule_most (T : Tx K mg) : FnOk P w K mg base CX0 1 (geA K "Rule" "most") (fdG K "Rule" "most") ["self"] (sp_Rule_most K) := by
  refine FunD.ok T.pr_Rule_most.F sc_Rule_most (fun vs H0 Q E h => ?_) (fun cdv A outer s H0 vs Q E hr h => ?_)
  · obtain ⟨_, _, _, _, rfl, _⟩ := h
    rfl
  · obtain ⟨F0, v_self, a_self, r, rfl, hE, f_self, hm, hQ⟩ := h
    refine ⟨_, PSs.nox ((pss_one (ps_ret (pe_dgetO hr.units (pe_fldK (pv 0) rfl) pe_str (fun _ _ => rfl))))), ?_⟩
    have S : Sx P0 F0 H0 F0 H0 := Sx.refl0 hE
    unfold m_Rule_most at hm
    refine rd_ret ?_
    refine rd_op ?_
    refine rd_fld ?_
    refine rd_v rfl ?_
    refine fld_Rule_settings T S f_self (fun u1 f2 => ?_)
    obtain ⟨t3, e4, hm⟩ := bd_some hm
    refine rd_c ?_
    refine rd_dgSd S f2 e4 (fun u5 f6 => ?_)
    obtain ⟨t7, e8, hm⟩ := bd_some hm
    have f9 := thOI_fact f6 e8
    cases hm
    exact hQ _ _ _ S f9
def sp_Rule_alone (K : PySem.W.Frag) : Sp := fun vs H Q _ => ∃ (F : Hp) (v_self : V) (a_self : (List Pat × List Pat × List (Str × Th))) (r : Bool), vs = [v_self] ∧ Same F H ∧ qRule.r K F v_self a_self ∧ m_Rule_alone a_self = some r ∧ ∀ v F' H', Sx P0 F H F' H' → qB.r K F' v r → Q v H'
theorem sc_Rule_alone : FnScope ["self"] ["self"] (defScope s_Rule_alone) := ⟨rfl, rfl, rfl, by decide +kernel, rfl, by decide +kernel, by decide +kernel⟩
theorem bn_Rule_alone (T : Tx K mg) : Binds K (fdG K "Rule" "alone") ["self"] [] := FunD.bindsN T.pr_Rule_alone.F fun _ _ _ _ _ _ us hl => match us, hl with | [_], _ => rfl
theorem ok_Rule_alone (T : Tx K mg) : FnOk P w K mg base CX0 1 (geA K "Rule" "alone") (fdG K "Rule" "alone") ["self"] (sp_Rule_alone K) := by
  refine FunD.ok T.pr_Rule_alone.F sc_Rule_alone (fun vs H0 Q E h => ?_) (fun cdv A outer s H0 vs Q E hr h => ?_)
  · obtain ⟨_, _, _, _, rfl, _⟩ := h
    rfl
  · obtain ⟨F0, v_self, a_self, r, rfl, hE, f_self, hm, hQ⟩ := h
    refine ⟨_, PSs.nox ((pss_one (ps_ret (pe_dgetO hr.units (pe_fldK (pv 0) rfl) pe_str (fun _ _ => rfl))))), ?_⟩
    have S : Sx P0 F0 H0 F0 H0 := Sx.refl0 hE
    unfold m_Rule_alone at hm
    refine rd_ret ?_
    refine rd_op ?_
    refine rd_fld ?_
    refine rd_v rfl ?_
    refine fld_Rule_settings T S f_self (fun u1 f2 => ?_)
    obtain ⟨t3, e4, hm⟩ := bd_some hm
    refine rd_c ?_
    refine rd_dgSd S f2 e4 (fun u5 f6 => ?_)
    obtain ⟨t7, e8, hm⟩ := bd_some hm
    have e9 := thB_fact f6 e8
    cases e9
    cases hm
    exact hQ _ _ _ S rfl
def sp_Gluer_put (K : PySem.W.Frag) : Sp := fun vs H Q _ => ∃ (F : Hp) (p_self : Addr) (dx : Addr) (u_rule : V) (q_opened : Addr) (vs_opened : List V) (a_self : ((List Pat × List Pat × List (Str × Th)) × (List ((Option Int) × (List Str))) × Int)) (a_line : Str) (v_tag : V) (a_tag : (Option Int)) (a_thing : Str) (r : ((List ((Option Int) × (List Str))) × ((List ((Option Int) × (List Str))) × Int))), vs = [.ref p_self, (V.str (a_line)), v_tag, (V.str (a_thing))] ∧ Same F H ∧ Ow (fun a => a = p_self ∨ a = q_opened) H F H p_self (.ins (He.ga K "Gluer") dx [("rule", u_rule), ("opened", V.ref q_opened), ("given", (V.int (a_self.2.2)))]) ∧ qRule.r K F u_rule a_self.1 ∧ Ow (fun a => a = p_self ∨ a = q_opened) H F H q_opened (.lst vs_opened) ∧ Row (q2 (qO qI) (qL qS)) K F vs_opened a_self.2.1 ∧ q_opened ≠ p_self ∧ (qO qI).r K F v_tag a_tag ∧ m_Gluer_put a_self a_line a_tag a_thing = some r ∧ ∀ (p : Addr) (us : List V) (F' H' : Hp) (q'_opened : Addr) (vs'_opened : List V), Sx (fun a => a = p_self ∨ a = q_opened) F H F' H' → Ow (fun a => a = p_self ∨ a = q_opened) H F' H' p_self (.ins (He.ga K "Gluer") dx [("rule", u_rule), ("opened", V.ref q'_opened), ("given", (V.int (r.2.2)))]) → Ow (fun a => a = p_self ∨ a = q_opened) H F' H' q'_opened (.lst vs'_opened) → Row (q2 (qO qI) (qL qS)) K F' vs'_opened r.2.1 → q'_opened ≠ p_self → Ow (fun a => a = p_self ∨ a = q_opened) H F' H' p (.lst us) → Row (q2 (qO qI) (qL qS)) K F' us r.1 → p ≠ p_self → p ≠ q'_opened → H p = none → Q (.ref p) H'
theorem sc_Gluer_put : FnScope ["self", "line", "tag", "thing", "own", "told", "begins"] ["self", "line", "tag", "thing"] (defScope s_Gluer_put) := ⟨rfl, rfl, rfl, by decide +kernel, rfl, by decide +kernel, by decide +kernel⟩
theorem bn_Gluer_put (T : Tx K mg) : Binds K (fdOf K ("Gluer", some "put")) ["self", "line", "tag", "thing"] [] := FunD.bindsN T.F_Gluer_put fun _ _ _ _ _ _ us hl => match us, hl with | [_, _, _, _], _ => rfl
theorem ok_Gluer_put (T : Tx K mg) : FnOk P w K mg base CX0 7 (He.fAd K ("Gluer", some "put")) (fdOf K ("Gluer", some "put")) ["self", "line", "tag", "thing"] (sp_Gluer_put K) := by
  refine FunD.ok T.F_Gluer_put sc_Gluer_put (fun vs H0 Q E h => ?_) (fun cdv A outer s H0 vs Q E hr h => ?_)
  · obtain ⟨_, _, _, _, _, _, _, _, _, _, _, _, rfl, _⟩ := h
    rfl
  · obtain ⟨F0, p_self, dx, u_rule, q_opened, vs_opened, a_self, a_line, v_tag, a_tag, a_thing, r, rfl, hE, w_self, f_rule, w_opened, r_opened, n_opened, f_tag, hm, hQ⟩ := h
    refine ⟨_, PSs.nox ((C8.pss_cut (ps_if (pt_cmpR op_isN' (pe_prop (pe_fldK (pv 0) rfl) T.c_Rule T.pr_Rule_tags.p (ok_Rule_tags T) (hr.mono (by decide)) (bn_Rule_tags T) .nil pass0 rfl) pe_non (nomark _)) (pss_one (ps_set (i := 2) sc_Gluer_put.nd rfl (by first | exact Or.inl rfl | exact Or.inr rfl) pe_non)) pss_nil) (pss_cons (ps_set (i := 4) sc_Gluer_put.nd rfl (by first | exact Or.inl rfl | exact Or.inr rfl) (pe_meth (pv 0) T.c_Gluer T.me_Gluer_taken (ok_Gluer_taken T) (hr.mono (by decide)) (bn_Gluer_taken T) .nil pass0 (pa_cons (pv 2) pa_nil))) (pss_cons (ps_set (i := 5) sc_Gluer_put.nd rfl (by first | exact Or.inl rfl | exact Or.inr rfl) (pe_lst pa_nil)) (pss_cons (ps_set (i := 6) sc_Gluer_put.nd rfl (by first | exact Or.inl rfl | exact Or.inr rfl) (pe_meth (pe_fldK (pv 0) rfl) T.c_Rule T.me_Rule_begins_on (ok_Rule_begins_on T) (hr.mono (by decide)) (bn_Rule_begins_on T) .nil pass0 (pa_cons (pv 1) pa_nil))) (C8.pss_cut (ps_if (PW.pt (pw_and (pt_truthK (pv 4) (fun _ => rfl)) (pw_and1 (pt_val (pv 6))))) (pss_cons (ps_expr (pe_bmK (K := K) PySem.F.plainAttrs_list PySem.F.slot_list_append PySem.F.type_list_append mt_append (pv 5) (pa_cons (pe_tup (pa_cons (pv 2) (pa_cons (pv 4) pa_nil))) pa_nil))) (pss_one (ps_set (i := 4) sc_Gluer_put.nd rfl (by first | exact Or.inl rfl | exact Or.inr rfl) (pe_lst pa_nil)))) pss_nil) (pss_cons (ps_if (pt_not (pt_truthK (pv 4) (fun _ => rfl))) (pss_cons (ps_if (PW.pt (pw_and (pt_not (pt_val (pv 6))) (pw_and1 (pt_not (pt_val (pe_prop (pe_fldK (pv 0) rfl) T.c_Rule T.pr_Rule_alone.p (ok_Rule_alone T) (hr.mono (by decide)) (bn_Rule_alone T) .nil pass0 rfl)))))) (pss_one (ps_ret (pv 5))) pss_nil) (pss_one (ps_if (PW.pt (pw_and (pt_truthK (pe_prop (pe_fldK (pv 0) rfl) T.c_Rule T.pr_Rule_tags.p (ok_Rule_tags T) (hr.mono (by decide)) (bn_Rule_tags T) .nil pass0 rfl) (fun _ => rfl)) (pw_and1 (pt_cmpR op_ge (pe_callB (r := rLenQ K) cr_lenQ (by rfl) T.n_len (by decide +kernel) (pa_cons (pe_fldK (pv 0) rfl) pa_nil)) (pe_prop (pe_fldK (pv 0) rfl) T.c_Rule T.pr_Rule_tags.p (ok_Rule_tags T) (hr.mono (by decide)) (bn_Rule_tags T) .nil pass0 rfl) (nomark _))))) (pss_one (ps_expr (pe_bmK (K := K) PySem.F.plainAttrs_list PySem.F.slot_list_append PySem.F.type_list_append mt_append (pv 5) (pa_cons (pe_bmK (K := K) PySem.F.plainAttrs_list PySem.F.slot_list_pop PySem.F.type_list_pop mt_popAt (pe_fldK (pv 0) rfl) (pa_cons pe_int pa_nil)) pa_nil)))) pss_nil))) pss_nil) (pss_cons (ps_set (i := 4) sc_Gluer_put.nd rfl (by first | exact Or.inl rfl | exact Or.inr rfl) (pe_lst (pa_starK (pv 4) (pa_cons (pv 3) pa_nil)))) (C8.pss_cut (ps_if (PW.pt (pw_or (pt_val (pe_meth (pe_fldK (pv 0) rfl) T.c_Rule T.me_Rule_ends_on (ok_Rule_ends_on T) (hr.mono (by decide)) (bn_Rule_ends_on T) .nil pass0 (pa_cons (pv 1) pa_nil))) (pw_or1 (pt_cmpR (r := rEqD K) (op_eqD hr.units) (pe_prop (pe_fldK (pv 0) rfl) T.c_Rule T.pr_Rule_most.p (ok_Rule_most T) (hr.mono (by decide)) (bn_Rule_most T) .nil pass0 rfl) (pe_callB (r := rLenQ K) cr_lenQ (by rfl) T.n_len (by decide +kernel) (pa_cons (pv 4) pa_nil)) (nomark _))))) (pss_one (ps_expr (pe_bmK (K := K) PySem.F.plainAttrs_list PySem.F.slot_list_append PySem.F.type_list_append mt_append (pv 5) (pa_cons (pe_tup (pa_cons (pv 2) (pa_cons (pv 4) pa_nil))) pa_nil)))) (pss_one (ps_expr (pe_bmK (K := K) PySem.F.plainAttrs_list PySem.F.slot_list_append PySem.F.type_list_append mt_append (pe_fldK (pv 0) rfl) (pa_cons (pe_tup (pa_cons (pv 2) (pa_cons (pv 4) pa_nil))) pa_nil))))) (pss_cons (ps_fldaug (pv 0) (pe_callB (r := rLenQ K) cr_lenQ (by rfl) T.n_len (by decide +kernel) (pa_cons (pv 5) pa_nil)) in_add) (pss_one (ps_ret (pv 5))))))))))))), ?_⟩
    have S : Sx (fun a => a = p_self ∨ a = q_opened) F0 H0 F0 H0 := Sx.refl hE (by
        rintro a (rfl | rfl)
        · rw [w_self.at_]; exact (fun h => nomatch h)
        · rw [w_opened.at_]; exact (fun h => nomatch h))
    unfold m_Gluer_put at hm
    obtain ⟨t1, e2, hm⟩ := bd_some hm
    refine rd_cut (fun σ' H' => ∃ (F : Hp) (x0 : V) (o4 : Option V) (o5 : Option V) (o6 : Option V), σ' = [some (V.ref p_self), some (V.str (a_line)), some x0, some (V.str (a_thing)), o4, o5, o6] ∧ Sx P0 F0 H0 F H' ∧ (qO qI).r K F x0 t1) ?_ ?_
    · skip
      have S3 := Sx.refl0 S.sub
      refine rd_ifS ?_
      refine rd_test ?_
      refine rd_op ?_
      refine rd_prop ?_
      refine rd_fld ?_
      refine rd_v rfl ?_
      refine fd_at w_self.at_ T.c_Gluer T.na_Gluer_rule (by rfl) ?_
      refine pr_Rule_tags S3 f_rule ?_
      obtain ⟨t4, e5, e2⟩ := bd_some e2
      refine ⟨F0, _, _, t4, rfl, S3.sub, f_rule, e5, fun v9 F6 H7 c8 f10 => ?_⟩
      have S11 := S3.call0 c8
      have f_tag := (qO qI).mono c8.le f_tag
      have f_rule := qRule.mono c8.le f_rule
      have w_self := w_self.call0 c8
      have r_opened := Row.mono c8.le r_opened
      have w_opened := w_opened.call0 c8
      refine rd_c ?_
      refine rd_isN (A := qI) f10 ?_
      refine rd_b ?_
      refine if_b e2 (fun b12 e2 => ?_) (fun b12 e2 => ?_)
      · skip
        have f13 : (qO qI).r K F6 V.non none := (show (qO qI).r K F6 V.non none from rfl)
        cases e2
        refine rd_asg ?_
        refine rd_c ?_
        refine rd_gn ?_
        exact ⟨F6, _, _, _, _, rfl, S11, f13⟩
      · skip
        cases e2
        refine rd_next ?_
        exact ⟨F6, _, _, _, _, rfl, S11, f_tag⟩
    · skip
      rintro σ15 H14 ⟨F16, x18, o19, o20, o21, rfl, S17, f22⟩
      have S23 := S.call0 S17
      have f_rule := qRule.mono S17.le f_rule
      have w_self := w_self.call0 S17
      have r_opened := Row.mono S17.le r_opened
      have w_opened := w_opened.call0 S17
      refine rd_seq ?_
      refine rd_asg ?_
      refine rd_meth ?_
      refine rd_v rfl ?_
      refine mt_at w_self.at_ (by rfl) ?_
      obtain ⟨t24, e25, hm⟩ := bd_some hm
      refine rd_cons ?_
      refine rd_v rfl ?_
      refine rd_nil ?_
      refine ⟨F16, _, _, _, _, _, ((a_self.1, a_self.2.1, a_self.2.2)), _, _, t24, rfl, S23.sub, ⟨w_self.fr, w_self.at_, .inr (Or.inl rfl)⟩, f_rule, ⟨w_opened.fr, w_opened.at_, .inr (Or.inr (rfl))⟩, r_opened, n_opened, f22, e25, fun v29 F26 H27 q32 vs33 c28 w31 w34 r35 ne36 f30 => ?_⟩
      have S37 := S23.call c28 (by
          rintro a (rfl | rfl)
          · exact w_self.mine.symm
          · exact w_opened.mine.symm)
      have f22 := (qO qI).mono c28.le f22
      have f_rule := qRule.mono c28.le f_rule
      have w38 : Ow (fun a => a = p_self ∨ a = q_opened) H0 _ _ _ _ := ⟨w31.fr, w31.at_, w_self.mine⟩
      have w39 : Ow (fun a => a = p_self ∨ a = q_opened) H0 _ _ _ _ := ⟨w34.fr, w34.at_, w34.mine.elim (fun z => .inl (S23.free0 z)) (by rintro (rfl | rfl) ; exact w_self.mine; exact w_opened.mine)⟩
      refine rd_gn ?_
      refine rd_seq ?_
      refine rd_asg ?_
      refine rd_lst ?_
      refine rd_nil ?_
      refine rd_lK rfl ?_
      refine al S37 (fun p40 H41 np42 c43 w44 => ?_)
      have r45 : Row (q2 (qO qI) (qL qS)) K F26 [] ([] : List ((Option Int) × (List Str))) := .nil
      have ne46 : p_self ≠ p40 := w38.ne np42
      have ne47 : q32 ≠ p40 := w39.ne np42
      have z48 := S37.free0 np42
      have S49 := S37.call0 c43
      have f22 := (qO qI).mono c43.le f22
      have f30 := (qL qS).mono c43.le f30
      have f_rule := qRule.mono c43.le f_rule
      have w38 := w38.call0 c43
      have r35 := Row.mono c43.le r35
      have w39 := w39.call0 c43
      refine rd_gn ?_
      refine rd_seq ?_
      refine rd_asg ?_
      refine rd_meth ?_
      refine rd_fld ?_
      refine rd_v rfl ?_
      refine fd_at w38.at_ T.c_Gluer T.na_Gluer_rule (by rfl) ?_
      refine mt_Rule_begins_on S49 f_rule ?_
      obtain ⟨t50, e51, hm⟩ := bd_some hm
      refine rd_cons ?_
      refine rd_v rfl ?_
      refine rd_nil ?_
      refine ⟨F26, _, _, _, t50, rfl, S49.sub, f_rule, e51, fun v55 F52 H53 c54 f56 => ?_⟩
      have S57 := S49.call0 c54
      have f22 := (qO qI).mono c54.le f22
      have f30 := (qL qS).mono c54.le f30
      have f_rule := qRule.mono c54.le f_rule
      have w38 := w38.call0 c54
      have r35 := Row.mono c54.le r35
      have w39 := w39.call0 c54
      have r45 := Row.mono c54.le r45
      have w44 := w44.call0 c54
      cases (show v55 = (V.bl (t50)) from f56)
      obtain ⟨t58, e59, hm⟩ := bd_some hm
      refine rd_gn ?_
      refine rd_cut (fun σ' H' => ∃ (F : Hp) (x1 : V) (vs0 : List V), σ' = [some (V.ref p_self), some (V.str (a_line)), some x18, some (V.str (a_thing)), some x1, some (V.ref p40), some (V.bl (t50))] ∧ Sx (fun a => a = p40) F52 H53 F H' ∧ (qL qS).r K F x1 t58.2 ∧ Ow (fun a => a = p40) H53 F H' p40 (.lst vs0) ∧ Row (q2 (qO qI) (qL qS)) K F vs0 t58.1) ?_ ?_
      · skip
        have S60 : Sx (fun a => a = p40) _ _ _ _ := Sx.refl S57.sub (fun a z => by rw [z, w44.at_]; exact (fun h => nomatch h))
        have w61 : Ow (fun a => a = p40) H53 _ _ _ _ := ⟨w44.fr, w44.at_, .inr (rfl)⟩
        refine rd_ifS ?_
        refine rd_and ?_
        refine rd_tr ?_
        refine rd_v rfl ?_
        refine tr_at (S60.l f30).r ?_
        refine and_p (by intro _ Q' q; refine rd_tB ?_; refine rd_v rfl ?_; refine rd_b ?_; exact q) ?_
        refine if_b e59 (fun b62 e59 => ?_) (fun b62 e59 => ?_)
        · skip
          refine rd_seq ?_
          refine rd_drop ?_
          refine rd_bm ?_
          refine rd_v rfl ?_
          refine rd_ty w61.ty ?_
          refine rd_cons ?_
          refine rd_tup ?_
          refine rd_cons ?_
          refine rd_v rfl ?_
          refine rd_cons ?_
          refine rd_v rfl ?_
          refine rd_nil ?_
          refine rd_uK rfl ?_
          refine alF S60 (fun p63 F64 H65 c66 h67 => ?_)
          have S68 := S60.call0 c66
          have f22 := (qO qI).mono c66.le f22
          have f30 := (qL qS).mono c66.le f30
          have f_rule := qRule.mono c66.le f_rule
          have w38 := w38.call0 c66
          have r35 := Row.mono c66.le r35
          have w39 := w39.call0 c66
          have r45 := Row.mono c66.le r45
          have w61 := w61.call0 c66
          have f69 : (q2 (qO qI) (qL qS)).r K F64 (.ref p63) (t1, t24.1) := ⟨p63, _, _, rfl, .inl (.inl h67), f22, f30⟩
          obtain ⟨g70, e59⟩ := gd_some e59
          refine rd_nil ?_
          refine ap S68 w61 r45 g70 (fun H71 c72 w73 => ?_)
          have r74 := r45.snoc (show (q2 (qO qI) (qL qS)).r K F64 _ (t1, t24.1) from f69)
          have S75 := S68.call1 c72 w61
          have f22 := (qO qI).mono c72.le f22
          have f30 := (qL qS).mono c72.le f30
          have f_rule := qRule.mono c72.le f_rule
          have w38 := w38.call c72 (by intro z; exact ne46 z)
          have r35 := Row.mono c72.le r35
          have w39 := w39.call c72 (by intro z; exact ne47 z)
          have r74 := Row.mono c72.le r74
          refine rd_asg ?_
          refine rd_lst ?_
          refine rd_nil ?_
          refine rd_lK rfl ?_
          refine alL (K := K) (A := qS) (xs := ([] : List Str)) S75 .nil (fun v76 F77 H78 c79 f80 => ?_)
          have S81 := S75.call0 c79
          have f22 := (qO qI).mono c79.le f22
          have f30 := (qL qS).mono c79.le f30
          have f_rule := qRule.mono c79.le f_rule
          have w38 := w38.call0 c79
          have r35 := Row.mono c79.le r35
          have w39 := w39.call0 c79
          have r74 := Row.mono c79.le r74
          have w73 := w73.call0 c79
          cases e59
          refine rd_gn ?_
          exact ⟨F77, _, _, rfl, S81, f80, w73, r74⟩
        · skip
          cases e59
          refine rd_next ?_
          exact ⟨F52, _, _, rfl, S60, f30, w61, r45⟩
      · skip
        rintro σ83 H82 ⟨F84, x86, v87, rfl, S85, f88, w89, r90⟩
        have S91 := S57.call1 S85 w44
        have f22 := (qO qI).mono S85.le f22
        have f_rule := qRule.mono S85.le f_rule
        have w38 := w38.call S85 ne46
        have r35 := Row.mono S85.le r35
        have w39 := w39.call S85 ne47
        have w92 : Ow (fun a => a = p_self ∨ a = q_opened) H0 _ _ _ _ := ⟨w89.fr, w89.at_, w44.mine⟩
        refine rd_seq ?_
        refine rd_ifS ?_
        refine rd_not ?_
        refine rd_tr ?_
        refine rd_v rfl ?_
        refine tr_at (S91.l f88).r ?_
        refine if_b hm (fun b93 hm => ?_) (fun b93 hm => ?_)
        · skip
          obtain ⟨t102, e103, hm⟩ := bd_some hm
          refine rd_seq ?_
          refine rd_ifS ?_
          refine rd_and ?_
          refine rd_not ?_
          refine rd_tB ?_
          refine rd_v rfl ?_
          refine rd_b ?_
          refine and_j (fun c H' => c = t102 ∧ ∃ F', Sx P0 F84 H82 F' H') ?_ ?_ ?_
          · intro b104 Q105 q106
            have e103 := if_t e103 b104
            have S107 := Sx.refl0 S91.sub
            refine rd_not ?_
            refine rd_tB ?_
            refine rd_prop ?_
            refine rd_fld ?_
            refine rd_v rfl ?_
            refine fd_at w38.at_ T.c_Gluer T.na_Gluer_rule (by rfl) ?_
            refine pr_Rule_alone S107 f_rule ?_
            obtain ⟨t108, e109, e103⟩ := bd_some e103
            refine ⟨F84, _, _, t108, rfl, S107.sub, f_rule, e109, fun v113 F110 H111 c112 f114 => ?_⟩
            have S115 := S107.call0 c112
            have f22 := (qO qI).mono c112.le f22
            have f88 := (qL qS).mono c112.le f88
            have f_rule := qRule.mono c112.le f_rule
            have w38 := w38.call0 c112
            have r35 := Row.mono c112.le r35
            have w39 := w39.call0 c112
            have r90 := Row.mono c112.le r90
            have w92 := w92.call0 c112
            cases (show v113 = (V.bl (t108)) from f114)
            cases e103
            refine rd_b ?_
            exact q106 _ _ ⟨rfl, F110, S115⟩
          · intro b104
            have e103 := if_f e103 b104
            cases e103
            have S116 := Sx.refl0 S91.sub
            exact ⟨rfl, F84, S116⟩
          rintro b120 H118 ⟨rfl, F117, c119⟩
          have S121 := S91.call0 c119
          have f22 := (qO qI).mono c119.le f22
          have f88 := (qL qS).mono c119.le f88
          have f_rule := qRule.mono c119.le f_rule
          have w38 := w38.call0 c119
          have r35 := Row.mono c119.le r35
          have w39 := w39.call0 c119
          have r90 := Row.mono c119.le r90
          have w92 := w92.call0 c119
          refine if_b hm (fun b122 hm => ?_) (fun b122 hm => ?_)
          · skip
            cases hm
            refine rd_ret ?_
            refine rd_v rfl ?_
            exact hQ _ _ _ _ _ _ S121 w38 w39 r35 ne36 w92 r90 (Ne.symm ne46) (Ne.symm ne47) z48
          · skip
            refine rd_next ?_
            refine rd_ifS ?_
            refine rd_and ?_
            refine rd_tr ?_
            refine rd_prop ?_
            refine rd_fld ?_
            refine rd_v rfl ?_
            refine fd_at w38.at_ T.c_Gluer T.na_Gluer_rule (by rfl) ?_
            refine pr_Rule_tags S121 f_rule ?_
            obtain ⟨t123, e124, hm⟩ := bd_some hm
            refine ⟨F117, _, _, t123, rfl, S121.sub, f_rule, e124, fun v128 F125 H126 c127 f129 => ?_⟩
            have S130 := S121.call0 c127
            have f22 := (qO qI).mono c127.le f22
            have f88 := (qL qS).mono c127.le f88
            have f_rule := qRule.mono c127.le f_rule
            have w38 := w38.call0 c127
            have r35 := Row.mono c127.le r35
            have w39 := w39.call0 c127
            have r90 := Row.mono c127.le r90
            have w92 := w92.call0 c127
            obtain ⟨t142, e143, hm⟩ := bd_some hm
            refine tr_atO f129 ?_
            refine and_j (fun c H' => c = t142 ∧ ∃ F', Sx P0 F125 H126 F' H') ?_ ?_ ?_
            · intro b144 Q145 q146
              have e143 := if_t e143 b144
              have S147 := Sx.refl0 S130.sub
              refine rd_test ?_
              refine rd_op ?_
              refine rd_cb ?_
              refine rd_cons ?_
              refine rd_fld ?_
              refine rd_v rfl ?_
              refine fd_at w38.at_ T.c_Gluer T.na_Gluer_opened (by rfl) ?_
              refine rd_nil ?_
              refine rd_lenQ (w39.l r35).r.q ?_
              refine rd_prop ?_
              refine rd_fld ?_
              refine rd_v rfl ?_
              refine fd_at w38.at_ T.c_Gluer T.na_Gluer_rule (by rfl) ?_
              refine pr_Rule_tags S147 f_rule ?_
              obtain ⟨t148, e149, e143⟩ := bd_some e143
              refine ⟨F125, _, _, t148, rfl, S147.sub, f_rule, e149, fun v153 F150 H151 c152 f154 => ?_⟩
              have S155 := S147.call0 c152
              have f22 := (qO qI).mono c152.le f22
              have f88 := (qL qS).mono c152.le f88
              have f_rule := qRule.mono c152.le f_rule
              have w38 := w38.call0 c152
              have r35 := Row.mono c152.le r35
              have w39 := w39.call0 c152
              have r90 := Row.mono c152.le r90
              have w92 := w92.call0 c152
              obtain ⟨t156, e157, e143⟩ := bd_some e143
              have f158 := qO_some f154 e157
              cases (show v153 = (V.int (t156)) from f158)
              cases e143
              refine rd_I0 ?_
              refine rd_b ?_
              exact q146 _ _ ⟨rfl, F150, S155⟩
            · intro b144
              have e143 := if_f e143 b144
              cases e143
              have S159 := Sx.refl0 S130.sub
              exact ⟨rfl, F125, S159⟩
            rintro b163 H161 ⟨rfl, F160, c162⟩
            have S164 := S130.call0 c162
            have f22 := (qO qI).mono c162.le f22
            have f88 := (qL qS).mono c162.le f88
            have f_rule := qRule.mono c162.le f_rule
            have w38 := w38.call0 c162
            have r35 := Row.mono c162.le r35
            have w39 := w39.call0 c162
            have r90 := Row.mono c162.le r90
            have w92 := w92.call0 c162
            refine if_b hm (fun b165 hm => ?_) (fun b165 hm => ?_)
            · skip
              obtain ⟨t166, e167, hm⟩ := bd_some hm
              refine rd_drop ?_
              refine rd_bm ?_
              refine rd_v rfl ?_
              refine rd_ty w92.ty ?_
              refine rd_cons ?_
              refine rd_bm ?_
              refine rd_fld ?_
              refine rd_v rfl ?_
              refine fd_at w38.at_ T.c_Gluer T.na_Gluer_opened (by rfl) ?_
              refine rd_ty w39.ty ?_
              refine rd_cons ?_
              refine rd_c ?_
              refine rd_nil ?_
              refine rd_popAt S164 w39 r35 e167 (fun u168 H169 us170 f171 c172 w173 r174 => ?_)
              have S175 := S164.call1 c172 w39
              have f22 := (qO qI).mono c172.le f22
              have f88 := (qL qS).mono c172.le f88
              have f171 := (q2 (qO qI) (qL qS)).mono c172.le f171
              have f_rule := qRule.mono c172.le f_rule
              have w38 := w38.call c172 (by intro z; exact (Ne.symm ne36) z)
              have r174 := Row.mono c172.le r174
              have r90 := Row.mono c172.le r90
              have w92 := w92.call c172 (by intro z; exact (Ne.symm ne47) z)
              obtain ⟨g176, hm⟩ := gd_some hm
              refine rd_nil ?_
              refine ap S175 w92 r90 g176 (fun H177 c178 w179 => ?_)
              have r180 := r90.snoc (show (q2 (qO qI) (qL qS)).r K F160 _ t166.1 from f171)
              have S181 := S175.call1 c178 w92
              have f22 := (qO qI).mono c178.le f22
              have f88 := (qL qS).mono c178.le f88
              have f_rule := qRule.mono c178.le f_rule
              have w38 := w38.call c178 (by intro z; exact ne46 z)
              have r174 := Row.mono c178.le r174
              have w173 := w173.call c178 (by intro z; exact ne47 z)
              have r180 := Row.mono c178.le r180
              refine rd_seq ?_
              refine rd_asg ?_
              refine rd_lst ?_
              refine rd_star ?_
              refine rd_v rfl ?_
              refine st_at (S181.l f88).r.q (fun us182 r183 => ?_)
              have r184 : Row qS K F160 [(V.str (a_thing))] [a_thing] := (.cons rfl .nil)
              obtain ⟨g185, hm⟩ := gd_some hm
              refine rd_cons ?_
              refine rd_v rfl ?_
              refine rd_nil ?_
              refine rd_lKs r183 r184 g185 ?_
              refine alL (K := K) (A := qS) (xs := (t58.2 ++ [a_thing])) S181 (pApp r183 r184) (fun v186 F187 H188 c189 f190 => ?_)
              have S191 := S181.call0 c189
              have f22 := (qO qI).mono c189.le f22
              have f88 := (qL qS).mono c189.le f88
              have f_rule := qRule.mono c189.le f_rule
              have w38 := w38.call0 c189
              have r174 := Row.mono c189.le r174
              have w173 := w173.call0 c189
              have r180 := Row.mono c189.le r180
              have w179 := w179.call0 c189
              obtain ⟨t192, e193, hm⟩ := bd_some hm
              refine rd_gn ?_
              refine rd_cut (fun σ' H' => ∃ (F : Hp) (q1_1 : Addr) (vs1_1 : List V) (vs0 : List V), σ' = [some (V.ref p_self), some (V.str (a_line)), some x18, some (V.str (a_thing)), some v186, some (V.ref p40), some (V.bl (t50))] ∧ Sx (fun a => a = p40 ∨ a = p_self ∨ a = q32) F187 H188 F H' ∧ Ow (fun a => a = p40 ∨ a = p_self ∨ a = q32) H188 F H' p_self (.ins (He.ga K "Gluer") dx [("rule", u_rule), ("opened", V.ref q1_1), ("given", (V.int (t192.2.2)))]) ∧ Ow (fun a => a = p40 ∨ a = p_self ∨ a = q32) H188 F H' q1_1 (.lst vs1_1) ∧ Row (q2 (qO qI) (qL qS)) K F vs1_1 t192.2.1 ∧ q1_1 ≠ p_self ∧ p40 ≠ q1_1 ∧ Ow (fun a => a = p40 ∨ a = p_self ∨ a = q32) H188 F H' p40 (.lst vs0) ∧ Row (q2 (qO qI) (qL qS)) K F vs0 t192.1) ?_ ?_
              · skip
                have S194 : Sx (fun a => a = p40 ∨ a = p_self ∨ a = q32) _ _ _ _ := Sx.refl S191.sub (by
                    rintro a (rfl | rfl | rfl)
                    · rw [w179.at_]; exact (fun h => nomatch h)
                    · rw [w38.at_]; exact (fun h => nomatch h)
                    · rw [w173.at_]; exact (fun h => nomatch h))
                have w195 : Ow (fun a => a = p40 ∨ a = p_self ∨ a = q32) H188 _ _ _ _ := ⟨w179.fr, w179.at_, .inr (Or.inl rfl)⟩
                have w196 : Ow (fun a => a = p40 ∨ a = p_self ∨ a = q32) H188 _ _ _ _ := ⟨w38.fr, w38.at_, .inr (Or.inr (Or.inl rfl))⟩
                have w197 : Ow (fun a => a = p40 ∨ a = p_self ∨ a = q32) H188 _ _ _ _ := ⟨w173.fr, w173.at_, .inr (Or.inr (Or.inr (rfl)))⟩
                refine rd_ifS ?_
                refine rd_or ?_
                refine rd_tB ?_
                refine rd_meth ?_
                refine rd_fld ?_
                refine rd_v rfl ?_
                refine fd_at w196.at_ T.c_Gluer T.na_Gluer_rule (by rfl) ?_
                refine mt_Rule_ends_on S194 f_rule ?_
                obtain ⟨t198, e199, e193⟩ := bd_some e193
                refine rd_cons ?_
                refine rd_v rfl ?_
                refine rd_nil ?_
                refine ⟨F187, _, _, _, t198, rfl, S194.sub, f_rule, e199, fun v203 F200 H201 c202 f204 => ?_⟩
                have S205 := S194.call0 c202
                have f22 := (qO qI).mono c202.le f22
                have f190 := (qL qS).mono c202.le f190
                have f_rule := qRule.mono c202.le f_rule
                have w196 := w196.call0 c202
                have r174 := Row.mono c202.le r174
                have w197 := w197.call0 c202
                have r180 := Row.mono c202.le r180
                have w195 := w195.call0 c202
                cases (show v203 = (V.bl (t198)) from f204)
                obtain ⟨t217, e218, e193⟩ := bd_some e193
                refine rd_b ?_
                refine or_j (fun c H' => c = t217 ∧ ∃ F', Sx P0 F200 H201 F' H') ?_ ?_ ?_
                · intro b219 Q220 q221
                  have e218 := if_f e218 b219
                  have S222 := Sx.refl0 S205.sub
                  refine rd_test ?_
                  refine rd_op ?_
                  refine rd_prop ?_
                  refine rd_fld ?_
                  refine rd_v rfl ?_
                  refine fd_at w196.at_ T.c_Gluer T.na_Gluer_rule (by rfl) ?_
                  refine pr_Rule_most S222 f_rule ?_
                  obtain ⟨t223, e224, e218⟩ := bd_some e218
                  refine ⟨F200, _, _, t223, rfl, S222.sub, f_rule, e224, fun v228 F225 H226 c227 f229 => ?_⟩
                  have S230 := S222.call0 c227
                  have f22 := (qO qI).mono c227.le f22
                  have f190 := (qL qS).mono c227.le f190
                  have f_rule := qRule.mono c227.le f_rule
                  have w196 := w196.call0 c227
                  have r174 := Row.mono c227.le r174
                  have w197 := w197.call0 c227
                  have r180 := Row.mono c227.le r180
                  have w195 := w195.call0 c227
                  have f231 : (qO qI).r K F225 (V.int ((((t58.2 ++ [a_thing])).length : Int))) (some (((t58.2 ++ [a_thing])).length : Int)) := (show (qO qI).r K F225 (V.int ((((t58.2 ++ [a_thing])).length : Int))) (some (((t58.2 ++ [a_thing])).length : Int)) from rfl)
                  obtain ⟨g232, e218⟩ := gd_some e218
                  obtain ⟨g233, e218⟩ := gd_some e218
                  cases e218
                  refine rd_cb ?_
                  refine rd_cons ?_
                  refine rd_v rfl ?_
                  refine rd_nil ?_
                  refine rd_lenQ (S230.l f190).r.q ?_
                  refine rd_eqD (D := (dO dI)) (S230.d (dO dI) f229) (S230.d (dO dI) f231) g232 g233 ?_
                  refine rd_b ?_
                  exact q221 _ _ ⟨rfl, F225, S230⟩
                · intro b219
                  have e218 := if_t e218 b219
                  cases e218
                  have S234 := Sx.refl0 S205.sub
                  exact ⟨rfl, F200, S234⟩
                rintro b238 H236 ⟨rfl, F235, c237⟩
                have S239 := S205.call0 c237
                have f22 := (qO qI).mono c237.le f22
                have f190 := (qL qS).mono c237.le f190
                have f_rule := qRule.mono c237.le f_rule
                have w196 := w196.call0 c237
                have r174 := Row.mono c237.le r174
                have w197 := w197.call0 c237
                have r180 := Row.mono c237.le r180
                have w195 := w195.call0 c237
                refine if_b e193 (fun b240 e193 => ?_) (fun b240 e193 => ?_)
                · skip
                  refine rd_drop ?_
                  refine rd_bm ?_
                  refine rd_v rfl ?_
                  refine rd_ty w195.ty ?_
                  refine rd_cons ?_
                  refine rd_tup ?_
                  refine rd_cons ?_
                  refine rd_v rfl ?_
                  refine rd_cons ?_
                  refine rd_v rfl ?_
                  refine rd_nil ?_
                  refine rd_uK rfl ?_
                  refine alF S239 (fun p241 F242 H243 c244 h245 => ?_)
                  have S246 := S239.call0 c244
                  have f22 := (qO qI).mono c244.le f22
                  have f190 := (qL qS).mono c244.le f190
                  have f_rule := qRule.mono c244.le f_rule
                  have w196 := w196.call0 c244
                  have r174 := Row.mono c244.le r174
                  have w197 := w197.call0 c244
                  have r180 := Row.mono c244.le r180
                  have w195 := w195.call0 c244
                  have f247 : (q2 (qO qI) (qL qS)).r K F242 (.ref p241) (t1, (t58.2 ++ [a_thing])) := ⟨p241, _, _, rfl, .inl (.inl h245), f22, f190⟩
                  obtain ⟨g248, e193⟩ := gd_some e193
                  refine rd_nil ?_
                  refine ap S246 w195 r180 g248 (fun H249 c250 w251 => ?_)
                  have r252 := r180.snoc (show (q2 (qO qI) (qL qS)).r K F242 _ (t1, (t58.2 ++ [a_thing])) from f247)
                  have S253 := S246.call1 c250 w195
                  have f22 := (qO qI).mono c250.le f22
                  have f190 := (qL qS).mono c250.le f190
                  have f_rule := qRule.mono c250.le f_rule
                  have w196 := w196.call c250 (by intro z; exact ne46 z)
                  have r174 := Row.mono c250.le r174
                  have w197 := w197.call c250 (by intro z; exact ne47 z)
                  have r252 := Row.mono c250.le r252
                  cases e193
                  exact ⟨F242, _, _, _, rfl, S253, w196, w197, r174, ne36, (Ne.symm ne47), w251, r252⟩
                · skip
                  refine rd_drop ?_
                  refine rd_bm ?_
                  refine rd_fld ?_
                  refine rd_v rfl ?_
                  refine fd_at w196.at_ T.c_Gluer T.na_Gluer_opened (by rfl) ?_
                  refine rd_ty w197.ty ?_
                  refine rd_cons ?_
                  refine rd_tup ?_
                  refine rd_cons ?_
                  refine rd_v rfl ?_
                  refine rd_cons ?_
                  refine rd_v rfl ?_
                  refine rd_nil ?_
                  refine rd_uK rfl ?_
                  refine alF S239 (fun p254 F255 H256 c257 h258 => ?_)
                  have S259 := S239.call0 c257
                  have f22 := (qO qI).mono c257.le f22
                  have f190 := (qL qS).mono c257.le f190
                  have f_rule := qRule.mono c257.le f_rule
                  have w196 := w196.call0 c257
                  have r174 := Row.mono c257.le r174
                  have w197 := w197.call0 c257
                  have r180 := Row.mono c257.le r180
                  have w195 := w195.call0 c257
                  have f260 : (q2 (qO qI) (qL qS)).r K F255 (.ref p254) (t1, (t58.2 ++ [a_thing])) := ⟨p254, _, _, rfl, .inl (.inl h258), f22, f190⟩
                  obtain ⟨g261, e193⟩ := gd_some e193
                  refine rd_nil ?_
                  refine ap S259 w197 r174 g261 (fun H262 c263 w264 => ?_)
                  have r265 := r174.snoc (show (q2 (qO qI) (qL qS)).r K F255 _ (t1, (t58.2 ++ [a_thing])) from f260)
                  have S266 := S259.call1 c263 w197
                  have f22 := (qO qI).mono c263.le f22
                  have f190 := (qL qS).mono c263.le f190
                  have f_rule := qRule.mono c263.le f_rule
                  have w196 := w196.call c263 (by intro z; exact (Ne.symm ne36) z)
                  have r265 := Row.mono c263.le r265
                  have r180 := Row.mono c263.le r180
                  have w195 := w195.call c263 (by intro z; exact (Ne.symm ne47) z)
                  cases e193
                  exact ⟨F255, _, _, _, rfl, S266, w196, w264, r265, ne36, (Ne.symm ne47), w195, r180⟩
              · skip
                rintro σ268 H267 ⟨F269, q271, v272, v273, rfl, S270, r274, r275, r276, r277, r278, w279, r280⟩
                have S281 := S191.call S270 (by
                    rintro a (rfl | rfl | rfl)
                    · exact w179.mine.symm
                    · exact w38.mine.symm
                    · exact w173.mine.symm)
                have f22 := (qO qI).mono S270.le f22
                have f190 := (qL qS).mono S270.le f190
                have f_rule := qRule.mono S270.le f_rule
                have w282 : Ow (fun a => a = p_self ∨ a = q_opened) H0 _ _ _ _ := ⟨r274.fr, r274.at_, w38.mine⟩
                have w283 : Ow (fun a => a = p_self ∨ a = q_opened) H0 _ _ _ _ := ⟨w279.fr, w279.at_, w179.mine⟩
                have w284 : Ow (fun a => a = p_self ∨ a = q_opened) H0 _ _ _ _ := ⟨r275.fr, r275.at_, r275.mine.elim (fun z => .inl (S191.free0 z)) (by rintro (rfl | rfl | rfl) ; exact w179.mine; exact w38.mine; exact w173.mine)⟩
                refine rd_seq ?_
                refine rd_faug ?_
                refine rd_v rfl ?_
                refine fa_at w282.at_ T.c_Gluer T.na_Gluer_given (by rfl) ?_
                refine rd_cb ?_
                refine rd_cons ?_
                refine rd_v rfl ?_
                refine rd_nil ?_
                refine rd_lenQ (w283.l r280).r.q ?_
                refine fa_set (fs' := [("rule", u_rule), ("opened", (V.ref q271)), ("given", (V.int ((t192.2.2 + ((t192.1).length : Int)))))]) S281 w282 (by rfl) (by rfl) (fun H285 c286 w287 => ?_)
                have S288 := S281.call1 c286 w282
                have f22 := (qO qI).mono c286.le f22
                have f190 := (qL qS).mono c286.le f190
                have f_rule := qRule.mono c286.le f_rule
                have r280 := Row.mono c286.le r280
                have w283 := w283.call c286 (by intro z; exact (Ne.symm ne46) z)
                have r276 := Row.mono c286.le r276
                have w284 := w284.call c286 (by intro z; exact r277 z)
                cases hm
                refine rd_ret ?_
                refine rd_v rfl ?_
                exact hQ _ _ _ _ _ _ S288 w287 w284 r276 r277 w283 r280 (Ne.symm ne46) r278 z48
            · skip
              refine rd_next ?_
              refine rd_seq ?_
              refine rd_asg ?_
              refine rd_lst ?_
              refine rd_star ?_
              refine rd_v rfl ?_
              refine st_at (S164.l f88).r.q (fun us289 r290 => ?_)
              have r291 : Row qS K F160 [(V.str (a_thing))] [a_thing] := (.cons rfl .nil)
              obtain ⟨g292, hm⟩ := gd_some hm
              refine rd_cons ?_
              refine rd_v rfl ?_
              refine rd_nil ?_
              refine rd_lKs r290 r291 g292 ?_
              refine alL (K := K) (A := qS) (xs := (t58.2 ++ [a_thing])) S164 (pApp r290 r291) (fun v293 F294 H295 c296 f297 => ?_)
              have S298 := S164.call0 c296
              have f22 := (qO qI).mono c296.le f22
              have f88 := (qL qS).mono c296.le f88
              have f_rule := qRule.mono c296.le f_rule
              have w38 := w38.call0 c296
              have r35 := Row.mono c296.le r35
              have w39 := w39.call0 c296
              have r90 := Row.mono c296.le r90
              have w92 := w92.call0 c296
              obtain ⟨t299, e300, hm⟩ := bd_some hm
              refine rd_gn ?_
              refine rd_cut (fun σ' H' => ∃ (F : Hp) (q1_1 : Addr) (vs1_1 : List V) (vs0 : List V), σ' = [some (V.ref p_self), some (V.str (a_line)), some x18, some (V.str (a_thing)), some v293, some (V.ref p40), some (V.bl (t50))] ∧ Sx (fun a => a = p40 ∨ a = p_self ∨ a = q32) F294 H295 F H' ∧ Ow (fun a => a = p40 ∨ a = p_self ∨ a = q32) H295 F H' p_self (.ins (He.ga K "Gluer") dx [("rule", u_rule), ("opened", V.ref q1_1), ("given", (V.int (t299.2.2)))]) ∧ Ow (fun a => a = p40 ∨ a = p_self ∨ a = q32) H295 F H' q1_1 (.lst vs1_1) ∧ Row (q2 (qO qI) (qL qS)) K F vs1_1 t299.2.1 ∧ q1_1 ≠ p_self ∧ p40 ≠ q1_1 ∧ Ow (fun a => a = p40 ∨ a = p_self ∨ a = q32) H295 F H' p40 (.lst vs0) ∧ Row (q2 (qO qI) (qL qS)) K F vs0 t299.1) ?_ ?_
              · skip
                have S301 : Sx (fun a => a = p40 ∨ a = p_self ∨ a = q32) _ _ _ _ := Sx.refl S298.sub (by
                    rintro a (rfl | rfl | rfl)
                    · rw [w92.at_]; exact (fun h => nomatch h)
                    · rw [w38.at_]; exact (fun h => nomatch h)
                    · rw [w39.at_]; exact (fun h => nomatch h))
                have w302 : Ow (fun a => a = p40 ∨ a = p_self ∨ a = q32) H295 _ _ _ _ := ⟨w92.fr, w92.at_, .inr (Or.inl rfl)⟩
                have w303 : Ow (fun a => a = p40 ∨ a = p_self ∨ a = q32) H295 _ _ _ _ := ⟨w38.fr, w38.at_, .inr (Or.inr (Or.inl rfl))⟩
                have w304 : Ow (fun a => a = p40 ∨ a = p_self ∨ a = q32) H295 _ _ _ _ := ⟨w39.fr, w39.at_, .inr (Or.inr (Or.inr (rfl)))⟩
                refine rd_ifS ?_
                refine rd_or ?_
                refine rd_tB ?_
                refine rd_meth ?_
                refine rd_fld ?_
                refine rd_v rfl ?_
                refine fd_at w303.at_ T.c_Gluer T.na_Gluer_rule (by rfl) ?_
                refine mt_Rule_ends_on S301 f_rule ?_
                obtain ⟨t305, e306, e300⟩ := bd_some e300
                refine rd_cons ?_
                refine rd_v rfl ?_
                refine rd_nil ?_
                refine ⟨F294, _, _, _, t305, rfl, S301.sub, f_rule, e306, fun v310 F307 H308 c309 f311 => ?_⟩
                have S312 := S301.call0 c309
                have f22 := (qO qI).mono c309.le f22
                have f297 := (qL qS).mono c309.le f297
                have f_rule := qRule.mono c309.le f_rule
                have w303 := w303.call0 c309
                have r35 := Row.mono c309.le r35
                have w304 := w304.call0 c309
                have r90 := Row.mono c309.le r90
                have w302 := w302.call0 c309
                cases (show v310 = (V.bl (t305)) from f311)
                obtain ⟨t324, e325, e300⟩ := bd_some e300
                refine rd_b ?_
                refine or_j (fun c H' => c = t324 ∧ ∃ F', Sx P0 F307 H308 F' H') ?_ ?_ ?_
                · intro b326 Q327 q328
                  have e325 := if_f e325 b326
                  have S329 := Sx.refl0 S312.sub
                  refine rd_test ?_
                  refine rd_op ?_
                  refine rd_prop ?_
                  refine rd_fld ?_
                  refine rd_v rfl ?_
                  refine fd_at w303.at_ T.c_Gluer T.na_Gluer_rule (by rfl) ?_
                  refine pr_Rule_most S329 f_rule ?_
                  obtain ⟨t330, e331, e325⟩ := bd_some e325
                  refine ⟨F307, _, _, t330, rfl, S329.sub, f_rule, e331, fun v335 F332 H333 c334 f336 => ?_⟩
                  have S337 := S329.call0 c334
                  have f22 := (qO qI).mono c334.le f22
                  have f297 := (qL qS).mono c334.le f297
                  have f_rule := qRule.mono c334.le f_rule
                  have w303 := w303.call0 c334
                  have r35 := Row.mono c334.le r35
                  have w304 := w304.call0 c334
                  have r90 := Row.mono c334.le r90
                  have w302 := w302.call0 c334
                  have f338 : (qO qI).r K F332 (V.int ((((t58.2 ++ [a_thing])).length : Int))) (some (((t58.2 ++ [a_thing])).length : Int)) := (show (qO qI).r K F332 (V.int ((((t58.2 ++ [a_thing])).length : Int))) (some (((t58.2 ++ [a_thing])).length : Int)) from rfl)
                  obtain ⟨g339, e325⟩ := gd_some e325
                  obtain ⟨g340, e325⟩ := gd_some e325
                  cases e325
                  refine rd_cb ?_
                  refine rd_cons ?_
                  refine rd_v rfl ?_
                  refine rd_nil ?_
                  refine rd_lenQ (S337.l f297).r.q ?_
                  refine rd_eqD (D := (dO dI)) (S337.d (dO dI) f336) (S337.d (dO dI) f338) g339 g340 ?_
                  refine rd_b ?_
                  exact q328 _ _ ⟨rfl, F332, S337⟩
                · intro b326
                  have e325 := if_t e325 b326
                  cases e325
                  have S341 := Sx.refl0 S312.sub
                  exact ⟨rfl, F307, S341⟩
                rintro b345 H343 ⟨rfl, F342, c344⟩
                have S346 := S312.call0 c344
                have f22 := (qO qI).mono c344.le f22
                have f297 := (qL qS).mono c344.le f297
                have f_rule := qRule.mono c344.le f_rule
                have w303 := w303.call0 c344
                have r35 := Row.mono c344.le r35
                have w304 := w304.call0 c344
                have r90 := Row.mono c344.le r90
                have w302 := w302.call0 c344
                refine if_b e300 (fun b347 e300 => ?_) (fun b347 e300 => ?_)
                · skip
                  refine rd_drop ?_
                  refine rd_bm ?_
                  refine rd_v rfl ?_
                  refine rd_ty w302.ty ?_
                  refine rd_cons ?_
                  refine rd_tup ?_
                  refine rd_cons ?_
                  refine rd_v rfl ?_
                  refine rd_cons ?_
                  refine rd_v rfl ?_
                  refine rd_nil ?_
                  refine rd_uK rfl ?_
                  refine alF S346 (fun p348 F349 H350 c351 h352 => ?_)
                  have S353 := S346.call0 c351
                  have f22 := (qO qI).mono c351.le f22
                  have f297 := (qL qS).mono c351.le f297
                  have f_rule := qRule.mono c351.le f_rule
                  have w303 := w303.call0 c351
                  have r35 := Row.mono c351.le r35
                  have w304 := w304.call0 c351
                  have r90 := Row.mono c351.le r90
                  have w302 := w302.call0 c351
                  have f354 : (q2 (qO qI) (qL qS)).r K F349 (.ref p348) (t1, (t58.2 ++ [a_thing])) := ⟨p348, _, _, rfl, .inl (.inl h352), f22, f297⟩
                  obtain ⟨g355, e300⟩ := gd_some e300
                  refine rd_nil ?_
                  refine ap S353 w302 r90 g355 (fun H356 c357 w358 => ?_)
                  have r359 := r90.snoc (show (q2 (qO qI) (qL qS)).r K F349 _ (t1, (t58.2 ++ [a_thing])) from f354)
                  have S360 := S353.call1 c357 w302
                  have f22 := (qO qI).mono c357.le f22
                  have f297 := (qL qS).mono c357.le f297
                  have f_rule := qRule.mono c357.le f_rule
                  have w303 := w303.call c357 (by intro z; exact ne46 z)
                  have r35 := Row.mono c357.le r35
                  have w304 := w304.call c357 (by intro z; exact ne47 z)
                  have r359 := Row.mono c357.le r359
                  cases e300
                  exact ⟨F349, _, _, _, rfl, S360, w303, w304, r35, ne36, (Ne.symm ne47), w358, r359⟩
                · skip
                  refine rd_drop ?_
                  refine rd_bm ?_
                  refine rd_fld ?_
                  refine rd_v rfl ?_
                  refine fd_at w303.at_ T.c_Gluer T.na_Gluer_opened (by rfl) ?_
                  refine rd_ty w304.ty ?_
                  refine rd_cons ?_
                  refine rd_tup ?_
                  refine rd_cons ?_
                  refine rd_v rfl ?_
                  refine rd_cons ?_
                  refine rd_v rfl ?_
                  refine rd_nil ?_
                  refine rd_uK rfl ?_
                  refine alF S346 (fun p361 F362 H363 c364 h365 => ?_)
                  have S366 := S346.call0 c364
                  have f22 := (qO qI).mono c364.le f22
                  have f297 := (qL qS).mono c364.le f297
                  have f_rule := qRule.mono c364.le f_rule
                  have w303 := w303.call0 c364
                  have r35 := Row.mono c364.le r35
                  have w304 := w304.call0 c364
                  have r90 := Row.mono c364.le r90
                  have w302 := w302.call0 c364
                  have f367 : (q2 (qO qI) (qL qS)).r K F362 (.ref p361) (t1, (t58.2 ++ [a_thing])) := ⟨p361, _, _, rfl, .inl (.inl h365), f22, f297⟩
                  obtain ⟨g368, e300⟩ := gd_some e300
                  refine rd_nil ?_
                  refine ap S366 w304 r35 g368 (fun H369 c370 w371 => ?_)
                  have r372 := r35.snoc (show (q2 (qO qI) (qL qS)).r K F362 _ (t1, (t58.2 ++ [a_thing])) from f367)
                  have S373 := S366.call1 c370 w304
                  have f22 := (qO qI).mono c370.le f22
                  have f297 := (qL qS).mono c370.le f297
                  have f_rule := qRule.mono c370.le f_rule
                  have w303 := w303.call c370 (by intro z; exact (Ne.symm ne36) z)
                  have r372 := Row.mono c370.le r372
                  have r90 := Row.mono c370.le r90
                  have w302 := w302.call c370 (by intro z; exact (Ne.symm ne47) z)
                  cases e300
                  exact ⟨F362, _, _, _, rfl, S373, w303, w371, r372, ne36, (Ne.symm ne47), w302, r90⟩
              · skip
                rintro σ375 H374 ⟨F376, q378, v379, v380, rfl, S377, r381, r382, r383, r384, r385, w386, r387⟩
                have S388 := S298.call S377 (by
                    rintro a (rfl | rfl | rfl)
                    · exact w92.mine.symm
                    · exact w38.mine.symm
                    · exact w39.mine.symm)
                have f22 := (qO qI).mono S377.le f22
                have f297 := (qL qS).mono S377.le f297
                have f_rule := qRule.mono S377.le f_rule
                have w389 : Ow (fun a => a = p_self ∨ a = q_opened) H0 _ _ _ _ := ⟨r381.fr, r381.at_, w38.mine⟩
                have w390 : Ow (fun a => a = p_self ∨ a = q_opened) H0 _ _ _ _ := ⟨w386.fr, w386.at_, w92.mine⟩
                have w391 : Ow (fun a => a = p_self ∨ a = q_opened) H0 _ _ _ _ := ⟨r382.fr, r382.at_, r382.mine.elim (fun z => .inl (S298.free0 z)) (by rintro (rfl | rfl | rfl) ; exact w92.mine; exact w38.mine; exact w39.mine)⟩
                refine rd_seq ?_
                refine rd_faug ?_
                refine rd_v rfl ?_
                refine fa_at w389.at_ T.c_Gluer T.na_Gluer_given (by rfl) ?_
                refine rd_cb ?_
                refine rd_cons ?_
                refine rd_v rfl ?_
                refine rd_nil ?_
                refine rd_lenQ (w390.l r387).r.q ?_
                refine fa_set (fs' := [("rule", u_rule), ("opened", (V.ref q378)), ("given", (V.int ((t299.2.2 + ((t299.1).length : Int)))))]) S388 w389 (by rfl) (by rfl) (fun H392 c393 w394 => ?_)
                have S395 := S388.call1 c393 w389
                have f22 := (qO qI).mono c393.le f22
                have f297 := (qL qS).mono c393.le f297
                have f_rule := qRule.mono c393.le f_rule
                have r387 := Row.mono c393.le r387
                have w390 := w390.call c393 (by intro z; exact (Ne.symm ne46) z)
                have r383 := Row.mono c393.le r383
                have w391 := w391.call c393 (by intro z; exact r384 z)
                cases hm
                refine rd_ret ?_
                refine rd_v rfl ?_
                exact hQ _ _ _ _ _ _ S395 w394 w391 r383 r384 w390 r387 (Ne.symm ne46) r385 z48
        · skip
          refine rd_next ?_
          refine rd_seq ?_
          refine rd_asg ?_
          refine rd_lst ?_
          refine rd_star ?_
          refine rd_v rfl ?_
          refine st_at (S91.l f88).r.q (fun us396 r397 => ?_)
          have r398 : Row qS K F84 [(V.str (a_thing))] [a_thing] := (.cons rfl .nil)
          obtain ⟨g399, hm⟩ := gd_some hm
          refine rd_cons ?_
          refine rd_v rfl ?_
          refine rd_nil ?_
          refine rd_lKs r397 r398 g399 ?_
          refine alL (K := K) (A := qS) (xs := (t58.2 ++ [a_thing])) S91 (pApp r397 r398) (fun v400 F401 H402 c403 f404 => ?_)
          have S405 := S91.call0 c403
          have f22 := (qO qI).mono c403.le f22
          have f88 := (qL qS).mono c403.le f88
          have f_rule := qRule.mono c403.le f_rule
          have w38 := w38.call0 c403
          have r35 := Row.mono c403.le r35
          have w39 := w39.call0 c403
          have r90 := Row.mono c403.le r90
          have w92 := w92.call0 c403
          obtain ⟨t406, e407, hm⟩ := bd_some hm
          refine rd_gn ?_
          refine rd_cut (fun σ' H' => ∃ (F : Hp) (q1_1 : Addr) (vs1_1 : List V) (vs0 : List V), σ' = [some (V.ref p_self), some (V.str (a_line)), some x18, some (V.str (a_thing)), some v400, some (V.ref p40), some (V.bl (t50))] ∧ Sx (fun a => a = p40 ∨ a = p_self ∨ a = q32) F401 H402 F H' ∧ Ow (fun a => a = p40 ∨ a = p_self ∨ a = q32) H402 F H' p_self (.ins (He.ga K "Gluer") dx [("rule", u_rule), ("opened", V.ref q1_1), ("given", (V.int (t406.2.2)))]) ∧ Ow (fun a => a = p40 ∨ a = p_self ∨ a = q32) H402 F H' q1_1 (.lst vs1_1) ∧ Row (q2 (qO qI) (qL qS)) K F vs1_1 t406.2.1 ∧ q1_1 ≠ p_self ∧ p40 ≠ q1_1 ∧ Ow (fun a => a = p40 ∨ a = p_self ∨ a = q32) H402 F H' p40 (.lst vs0) ∧ Row (q2 (qO qI) (qL qS)) K F vs0 t406.1) ?_ ?_
          · skip
            have S408 : Sx (fun a => a = p40 ∨ a = p_self ∨ a = q32) _ _ _ _ := Sx.refl S405.sub (by
                rintro a (rfl | rfl | rfl)
                · rw [w92.at_]; exact (fun h => nomatch h)
                · rw [w38.at_]; exact (fun h => nomatch h)
                · rw [w39.at_]; exact (fun h => nomatch h))
            have w409 : Ow (fun a => a = p40 ∨ a = p_self ∨ a = q32) H402 _ _ _ _ := ⟨w92.fr, w92.at_, .inr (Or.inl rfl)⟩
            have w410 : Ow (fun a => a = p40 ∨ a = p_self ∨ a = q32) H402 _ _ _ _ := ⟨w38.fr, w38.at_, .inr (Or.inr (Or.inl rfl))⟩
            have w411 : Ow (fun a => a = p40 ∨ a = p_self ∨ a = q32) H402 _ _ _ _ := ⟨w39.fr, w39.at_, .inr (Or.inr (Or.inr (rfl)))⟩
            refine rd_ifS ?_
            refine rd_or ?_
            refine rd_tB ?_
            refine rd_meth ?_
            refine rd_fld ?_
            refine rd_v rfl ?_
            refine fd_at w410.at_ T.c_Gluer T.na_Gluer_rule (by rfl) ?_
            refine mt_Rule_ends_on S408 f_rule ?_
            obtain ⟨t412, e413, e407⟩ := bd_some e407
            refine rd_cons ?_
            refine rd_v rfl ?_
            refine rd_nil ?_
            refine ⟨F401, _, _, _, t412, rfl, S408.sub, f_rule, e413, fun v417 F414 H415 c416 f418 => ?_⟩
            have S419 := S408.call0 c416
            have f22 := (qO qI).mono c416.le f22
            have f404 := (qL qS).mono c416.le f404
            have f_rule := qRule.mono c416.le f_rule
            have w410 := w410.call0 c416
            have r35 := Row.mono c416.le r35
            have w411 := w411.call0 c416
            have r90 := Row.mono c416.le r90
            have w409 := w409.call0 c416
            cases (show v417 = (V.bl (t412)) from f418)
            obtain ⟨t431, e432, e407⟩ := bd_some e407
            refine rd_b ?_
            refine or_j (fun c H' => c = t431 ∧ ∃ F', Sx P0 F414 H415 F' H') ?_ ?_ ?_
            · intro b433 Q434 q435
              have e432 := if_f e432 b433
              have S436 := Sx.refl0 S419.sub
              refine rd_test ?_
              refine rd_op ?_
              refine rd_prop ?_
              refine rd_fld ?_
              refine rd_v rfl ?_
              refine fd_at w410.at_ T.c_Gluer T.na_Gluer_rule (by rfl) ?_
              refine pr_Rule_most S436 f_rule ?_
              obtain ⟨t437, e438, e432⟩ := bd_some e432
              refine ⟨F414, _, _, t437, rfl, S436.sub, f_rule, e438, fun v442 F439 H440 c441 f443 => ?_⟩
              have S444 := S436.call0 c441
              have f22 := (qO qI).mono c441.le f22
              have f404 := (qL qS).mono c441.le f404
              have f_rule := qRule.mono c441.le f_rule
              have w410 := w410.call0 c441
              have r35 := Row.mono c441.le r35
              have w411 := w411.call0 c441
              have r90 := Row.mono c441.le r90
              have w409 := w409.call0 c441
              have f445 : (qO qI).r K F439 (V.int ((((t58.2 ++ [a_thing])).length : Int))) (some (((t58.2 ++ [a_thing])).length : Int)) := (show (qO qI).r K F439 (V.int ((((t58.2 ++ [a_thing])).length : Int))) (some (((t58.2 ++ [a_thing])).length : Int)) from rfl)
              obtain ⟨g446, e432⟩ := gd_some e432
              obtain ⟨g447, e432⟩ := gd_some e432
              cases e432
              refine rd_cb ?_
              refine rd_cons ?_
              refine rd_v rfl ?_
              refine rd_nil ?_
              refine rd_lenQ (S444.l f404).r.q ?_
              refine rd_eqD (D := (dO dI)) (S444.d (dO dI) f443) (S444.d (dO dI) f445) g446 g447 ?_
              refine rd_b ?_
              exact q435 _ _ ⟨rfl, F439, S444⟩
            · intro b433
              have e432 := if_t e432 b433
              cases e432
              have S448 := Sx.refl0 S419.sub
              exact ⟨rfl, F414, S448⟩
            rintro b452 H450 ⟨rfl, F449, c451⟩
            have S453 := S419.call0 c451
            have f22 := (qO qI).mono c451.le f22
            have f404 := (qL qS).mono c451.le f404
            have f_rule := qRule.mono c451.le f_rule
            have w410 := w410.call0 c451
            have r35 := Row.mono c451.le r35
            have w411 := w411.call0 c451
            have r90 := Row.mono c451.le r90
            have w409 := w409.call0 c451
            refine if_b e407 (fun b454 e407 => ?_) (fun b454 e407 => ?_)
            · skip
              refine rd_drop ?_
              refine rd_bm ?_
              refine rd_v rfl ?_
              refine rd_ty w409.ty ?_
              refine rd_cons ?_
              refine rd_tup ?_
              refine rd_cons ?_
              refine rd_v rfl ?_
              refine rd_cons ?_
              refine rd_v rfl ?_
              refine rd_nil ?_
              refine rd_uK rfl ?_
              refine alF S453 (fun p455 F456 H457 c458 h459 => ?_)
              have S460 := S453.call0 c458
              have f22 := (qO qI).mono c458.le f22
              have f404 := (qL qS).mono c458.le f404
              have f_rule := qRule.mono c458.le f_rule
              have w410 := w410.call0 c458
              have r35 := Row.mono c458.le r35
              have w411 := w411.call0 c458
              have r90 := Row.mono c458.le r90
              have w409 := w409.call0 c458
              have f461 : (q2 (qO qI) (qL qS)).r K F456 (.ref p455) (t1, (t58.2 ++ [a_thing])) := ⟨p455, _, _, rfl, .inl (.inl h459), f22, f404⟩
              obtain ⟨g462, e407⟩ := gd_some e407
              refine rd_nil ?_
              refine ap S460 w409 r90 g462 (fun H463 c464 w465 => ?_)
              have r466 := r90.snoc (show (q2 (qO qI) (qL qS)).r K F456 _ (t1, (t58.2 ++ [a_thing])) from f461)
              have S467 := S460.call1 c464 w409
              have f22 := (qO qI).mono c464.le f22
              have f404 := (qL qS).mono c464.le f404
              have f_rule := qRule.mono c464.le f_rule
              have w410 := w410.call c464 (by intro z; exact ne46 z)
              have r35 := Row.mono c464.le r35
              have w411 := w411.call c464 (by intro z; exact ne47 z)
              have r466 := Row.mono c464.le r466
              cases e407
              exact ⟨F456, _, _, _, rfl, S467, w410, w411, r35, ne36, (Ne.symm ne47), w465, r466⟩
            · skip
              refine rd_drop ?_
              refine rd_bm ?_
              refine rd_fld ?_
              refine rd_v rfl ?_
              refine fd_at w410.at_ T.c_Gluer T.na_Gluer_opened (by rfl) ?_
              refine rd_ty w411.ty ?_
              refine rd_cons ?_
              refine rd_tup ?_
              refine rd_cons ?_
              refine rd_v rfl ?_
              refine rd_cons ?_
              refine rd_v rfl ?_
              refine rd_nil ?_
              refine rd_uK rfl ?_
              refine alF S453 (fun p468 F469 H470 c471 h472 => ?_)
              have S473 := S453.call0 c471
              have f22 := (qO qI).mono c471.le f22
              have f404 := (qL qS).mono c471.le f404
              have f_rule := qRule.mono c471.le f_rule
              have w410 := w410.call0 c471
              have r35 := Row.mono c471.le r35
              have w411 := w411.call0 c471
              have r90 := Row.mono c471.le r90
              have w409 := w409.call0 c471
              have f474 : (q2 (qO qI) (qL qS)).r K F469 (.ref p468) (t1, (t58.2 ++ [a_thing])) := ⟨p468, _, _, rfl, .inl (.inl h472), f22, f404⟩
              obtain ⟨g475, e407⟩ := gd_some e407
              refine rd_nil ?_
              refine ap S473 w411 r35 g475 (fun H476 c477 w478 => ?_)
              have r479 := r35.snoc (show (q2 (qO qI) (qL qS)).r K F469 _ (t1, (t58.2 ++ [a_thing])) from f474)
              have S480 := S473.call1 c477 w411
              have f22 := (qO qI).mono c477.le f22
              have f404 := (qL qS).mono c477.le f404
              have f_rule := qRule.mono c477.le f_rule
              have w410 := w410.call c477 (by intro z; exact (Ne.symm ne36) z)
              have r479 := Row.mono c477.le r479
              have r90 := Row.mono c477.le r90
              have w409 := w409.call c477 (by intro z; exact (Ne.symm ne47) z)
              cases e407
              exact ⟨F469, _, _, _, rfl, S480, w410, w478, r479, ne36, (Ne.symm ne47), w409, r90⟩
          · skip
            rintro σ482 H481 ⟨F483, q485, v486, v487, rfl, S484, r488, r489, r490, r491, r492, w493, r494⟩
            have S495 := S405.call S484 (by
                rintro a (rfl | rfl | rfl)
                · exact w92.mine.symm
                · exact w38.mine.symm
                · exact w39.mine.symm)
            have f22 := (qO qI).mono S484.le f22
            have f404 := (qL qS).mono S484.le f404
            have f_rule := qRule.mono S484.le f_rule
            have w496 : Ow (fun a => a = p_self ∨ a = q_opened) H0 _ _ _ _ := ⟨r488.fr, r488.at_, w38.mine⟩
            have w497 : Ow (fun a => a = p_self ∨ a = q_opened) H0 _ _ _ _ := ⟨w493.fr, w493.at_, w92.mine⟩
            have w498 : Ow (fun a => a = p_self ∨ a = q_opened) H0 _ _ _ _ := ⟨r489.fr, r489.at_, r489.mine.elim (fun z => .inl (S405.free0 z)) (by rintro (rfl | rfl | rfl) ; exact w92.mine; exact w38.mine; exact w39.mine)⟩
            refine rd_seq ?_
            refine rd_faug ?_
            refine rd_v rfl ?_
            refine fa_at w496.at_ T.c_Gluer T.na_Gluer_given (by rfl) ?_
            refine rd_cb ?_
            refine rd_cons ?_
            refine rd_v rfl ?_
            refine rd_nil ?_
            refine rd_lenQ (w497.l r494).r.q ?_
            refine fa_set (fs' := [("rule", u_rule), ("opened", (V.ref q485)), ("given", (V.int ((t406.2.2 + ((t406.1).length : Int)))))]) S495 w496 (by rfl) (by rfl) (fun H499 c500 w501 => ?_)
            have S502 := S495.call1 c500 w496
            have f22 := (qO qI).mono c500.le f22
            have f404 := (qL qS).mono c500.le f404
            have f_rule := qRule.mono c500.le f_rule
            have r494 := Row.mono c500.le r494
            have w497 := w497.call c500 (by intro z; exact (Ne.symm ne46) z)
            have r490 := Row.mono c500.le r490
            have w498 := w498.call c500 (by intro z; exact r491 z)
            cases hm
            refine rd_ret ?_
            refine rd_v rfl ?_
            exact hQ _ _ _ _ _ _ S502 w501 w498 r490 r491 w497 r494 (Ne.symm ne46) r492 z48
def sp_Gluer___call__ (K : PySem.W.Frag) : Sp := fun vs H Q _ => ∃ (F : Hp) (p_self : Addr) (dx : Addr) (u_rule : V) (q_opened : Addr) (vs_opened : List V) (a_self : ((List Pat × List Pat × List (Str × Th)) × (List ((Option Int) × (List Str))) × Int)) (a_line : Str) (v_tag : V) (a_tag : (Option Int)) (r : ((List ((Option Int) × (List Str))) × ((List ((Option Int) × (List Str))) × Int))), vs = [.ref p_self, (V.str (a_line)), v_tag] ∧ Same F H ∧ Ow (fun a => a = p_self ∨ a = q_opened) H F H p_self (.ins (He.ga K "Gluer") dx [("rule", u_rule), ("opened", V.ref q_opened), ("given", (V.int (a_self.2.2)))]) ∧ qRule.r K F u_rule a_self.1 ∧ Ow (fun a => a = p_self ∨ a = q_opened) H F H q_opened (.lst vs_opened) ∧ Row (q2 (qO qI) (qL qS)) K F vs_opened a_self.2.1 ∧ q_opened ≠ p_self ∧ (qO qI).r K F v_tag a_tag ∧ m_Gluer___call__ a_self a_line a_tag = some r ∧ ∀ (p : Addr) (us : List V) (F' H' : Hp) (q'_opened : Addr) (vs'_opened : List V), Sx (fun a => a = p_self ∨ a = q_opened) F H F' H' → Ow (fun a => a = p_self ∨ a = q_opened) H F' H' p_self (.ins (He.ga K "Gluer") dx [("rule", u_rule), ("opened", V.ref q'_opened), ("given", (V.int (r.2.2)))]) → Ow (fun a => a = p_self ∨ a = q_opened) H F' H' q'_opened (.lst vs'_opened) → Row (q2 (qO qI) (qL qS)) K F' vs'_opened r.2.1 → q'_opened ≠ p_self → Ow (fun a => a = p_self ∨ a = q_opened) H F' H' p (.lst us) → Row (q2 (qO qI) (qL qS)) K F' us r.1 → p ≠ p_self → p ≠ q'_opened → H p = none → Q (.ref p) H'
theorem sc_Gluer___call__ : FnScope ["self", "line", "tag"] ["self", "line", "tag"] (defScope s_Gluer___call__) := ⟨rfl, rfl, rfl, by decide +kernel, rfl, by decide +kernel, by decide +kernel⟩
theorem bx_Gluer___call__ (T : Tx K mg) : ∃ ds, Vals (([V.non] : List V).drop 1) ds ∧ Binds K (fdOf K ("Gluer", some "__call__")) ["self", "line", "tag"] ds := FunD.binds1 T.F_Gluer___call__ 3 1 (by decide) rfl fun D kV doc pm an cdv ct us its l1 l2 => match us, l1, its, l2 with | [_, _, _], _, [_], _ => ⟨_, rfl, rfl⟩
theorem bn_Gluer___call__ (T : Tx K mg) : Binds K (fdOf K ("Gluer", some "__call__")) ["self", "line", "tag"] [] := binds_nil (bx_Gluer___call__ T).choose_spec.1 (bx_Gluer___call__ T).choose_spec.2
theorem bd_Gluer___call__ (T : Tx K mg) : ∃ ds, Vals (([V.non] : List V).drop 0) ds ∧ Binds K (fdOf K ("Gluer", some "__call__")) ["self", "line", "tag"] ds := FunD.binds1 T.F_Gluer___call__ 2 0 (by decide) rfl fun D kV doc pm an cdv ct us its l1 l2 => match us, l1, its, l2 with | [_, _], _, [_], _ => ⟨_, rfl, rfl⟩
theorem kb_Gluer___call__ (T : Tx K mg) : KBn K (fdOf K ("Gluer", some "__call__")) ["self", "line", "tag"] 2 ["tag"] (fun us ws => us ++ ws) (fun vs zs => vs ++ zs) := kbD T.F_Gluer___call__ 2 ["tag"] (by decide) (fun r1 r2 => pApp r1 r2) fun D kV doc pm an cdv ct us its ws l1 l2 l3 => match us, l1, its, l2, ws, l3 with | [_, _], _, [_], _, [_], _ => ⟨_, rfl, rfl⟩
theorem ok_Gluer___call__ (T : Tx K mg) : FnOk P w K mg base CX0 8 (He.fAd K ("Gluer", some "__call__")) (fdOf K ("Gluer", some "__call__")) ["self", "line", "tag"] (sp_Gluer___call__ K) := by
  refine FunD.ok T.F_Gluer___call__ sc_Gluer___call__ (fun vs H0 Q E h => ?_) (fun cdv A outer s H0 vs Q E hr h => ?_)
  · obtain ⟨_, _, _, _, _, _, _, _, _, _, _, rfl, _⟩ := h
    rfl
  · obtain ⟨F0, p_self, dx, u_rule, q_opened, vs_opened, a_self, a_line, v_tag, a_tag, r, rfl, hE, w_self, f_rule, w_opened, r_opened, n_opened, f_tag, hm, hQ⟩ := h
    refine ⟨_, PSs.nox ((pss_one (ps_ret (pe_meth (pv 0) T.c_Gluer T.me_Gluer_put (ok_Gluer_put T) (hr.mono (by decide)) (bn_Gluer_put T) .nil pass0 (pa_cons (pv 1) (pa_cons (pv 2) (pa_cons (pv 1) pa_nil))))))), ?_⟩
    have S : Sx (fun a => a = p_self ∨ a = q_opened) F0 H0 F0 H0 := Sx.refl hE (by
        rintro a (rfl | rfl)
        · rw [w_self.at_]; exact (fun h => nomatch h)
        · rw [w_opened.at_]; exact (fun h => nomatch h))
    unfold m_Gluer___call__ at hm
    refine rd_ret ?_
    refine rd_meth ?_
    refine rd_v rfl ?_
    refine mt_at w_self.at_ (by rfl) ?_
    obtain ⟨t1, e2, hm⟩ := bd_some hm
    refine rd_cons ?_
    refine rd_v rfl ?_
    refine rd_cons ?_
    refine rd_v rfl ?_
    refine rd_cons ?_
    refine rd_v rfl ?_
    refine rd_nil ?_
    refine ⟨F0, _, _, _, _, _, ((a_self.1, a_self.2.1, a_self.2.2)), _, _, _, _, t1, rfl, S.sub, ⟨w_self.fr, w_self.at_, .inr (Or.inl rfl)⟩, f_rule, ⟨w_opened.fr, w_opened.at_, .inr (Or.inr (rfl))⟩, r_opened, n_opened, f_tag, e2, fun p6 us7 F3 H4 q13 vs14 c5 w12 w15 r16 ne17 w8 r9 ne10 ne18 np11 => ?_⟩
    have z19 := S.free0 np11
    have S20 := S.call c5 (by
        rintro a (rfl | rfl)
        · exact w_self.mine.symm
        · exact w_opened.mine.symm)
    have f_tag := (qO qI).mono c5.le f_tag
    have f_rule := qRule.mono c5.le f_rule
    have w21 : Ow (fun a => a = p_self ∨ a = q_opened) H0 _ _ _ _ := ⟨w12.fr, w12.at_, w_self.mine⟩
    have w22 : Ow (fun a => a = p_self ∨ a = q_opened) H0 _ _ _ _ := ⟨w15.fr, w15.at_, w15.mine.elim (fun z => .inl (S.free0 z)) (by rintro (rfl | rfl) ; exact w_self.mine; exact w_opened.mine)⟩
    have w23 : Ow (fun a => a = p_self ∨ a = q_opened) H0 _ _ _ _ := ⟨w8.fr, w8.at_, w8.mine.elim (fun z => .inl (S.free0 z)) (by rintro (rfl | rfl) ; exact w_self.mine; exact w_opened.mine)⟩
    cases hm
    exact hQ _ _ _ _ _ _ S20 w21 w22 r16 ne17 w23 r9 ne10 ne18 z19
def sp_is_allowed_rules (K : PySem.W.Frag) : Sp := fun vs H Q _ => ∃ (F : Hp) (a_field : Str) (v_value : V) (a_value : Th) (r : Bool), vs = [(V.str (a_field)), v_value] ∧ Same F H ∧ qTh.r K F v_value a_value ∧ m_is_allowed_rules a_field a_value = some r ∧ ∀ v F' H', Sx P0 F H F' H' → qB.r K F' v r → Q v H'
theorem sc_is_allowed_rules : FnScope ["field", "value"] ["field", "value"] (defScope s_is_allowed_rules) := ⟨rfl, rfl, rfl, by decide +kernel, rfl, by decide +kernel, by decide +kernel⟩
theorem bn_is_allowed_rules (T : Tx K mg) : Binds K (fdOf K ("is_allowed_rules", none)) ["field", "value"] [] := FunD.bindsN T.F_is_allowed_rules fun _ _ _ _ _ _ us hl => match us, hl with | [_, _], _ => rfl
theorem ok_is_allowed_rules (T : Tx K mg) : FnOk P w K mg base CX0 1 (He.ga K "is_allowed_rules") (fdOf K ("is_allowed_rules", none)) ["field", "value"] (sp_is_allowed_rules K) := by
  refine FunD.ok T.F_is_allowed_rules sc_is_allowed_rules (fun vs H0 Q E h => ?_) (fun cdv A outer s H0 vs Q E hr h => ?_)
  · obtain ⟨_, _, _, _, _, rfl, _⟩ := h
    rfl
  · obtain ⟨F0, a_field, v_value, a_value, r, rfl, hE, f_value, hm, hQ⟩ := h
    refine ⟨_, PSs.nox ((pss_cons (ps_if (pt_cmpR (r := rIn K false) op_in_seq (pv 0) (pe_tup (pa_cons pe_str (pa_cons pe_str pa_nil))) rfl) (pss_one (ps_ret (pe_or (pe_cmpR op_isBv (pv 1) pe_bl (nomark _)) (pe_one (pe_cmpR op_isBv (pv 1) pe_bl (nomark _)))))) pss_nil) (pss_cons (ps_if (pt_cmpR op_isN' (pv 1) pe_non (nomark _)) (pss_one (ps_ret pe_bl)) pss_nil) (pss_cons (ps_if (PW.pt (pw_or (pt_not (pt_val (pe_callB (r := rIsi K) call_isi (by rfl) T.n_isinstance (by decide +kernel) (pa_cons (pv 1) (pa_cons (pe_bltn (v := V.ty "int") (by rfl) T.n_int (by decide +kernel) rfl) pa_nil))))) (pw_or1 (pt_val (pe_callB (r := rIsi K) call_isi (by rfl) T.n_isinstance (by decide +kernel) (pa_cons (pv 1) (pa_cons (pe_bltn (v := V.ty "bool") (by rfl) T.n_bool (by decide +kernel) rfl) pa_nil))))))) (pss_one (ps_ret pe_bl)) pss_nil) (pss_cons (ps_if (pt_cmpR op_eqS (pv 0) pe_str (nomark _)) (pss_one (ps_ret (pe_chain op_le op_le pe_int (pv 1) pe_int))) pss_nil) (pss_one (ps_ret (pe_chain op_le op_le pe_int (pv 1) pe_int)))))))), ?_⟩
    have S : Sx P0 F0 H0 F0 H0 := Sx.refl0 hE
    unfold m_is_allowed_rules at hm
    refine rd_seq ?_
    refine rd_ifS ?_
    refine rd_test ?_
    refine rd_op ?_
    refine rd_v rfl ?_
    refine rd_tup ?_
    refine rd_cons ?_
    refine rd_c ?_
    refine rd_cons ?_
    refine rd_c ?_
    refine rd_nil ?_
    refine rd_uK rfl ?_
    refine alT (K := K) (A := qS) (xs := [("alone" : Str), ("quiet" : Str)]) S (.cons rfl (.cons rfl .nil)) (fun v1 F2 H3 c4 f5 => ?_)
    have S6 := S.call0 c4
    have f_value := qTh.mono c4.le f_value
    refine rd_inS (S6.t f5).q ?_
    refine rd_b ?_
    refine if_b hm (fun b7 hm => ?_) (fun b7 hm => ?_)
    · skip
      cases hm
      refine rd_ret ?_
      refine rd_orV ?_
      refine rd_op ?_
      refine rd_v rfl ?_
      refine rd_c ?_
      refine rd_isBTh f_value ?_
      refine rd_b ?_
      refine orV_p (by intro _ Q' q; refine rd_op ?_; refine rd_v rfl ?_; refine rd_c ?_; refine rd_isBTh f_value ?_; exact q) ?_
      exact hQ _ _ _ S6 rfl
    · skip
      refine rd_next ?_
      refine rd_seq ?_
      refine rd_ifS ?_
      refine rd_test ?_
      refine rd_op ?_
      refine rd_v rfl ?_
      refine rd_c ?_
      refine rd_isNTh f_value ?_
      refine rd_b ?_
      refine if_b hm (fun b8 hm => ?_) (fun b8 hm => ?_)
      · skip
        cases hm
        refine rd_ret ?_
        refine rd_c ?_
        exact hQ _ _ _ S6 rfl
      · skip
        refine rd_next ?_
        refine rd_seq ?_
        refine rd_ifS ?_
        refine rd_or ?_
        refine rd_not ?_
        refine rd_tB ?_
        refine rd_cb ?_
        refine rd_cons ?_
        refine rd_v rfl ?_
        refine rd_cons ?_
        refine rd_c ?_
        refine rd_nil ?_
        refine rd_isiTh (n := "int") (tx_th S6 f_value) (by decide +kernel) ?_
        refine rd_b ?_
        refine or_p (by intro _ Q' q; refine rd_tB ?_; refine rd_cb ?_; refine rd_cons ?_; refine rd_v rfl ?_; refine rd_cons ?_; refine rd_c ?_; refine rd_nil ?_; refine rd_isiTh (n := "bool") (tx_th S6 f_value) (by decide +kernel) ?_; refine rd_b ?_; exact q) ?_
        refine if_b hm (fun b9 hm => ?_) (fun b9 hm => ?_)
        · skip
          cases hm
          refine rd_ret ?_
          refine rd_c ?_
          exact hQ _ _ _ S6 rfl
        · skip
          refine rd_next ?_
          refine rd_seq ?_
          refine rd_ifS ?_
          refine rd_test ?_
          refine rd_op ?_
          refine rd_v rfl ?_
          refine rd_c ?_
          refine rd_S0 ?_
          refine rd_b ?_
          refine if_b hm (fun b10 hm => ?_) (fun b10 hm => ?_)
          · skip
            obtain ⟨t11, e12, hm⟩ := bd_some hm
            have e13 := thI_fact f_value e12
            cases e13
            cases hm
            refine rd_ret ?_
            refine rd_chain ?_
            refine rd_c ?_
            refine rd_v rfl ?_
            refine rd_I0 ?_
            refine ch_at (c := decide (t11 ≤ 20)) (by intro Q9 k9; refine rd_c ?_; exact k9) (fun _ k9 => rd_I0 k9) ?_
            exact hQ _ _ _ S6 rfl
          · skip
            obtain ⟨t14, e15, hm⟩ := bd_some hm
            have e16 := thI_fact f_value e15
            cases e16
            cases hm
            refine rd_next ?_
            refine rd_ret ?_
            refine rd_chain ?_
            refine rd_c ?_
            refine rd_v rfl ?_
            refine rd_I0 ?_
            refine ch_at (c := decide (t14 ≤ 9)) (by intro Q9 k9; refine rd_c ?_; exact k9) (fun _ k9 => rd_I0 k9) ?_
            exact hQ _ _ _ S6 rfl
def sp_check_settings (K : PySem.W.Frag) : Sp := fun vs H Q _ => ∃ (F : Hp) (v_settings : V) (a_settings : (List (Str × Th))) (r : Unit), vs = [v_settings] ∧ Same F H ∧ qSd.r K F v_settings a_settings ∧ m_check_settings a_settings = some r ∧ ∀ v F' H', Sx P0 F H F' H' → qN.r K F' v r → Q v H'
theorem sc_check_settings : FnScope ["settings", "field"] ["settings"] (defScope s_check_settings) := ⟨rfl, rfl, rfl, by decide +kernel, rfl, by decide +kernel, by decide +kernel⟩
theorem bn_check_settings (T : Tx K mg) : Binds K (fdOf K ("check_settings", none)) ["settings"] [] := FunD.bindsN T.F_check_settings fun _ _ _ _ _ _ us hl => match us, hl with | [_], _ => rfl
theorem ok_check_settings (T : Tx K mg) : FnOk P w K mg base CX0 2 (He.ga K "check_settings") (fdOf K ("check_settings", none)) ["settings"] (sp_check_settings K) := by
  refine FunD.ok T.F_check_settings sc_check_settings (fun vs H0 Q E h => ?_) (fun cdv A outer s H0 vs Q E hr h => ?_)
  · obtain ⟨_, _, _, _, rfl, _⟩ := h
    rfl
  · obtain ⟨F0, v_settings, a_settings, r, rfl, hE, f_settings, hm, hQ⟩ := h
    refine ⟨_, PSs.nox ((pss_one (ps_for PassesOwn.never rfl (pi_tupK (pe_glob (v := V.ref (He.ga K "FIELDS")) (by rfl) T.g_FIELDS rfl)) (pg_name (i := 1) sc_check_settings.nd rfl (by first | exact Or.inl rfl | exact Or.inr rfl)) (pss_one (ps_if (PW.pt (pw_and (pt_cmpR (op_dIn hr.units) (pv 1) (pv 0) rfl) (pw_and1 (pt_not (pt_val (pe_call (ok_is_allowed_rules T) (hr.mono (by decide)) (by rfl) T.g_is_allowed_rules T.F_is_allowed_rules.kp (bn_is_allowed_rules T) .nil pass0 (pa_cons (pv 1) (pa_cons (pe_dgetO hr.units (pv 0) (pv 1) (fun _ _ => rfl)) pa_nil)))))))) (pss_one ps_dead) pss_nil))))), ?_⟩
    have S : Sx P0 F0 H0 F0 H0 := Sx.refl0 hE
    unfold m_check_settings at hm
    have f1 : (qT qS).r K F0 (.ref (He.ga K "FIELDS")) (["most", "alone", "tags", "quiet"] : List Str) := T.q_FIELDS _
    refine rd_for ?_
    refine rd_iT ?_
    refine rd_c ?_
    refine rd_wTF S f1 (fun p2 vs3 hq4 row5 => ?_)
    obtain ⟨t6, e7, hm⟩ := bd_some hm
    refine rd_forS feedsT (typedRow row5) e7 (fun (s8 : Unit) σ H => ∃ (F : Hp) (o1 : Option V), σ = [some v_settings, o1] ∧ Sx P0 F0 H0 F H) ?_ ?_ ?_ ?_
    · rintro _ _ _ ⟨_, _, _, S9⟩
      exact (same_t S9.sub (same_t S9.le hq4))
    · skip
      have S10 := Sx.refl0 S.sub
      exact ⟨F0, _, rfl, S10⟩
    · skip
      rintro x11 v12 s13 c17 σ14 H15 f16 ⟨F18, o20, rfl, S19⟩ hm23
      have f_settings := qSd.mono S19.le f_settings
      unfold m_check_settings_b1 at hm23
      cases (show v12 = (V.str (x11)) from f16)
      obtain ⟨t36, e37, hm23⟩ := bd_some hm23
      refine rd_gn ?_
      refine rd_ifS ?_
      refine rd_and ?_
      refine rd_test ?_
      refine rd_op ?_
      refine rd_v rfl ?_
      refine rd_v rfl ?_
      refine rd_dInSd S19 f_settings ?_
      refine rd_b ?_
      refine and_j (fun c H' => c = t36 ∧ ∃ F', Sx P0 F18 H15 F' H') ?_ ?_ ?_
      · intro b38 Q39 q40
        have e37 := if_t e37 b38
        have S41 := Sx.refl0 S19.sub
        obtain ⟨t42, e43, e37⟩ := bd_some e37
        refine rd_not ?_
        refine rd_tB ?_
        refine rd_call ?_
        refine rd_cons ?_
        refine rd_v rfl ?_
        refine rd_cons ?_
        refine rd_op ?_
        refine rd_v rfl ?_
        refine rd_v rfl ?_
        refine rd_dgSd S41 f_settings e43 (fun u44 f45 => ?_)
        obtain ⟨t46, e47, e37⟩ := bd_some e37
        refine rd_nil ?_
        refine ⟨F18, _, _, _, t46, rfl, S41.sub, f45, e47, fun v51 F48 H49 c50 f52 => ?_⟩
        have S53 := S41.call0 c50
        have f_settings := qSd.mono c50.le f_settings
        cases (show v51 = (V.bl (t46)) from f52)
        cases e37
        refine rd_b ?_
        exact q40 _ _ ⟨rfl, F48, S53⟩
      · intro b38
        have e37 := if_f e37 b38
        cases e37
        have S54 := Sx.refl0 S19.sub
        exact ⟨rfl, F18, S54⟩
      rintro b58 H56 ⟨rfl, F55, c57⟩
      have S59 := S19.call0 c57
      have f_settings := qSd.mono c57.le f_settings
      refine if_b hm23 (fun b60 hm23 => ?_) (fun b60 hm23 => ?_)
      · skip
        cases hm23
      · skip
        cases hm23
        refine rd_next ?_
        exact ⟨F55, _, rfl, S59⟩
    · skip
      rintro σ61 H62 ⟨F63, o65, rfl, S64⟩
      have S66 := S.call0 S64
      have f_settings := qSd.mono S64.le f_settings
      cases hm
      exact hQ _ _ _ S66 rfl
def sp_Rule___init__ (K : PySem.W.Frag) : Sp := fun vs H Q _ => ∃ (F : Hp) (p_self : Addr) (dx : Addr) (v_begins : V) (a_begins : (List Pat)) (v_ends : V) (a_ends : (List Pat)) (v_most : V) (a_most : Th) (v_alone : V) (a_alone : Th) (v_tags : V) (a_tags : Th) (v_quiet : V) (a_quiet : Th) (r : ((List Pat) × (List Pat) × (List (Str × Th)))), vs = [.ref p_self, v_begins, v_ends, v_most, v_alone, v_tags, v_quiet] ∧ Same F H ∧ Ow (fun a => a = p_self) H F H p_self (.ins (He.ga K "Rule") dx []) ∧ (qL qPat).r K F v_begins a_begins ∧ (qL qPat).r K F v_ends a_ends ∧ qTh.r K F v_most a_most ∧ qTh.r K F v_alone a_alone ∧ qTh.r K F v_tags a_tags ∧ qTh.r K F v_quiet a_quiet ∧ m_Rule___init__ a_begins a_ends a_most a_alone a_tags a_quiet = some r ∧ ∀ (F' H' : Hp) (u0 u1 u2 : V), Sx (fun a => a = p_self) F H F' H' → Ow (fun a => a = p_self) H F' H' p_self (.ins (He.ga K "Rule") dx [("openers", u0), ("closers", u1), ("settings", u2)]) → (qL qPat).r K F' u0 r.1 → (qL qPat).r K F' u1 r.2.1 → qSd.r K F' u2 r.2.2 → Q .non H'
theorem sc_Rule___init__ : FnScope ["self", "begins", "ends", "most", "alone", "tags", "quiet", "settings"] ["self", "begins", "ends", "most", "alone", "tags", "quiet"] (defScope s_Rule___init__) := ⟨rfl, rfl, rfl, by decide +kernel, rfl, by decide +kernel, by decide +kernel⟩
theorem kb_Rule___init___0 (T : Tx K mg) : ∃ mv : List Value, KBn K (fdOf K ("Rule", some "__init__")) ["self", "begins", "ends", "most", "alone", "tags", "quiet"] 3 ["most", "alone", "tags", "quiet"] (fun us ws => us ++ (((ws.drop 0).take 1) ++ (((ws.drop 1).take 1) ++ (((ws.drop 2).take 1) ++ (((ws.drop 3).take 1)))))) (fun vs zs => vs ++ (((zs.drop 0).take 1) ++ (((zs.drop 1).take 1) ++ (((zs.drop 2).take 1) ++ (((zs.drop 3).take 1)))))) :=
  FunD.kbinds0 T.F_Rule___init__ 3 ["most", "alone", "tags", "quiet"] [] (fun us mv ws => us ++ (((ws.drop 0).take 1) ++ (((ws.drop 1).take 1) ++ (((ws.drop 2).take 1) ++ (((ws.drop 3).take 1)))))) (by decide) (fun q hq => by cases hq) (fun r1 r2 r3 => pApp r1 (pApp (pTake 1 (pDrop 0 r3)) (pApp (pTake 1 (pDrop 1 r3)) (pApp (pTake 1 (pDrop 2 r3)) (pTake 1 (pDrop 3 r3)))))) fun D doc pm an cdv ct us mv ws l1 l2 l3 => match us, l1, mv, l2, ws, l3 with | [_, _, _], _, [], _, [_, _, _, _], _ => rfl
theorem kd_Rule___init__ (T : Tx K mg) : ∃ ds, Vals (([("most", V.non), ("alone", V.bl true), ("tags", V.non), ("quiet", V.bl false)] : List (Str × V)).map (·.2)) ds ∧ Binds K (fdOf K ("Rule", some "__init__")) ["self", "begins", "ends", "most", "alone", "tags", "quiet"] ds :=
  FunD.binds0 T.F_Rule___init__ 3 (by decide) rfl fun D doc pm an cdv ct us ks l1 l2 => match us, l1, ks, l2 with | [_, _, _], _, [_, _, _, _], _ => ⟨_, _, _, _, _, _, rfl, rfl, ⟨_, _, _, _, _, _, rfl, rfl, ⟨_, _, _, _, _, _, rfl, rfl, ⟨_, _, _, _, _, _, rfl, rfl, rfl⟩⟩⟩⟩
theorem ok_Rule___init__ (T : Tx K mg) : FnOk P w K mg base CX0 3 (He.fAd K ("Rule", some "__init__")) (fdOf K ("Rule", some "__init__")) ["self", "begins", "ends", "most", "alone", "tags", "quiet"] (sp_Rule___init__ K) := by
  refine FunD.ok T.F_Rule___init__ sc_Rule___init__ (fun vs H0 Q E h => ?_) (fun cdv A outer s H0 vs Q E hr h => ?_)
  · obtain ⟨_, _, _, _, _, _, _, _, _, _, _, _, _, _, _, _, rfl, _⟩ := h
    rfl
  · obtain ⟨F0, p_self, dx, v_begins, a_begins, v_ends, a_ends, v_most, a_most, v_alone, a_alone, v_tags, a_tags, v_quiet, a_quiet, r, rfl, hE, w_self, f_begins, f_ends, f_most, f_alone, f_tags, f_quiet, hm, hQ⟩ := h
    refine ⟨_, PSs.nox ((pss_cons (ps_if (pt_cmpR op_gt (pe_op op_add (pe_callB (r := rLenQ K) cr_lenQ (by rfl) T.n_len (by decide +kernel) (pa_cons (pv 1) pa_nil)) (pe_callB (r := rLenQ K) cr_lenQ (by rfl) T.n_len (by decide +kernel) (pa_cons (pv 2) pa_nil))) pe_int (nomark _)) (pss_one ps_dead) pss_nil) (pss_cons (ps_set (i := 7) sc_Rule___init__.nd rfl (by first | exact Or.inl rfl | exact Or.inr rfl) (pe_disp (pps_cons pe_str (pv 3) (pps_cons pe_str (pv 4) (pps_cons pe_str (pv 5) (pps_cons pe_str (pv 6) pps_nil)))) rfl rfl (by decide) (by decide))) (pss_cons (ps_expr (pe_call (ok_check_settings T) (hr.mono (by decide)) (by rfl) T.g_check_settings T.F_check_settings.kp (bn_check_settings T) .nil pass0 (pa_cons (pv 7) pa_nil))) (pss_cons (ps_fld (pv 0) (pe_callTy (r := rListQ K) cr_listQ (by rfl) T.n_list (by decide +kernel) (pa_cons (pv 1) pa_nil)) rfl) (pss_cons (ps_fld (pv 0) (pe_callTy (r := rListQ K) cr_listQ (by rfl) T.n_list (by decide +kernel) (pa_cons (pv 2) pa_nil)) rfl) (pss_one (ps_fld (pv 0) (pv 7) rfl)))))))), ?_⟩
    have S : Sx (fun a => a = p_self) F0 H0 F0 H0 := Sx.refl hE (live1 w_self)
    unfold m_Rule___init__ at hm
    refine rd_seq ?_
    refine rd_ifS ?_
    refine rd_test ?_
    refine rd_op ?_
    refine rd_op ?_
    refine rd_cb ?_
    refine rd_cons ?_
    refine rd_v rfl ?_
    refine rd_nil ?_
    refine rd_lenQ (S.l f_begins).r.q ?_
    refine rd_cb ?_
    refine rd_cons ?_
    refine rd_v rfl ?_
    refine rd_nil ?_
    refine rd_lenQ (S.l f_ends).r.q ?_
    refine rd_I0 ?_
    refine rd_c ?_
    refine rd_I0 ?_
    refine rd_b ?_
    refine if_b hm (fun b1 hm => ?_) (fun b1 hm => ?_)
    · skip
      cases hm
    · skip
      refine rd_next ?_
      refine rd_seq ?_
      refine rd_asg ?_
      refine rd_disp S (fun p2 H3 np4 c5 w6 => ?_)
      have ne7 : p_self ≠ p2 := w_self.ne np4
      have z8 := S.free0 np4
      have S9 := S.call0 c5
      have f_begins := (qL qPat).mono c5.le f_begins
      have f_ends := (qL qPat).mono c5.le f_ends
      have f_most := qTh.mono c5.le f_most
      have f_alone := qTh.mono c5.le f_alone
      have f_tags := qTh.mono c5.le f_tags
      have f_quiet := qTh.mono c5.le f_quiet
      have w_self := w_self.call0 c5
      have r10 : SdRow K F0 ([(.inr "most", v_most), (.inr "alone", v_alone), (.inr "tags", v_tags), (.inr "quiet", v_quiet)] : List (Key × V)) [(("most" : Str), a_most), (("alone" : Str), a_alone), (("tags" : Str), a_tags), (("quiet" : Str), a_quiet)] := (.cons ⟨rfl, f_most⟩ (.cons ⟨rfl, f_alone⟩ (.cons ⟨rfl, f_tags⟩ (.cons ⟨rfl, f_quiet⟩ .nil))))
      refine rd_pp ?_
      refine rd_c ?_
      refine rd_v rfl ?_
      refine rd_pp ?_
      refine rd_c ?_
      refine rd_v rfl ?_
      refine rd_pp ?_
      refine rd_c ?_
      refine rd_v rfl ?_
      refine rd_pp ?_
      refine rd_c ?_
      refine rd_v rfl ?_
      refine rd_p0 ?_
      refine rd_dispE (ks := [.inr "most", .inr "alone", .inr "tags", .inr "quiet"]) S9 w6 r10 rfl rfl rfl (by decide +kernel) (fun H11 c12 w13 => ?_)
      have S14 := S9.call1 c12 w6
      have f_begins := (qL qPat).mono c12.le f_begins
      have f_ends := (qL qPat).mono c12.le f_ends
      have f_most := qTh.mono c12.le f_most
      have f_alone := qTh.mono c12.le f_alone
      have f_tags := qTh.mono c12.le f_tags
      have f_quiet := qTh.mono c12.le f_quiet
      have w_self := w_self.call c12 (by intro z; exact ne7 z)
      have r10 := SdRow.mono c12.le r10
      obtain ⟨F15, S16, le17, f18, eq19⟩ := fzSd S14 w13 z8 r10
      have f_begins := (qL qPat).mono le17 f_begins
      have f_ends := (qL qPat).mono le17 f_ends
      have f_most := qTh.mono le17 f_most
      have f_alone := qTh.mono le17 f_alone
      have f_tags := qTh.mono le17 f_tags
      have f_quiet := qTh.mono le17 f_quiet
      have w_self := w_self.fzO ne7 eq19
      obtain ⟨t20, e21, hm⟩ := bd_some hm
      refine rd_gn ?_
      refine rd_seq ?_
      refine rd_drop ?_
      refine rd_call ?_
      refine rd_cons ?_
      refine rd_v rfl ?_
      refine rd_nil ?_
      refine ⟨F15, _, _, t20, rfl, S16.sub, f18, e21, fun v25 F22 H23 c24 f26 => ?_⟩
      have S27 := S16.call0 c24
      have f_begins := (qL qPat).mono c24.le f_begins
      have f_ends := (qL qPat).mono c24.le f_ends
      have f_most := qTh.mono c24.le f_most
      have f_alone := qTh.mono c24.le f_alone
      have f_tags := qTh.mono c24.le f_tags
      have f_quiet := qTh.mono c24.le f_quiet
      have f18 := qSd.mono c24.le f18
      have w_self := w_self.call0 c24
      cases (show v25 = V.non from f26)
      refine rd_seq ?_
      refine rd_sfld ?_
      refine rd_cb ?_
      refine rd_cons ?_
      refine rd_v rfl ?_
      refine rd_nil ?_
      refine rd_listQ (S27.l f_begins).r.q ?_
      refine alL' S27 (fun v28 F29 H30 c31 f32 => ?_)
      have S33 := S27.call0 c31
      have f_begins := (qL qPat).mono c31.le f_begins
      have f_ends := (qL qPat).mono c31.le f_ends
      have f_most := qTh.mono c31.le f_most
      have f_alone := qTh.mono c31.le f_alone
      have f_tags := qTh.mono c31.le f_tags
      have f_quiet := qTh.mono c31.le f_quiet
      have f18 := qSd.mono c31.le f18
      have w_self := w_self.call0 c31
      refine rd_v rfl ?_
      refine fset (fs' := [("openers", v28)]) S33 w_self T.c_Rule T.na_Rule_openers (by rfl) (by rfl) (fun H34 c35 w36 => ?_)
      have f37 : (qL qPat).r K F29 v28 a_begins := f32
      have S38 := S33.call1 c35 w_self
      have f_begins := (qL qPat).mono c35.le f_begins
      have f_ends := (qL qPat).mono c35.le f_ends
      have f_most := qTh.mono c35.le f_most
      have f_alone := qTh.mono c35.le f_alone
      have f_tags := qTh.mono c35.le f_tags
      have f_quiet := qTh.mono c35.le f_quiet
      have f18 := qSd.mono c35.le f18
      have f37 := (qL qPat).mono c35.le f37
      refine rd_seq ?_
      refine rd_sfld ?_
      refine rd_cb ?_
      refine rd_cons ?_
      refine rd_v rfl ?_
      refine rd_nil ?_
      refine rd_listQ (S38.l f_ends).r.q ?_
      refine alL' S38 (fun v39 F40 H41 c42 f43 => ?_)
      have S44 := S38.call0 c42
      have f_begins := (qL qPat).mono c42.le f_begins
      have f_ends := (qL qPat).mono c42.le f_ends
      have f_most := qTh.mono c42.le f_most
      have f_alone := qTh.mono c42.le f_alone
      have f_tags := qTh.mono c42.le f_tags
      have f_quiet := qTh.mono c42.le f_quiet
      have f18 := qSd.mono c42.le f18
      have f37 := (qL qPat).mono c42.le f37
      have w36 := w36.call0 c42
      refine rd_v rfl ?_
      refine fset (fs' := [("openers", v28), ("closers", v39)]) S44 w36 T.c_Rule T.na_Rule_closers (by rfl) (by rfl) (fun H45 c46 w47 => ?_)
      have f48 : (qL qPat).r K F40 v39 a_ends := f43
      have S49 := S44.call1 c46 w36
      have f_begins := (qL qPat).mono c46.le f_begins
      have f_ends := (qL qPat).mono c46.le f_ends
      have f_most := qTh.mono c46.le f_most
      have f_alone := qTh.mono c46.le f_alone
      have f_tags := qTh.mono c46.le f_tags
      have f_quiet := qTh.mono c46.le f_quiet
      have f18 := qSd.mono c46.le f18
      have f37 := (qL qPat).mono c46.le f37
      have f48 := (qL qPat).mono c46.le f48
      refine rd_sfld ?_
      refine rd_v rfl ?_
      refine rd_v rfl ?_
      refine fset (fs' := [("openers", v28), ("closers", v39), ("settings", (V.ref p2))]) S49 w47 T.c_Rule T.na_Rule_settings (by rfl) (by rfl) (fun H50 c51 w52 => ?_)
      have f53 : qSd.r K F40 (V.ref p2) [(("most" : Str), a_most), (("alone" : Str), a_alone), (("tags" : Str), a_tags), (("quiet" : Str), a_quiet)] := f18
      have S54 := S49.call1 c51 w47
      have f_begins := (qL qPat).mono c51.le f_begins
      have f_ends := (qL qPat).mono c51.le f_ends
      have f_most := qTh.mono c51.le f_most
      have f_alone := qTh.mono c51.le f_alone
      have f_tags := qTh.mono c51.le f_tags
      have f_quiet := qTh.mono c51.le f_quiet
      have f18 := qSd.mono c51.le f18
      have f37 := (qL qPat).mono c51.le f37
      have f48 := (qL qPat).mono c51.le f48
      have f53 := qSd.mono c51.le f53
      cases hm
      exact hQ _ _ v28 v39 (V.ref p2) S54 w52 f37 f48 f53
theorem new_Rule {P0' : Addr → Prop} {F0 H0 F H : Hp} {Q : VK} {E : XK} {b0 : (List Pat)} {v0 : V} {b1 : (List Pat)} {v1 : V} {b2 : Th} {v2 : V} {b3 : Th} {v3 : V} {b4 : Th} {v4 : V} {b5 : Th} {v5 : V} {r : ((List Pat) × (List Pat) × (List (Str × Th)))} (S : Sx P0' F0 H0 F H) (f0 : (qL qPat).r K F v0 b0) (f1 : (qL qPat).r K F v1 b1) (f2 : qTh.r K F v2 b2) (f3 : qTh.r K F v3 b3) (f4 : qTh.r K F v4 b4) (f5 : qTh.r K F v5 b5) (hm : m_Rule___init__ b0 b1 b2 b3 b4 b5 = some r) (k : ∀ v F' H', Sx P0 F H F' H' → qRule.r K F' v r → Q v H') : mkK (He.ga K "Rule") (sp_Rule___init__ K) E Q [v0, v1, v2, v3, v4, v5] H := by
  refine mk_plain S fun x dx H1 hx c1 w => ?_
  refine ⟨F, x, dx, v0, b0, v1, b1, v2, b2, v3, b3, v4, b4, v5, b5, r, rfl, c1.sub, w, f0, f1, f2, f3, f4, f5, hm, fun F' H' u0 u1 u2 c w' k0 k1 k2 => ⟨rfl, ?_⟩⟩
  obtain ⟨F2, S2, le, h3⟩ := fzI c1 hx c w'
  exact k _ F2 H' S2 ⟨x, dx, u0, u1, u2, rfl, h3, (qL qPat).mono le k0, (qL qPat).mono le k1, qSd.mono le k2⟩
def sp_Rule_with_marks (K : PySem.W.Frag) : Sp := fun vs H Q _ => ∃ (F : Hp) (v_self : V) (a_self : (List Pat × List Pat × List (Str × Th))) (v_begins : V) (a_begins : (List Pat)) (v_ends : V) (a_ends : (List Pat)) (r : (List Pat × List Pat × List (Str × Th))), vs = [v_self, v_begins, v_ends] ∧ Same F H ∧ qRule.r K F v_self a_self ∧ (qL qPat).r K F v_begins a_begins ∧ (qL qPat).r K F v_ends a_ends ∧ m_Rule_with_marks a_self a_begins a_ends = some r ∧ ∀ v F' H', Sx P0 F H F' H' → qRule.r K F' v r → Q v H'
theorem sc_Rule_with_marks : FnScope ["self", "begins", "ends", "openers", "closers"] ["self", "begins", "ends"] (defScope s_Rule_with_marks) := ⟨rfl, rfl, rfl, by decide +kernel, rfl, by decide +kernel, by decide +kernel⟩
theorem bn_Rule_with_marks (T : Tx K mg) : Binds K (fdOf K ("Rule", some "with_marks")) ["self", "begins", "ends"] [] := FunD.bindsN T.F_Rule_with_marks fun _ _ _ _ _ _ us hl => match us, hl with | [_, _, _], _ => rfl
theorem ok_Rule_with_marks (T : Tx K mg) : FnOk P w K mg base CX0 5 (He.fAd K ("Rule", some "with_marks")) (fdOf K ("Rule", some "with_marks")) ["self", "begins", "ends"] (sp_Rule_with_marks K) := by
  refine FunD.ok T.F_Rule_with_marks sc_Rule_with_marks (fun vs H0 Q E h => ?_) (fun cdv A outer s H0 vs Q E hr h => ?_)
  · obtain ⟨_, _, _, _, _, _, _, _, rfl, _⟩ := h
    rfl
  · obtain ⟨F0, v_self, a_self, v_begins, a_begins, v_ends, a_ends, r, rfl, hE, f_self, f_begins, f_ends, hm, hQ⟩ := h
    refine ⟨_, PSs.nox ((pss_cons (ps_set (i := 3) sc_Rule_with_marks.nd rfl (by first | exact Or.inl rfl | exact Or.inr rfl) (pe_op op_cat (pe_fldK (pv 0) rfl) (pv 1))) (pss_cons (ps_set (i := 4) sc_Rule_with_marks.nd rfl (by first | exact Or.inl rfl | exact Or.inr rfl) (pe_op op_cat (pe_fldK (pv 0) rfl) (pv 2))) (pss_one (ps_ret (pe_makeW T.mk_Rule (ok_Rule___init__ T) (hr.mono (by decide)) (by rfl) T.gc_Rule (kb_Rule___init___0 T).choose_spec pass0 (pa_cons (pv 3) (pa_cons (pv 4) pa_nil)) (pe_fldK (pv 0) rfl))))))), ?_⟩
    have S : Sx P0 F0 H0 F0 H0 := Sx.refl0 hE
    unfold m_Rule_with_marks at hm
    refine rd_seq ?_
    refine rd_asg ?_
    refine rd_op ?_
    refine rd_fld ?_
    refine rd_v rfl ?_
    refine fld_Rule_openers T S f_self (fun u1 f2 => ?_)
    obtain ⟨g3, hm⟩ := gd_some hm
    refine rd_v rfl ?_
    refine rd_cat (S.l f2) (S.l f_begins) g3 ?_
    refine alL' S (fun v4 F5 H6 c7 f8 => ?_)
    have S9 := S.call0 c7
    have f_self := qRule.mono c7.le f_self
    have f_begins := (qL qPat).mono c7.le f_begins
    have f_ends := (qL qPat).mono c7.le f_ends
    refine rd_gn ?_
    refine rd_seq ?_
    refine rd_asg ?_
    refine rd_op ?_
    refine rd_fld ?_
    refine rd_v rfl ?_
    refine fld_Rule_closers T S9 f_self (fun u10 f11 => ?_)
    obtain ⟨g12, hm⟩ := gd_some hm
    refine rd_v rfl ?_
    refine rd_cat (S9.l f11) (S9.l f_ends) g12 ?_
    refine alL' S9 (fun v13 F14 H15 c16 f17 => ?_)
    have S18 := S9.call0 c16
    have f_self := qRule.mono c16.le f_self
    have f_begins := (qL qPat).mono c16.le f_begins
    have f_ends := (qL qPat).mono c16.le f_ends
    have f8 := (qL qPat).mono c16.le f8
    refine rd_gn ?_
    refine rd_ret ?_
    refine rd_makeW ?_
    refine rd_cons ?_
    refine rd_v rfl ?_
    refine rd_cons ?_
    refine rd_v rfl ?_
    refine rd_nil ?_
    refine mw_new S18 (fun p19 H20 np21 c22 w23 => ?_)
    have z24 := S18.free0 np21
    have S25 := S18.call0 c22
    have f_self := qRule.mono c22.le f_self
    have f_begins := (qL qPat).mono c22.le f_begins
    have f_ends := (qL qPat).mono c22.le f_ends
    have f8 := (qL qPat).mono c22.le f8
    have f17 := (qL qPat).mono c22.le f17
    refine rd_fld ?_
    refine rd_v rfl ?_
    refine fld_Rule_settings T S25 f_self (fun u26 f27 => ?_)
    obtain ⟨g28, hm⟩ := gd_some hm
    refine mw_at (rest := fun y1 y2 y3 y4 => [v4, v13, y1, y2, y3, y4]) S25 w23 f27 g28 rfl (fun _ _ _ _ _ => rfl) (fun u29 u30 u31 u32 kv37 H38 f33 f34 f35 f36 c39 w40 => ?_)
    have S41 := S25.call1 c39 w23
    have f_self := qRule.mono c39.le f_self
    have f_begins := (qL qPat).mono c39.le f_begins
    have f_ends := (qL qPat).mono c39.le f_ends
    have f8 := (qL qPat).mono c39.le f8
    have f17 := (qL qPat).mono c39.le f17
    have f27 := qSd.mono c39.le f27
    have f33 := qTh.mono c39.le f33
    have f34 := qTh.mono c39.le f34
    have f35 := qTh.mono c39.le f35
    have f36 := qTh.mono c39.le f36
    obtain ⟨t42, e43, hm⟩ := bd_some hm
    refine new_Rule S41 f8 f17 f33 f34 f35 f36 e43 (fun v44 F45 H46 c47 f48 => ?_)
    have S49 := S41.call0 c47
    have f_self := qRule.mono c47.le f_self
    have f_begins := (qL qPat).mono c47.le f_begins
    have f_ends := (qL qPat).mono c47.le f_ends
    have f8 := (qL qPat).mono c47.le f8
    have f17 := (qL qPat).mono c47.le f17
    cases hm
    exact hQ _ _ _ S49 f48
def sp_Gluer___init__ (K : PySem.W.Frag) : Sp := fun vs H Q _ => ∃ (F : Hp) (p_self : Addr) (dx : Addr) (v_rule : V) (a_rule : (List Pat × List Pat × List (Str × Th))) (r : ((List Pat × List Pat × List (Str × Th)) × (List ((Option Int) × (List Str))) × Int)), vs = [.ref p_self, v_rule] ∧ Same F H ∧ Ow (fun a => a = p_self) H F H p_self (.ins (He.ga K "Gluer") dx []) ∧ qRule.r K F v_rule a_rule ∧ m_Gluer___init__ a_rule = some r ∧ ∀ (F' H' : Hp) (u0 : V) (q1 : Addr) (us1 : List V), Sx (fun a => a = p_self) F H F' H' → Ow (fun a => a = p_self) H F' H' p_self (.ins (He.ga K "Gluer") dx [("rule", u0), ("opened", V.ref q1), ("given", (V.int (r.2.2)))]) → qRule.r K F' u0 r.1 → Ow (fun a => a = p_self) H F' H' q1 (.lst us1) → Row (q2 (qO qI) (qL qS)) K F' us1 r.2.1 → q1 ≠ p_self → Q .non H'
theorem sc_Gluer___init__ : FnScope ["self", "rule"] ["self", "rule"] (defScope s_Gluer___init__) := ⟨rfl, rfl, rfl, by decide +kernel, rfl, by decide +kernel, by decide +kernel⟩
theorem bn_Gluer___init__ (T : Tx K mg) : Binds K (fdOf K ("Gluer", some "__init__")) ["self", "rule"] [] := FunD.bindsN T.F_Gluer___init__ fun _ _ _ _ _ _ us hl => match us, hl with | [_, _], _ => rfl
theorem ok_Gluer___init__ (T : Tx K mg) : FnOk P w K mg base CX0 6 (He.fAd K ("Gluer", some "__init__")) (fdOf K ("Gluer", some "__init__")) ["self", "rule"] (sp_Gluer___init__ K) := by
  refine FunD.ok T.F_Gluer___init__ sc_Gluer___init__ (fun vs H0 Q E h => ?_) (fun cdv A outer s H0 vs Q E hr h => ?_)
  · obtain ⟨_, _, _, _, _, _, rfl, _⟩ := h
    rfl
  · obtain ⟨F0, p_self, dx, v_rule, a_rule, r, rfl, hE, w_self, f_rule, hm, hQ⟩ := h
    refine ⟨_, PSs.nox ((pss_cons (ps_fld (pv 0) (pe_meth (pv 1) T.c_Rule T.me_Rule_with_marks (ok_Rule_with_marks T) (hr.mono (by decide)) (bn_Rule_with_marks T) .nil pass0 (pa_cons (pe_lst pa_nil) (pa_cons (pe_lst pa_nil) pa_nil))) rfl) (pss_cons (ps_fld (pv 0) (pe_lst pa_nil) rfl) (pss_one (ps_fld (pv 0) pe_int rfl))))), ?_⟩
    have S : Sx (fun a => a = p_self) F0 H0 F0 H0 := Sx.refl hE (live1 w_self)
    unfold m_Gluer___init__ at hm
    refine rd_seq ?_
    refine rd_sfld ?_
    refine rd_meth ?_
    refine rd_v rfl ?_
    refine mt_Rule_with_marks S f_rule ?_
    refine rd_cons ?_
    refine rd_lst ?_
    refine rd_nil ?_
    refine rd_lK rfl ?_
    refine alL (K := K) (A := qPat) (xs := ([] : List Pat)) S .nil (fun v1 F2 H3 c4 f5 => ?_)
    have S6 := S.call0 c4
    have f_rule := qRule.mono c4.le f_rule
    have w_self := w_self.call0 c4
    refine rd_cons ?_
    refine rd_lst ?_
    refine rd_nil ?_
    refine rd_lK rfl ?_
    refine alL (K := K) (A := qPat) (xs := ([] : List Pat)) S6 .nil (fun v7 F8 H9 c10 f11 => ?_)
    have S12 := S6.call0 c10
    have f_rule := qRule.mono c10.le f_rule
    have f5 := (qL qPat).mono c10.le f5
    have w_self := w_self.call0 c10
    obtain ⟨t13, e14, hm⟩ := bd_some hm
    refine rd_nil ?_
    refine ⟨F8, _, _, _, _, _, _, t13, rfl, S12.sub, f_rule, f5, f11, e14, fun v18 F15 H16 c17 f19 => ?_⟩
    have S20 := S12.call0 c17
    have f_rule := qRule.mono c17.le f_rule
    have w_self := w_self.call0 c17
    refine rd_v rfl ?_
    refine fset (fs' := [("rule", v18)]) S20 w_self T.c_Gluer T.na_Gluer_rule (by rfl) (by rfl) (fun H21 c22 w23 => ?_)
    have f24 : qRule.r K F15 v18 t13 := f19
    have S25 := S20.call1 c22 w_self
    have f_rule := qRule.mono c22.le f_rule
    have f24 := qRule.mono c22.le f24
    refine rd_seq ?_
    refine rd_sfld ?_
    refine rd_lst ?_
    refine rd_nil ?_
    refine rd_lK rfl ?_
    refine al S25 (fun p26 H27 np28 c29 w30 => ?_)
    have r31 : Row (q2 (qO qI) (qL qS)) K F15 [] ([] : List ((Option Int) × (List Str))) := .nil
    have ne32 : p_self ≠ p26 := w23.ne np28
    have z33 := S25.free0 np28
    have S34 := S25.call0 c29
    have f_rule := qRule.mono c29.le f_rule
    have f24 := qRule.mono c29.le f24
    have w23 := w23.call0 c29
    refine rd_v rfl ?_
    refine fset (fs' := [("rule", v18), ("opened", (V.ref p26))]) S34 w23 T.c_Gluer T.na_Gluer_opened (by rfl) (by rfl) (fun H35 c36 w37 => ?_)
    have S38 := S34.call1 c36 w23
    have f_rule := qRule.mono c36.le f_rule
    have f24 := qRule.mono c36.le f24
    have r31 := Row.mono c36.le r31
    have w30 := w30.call c36 (by intro z; exact (Ne.symm ne32) z)
    refine rd_sfld ?_
    refine rd_c ?_
    refine rd_v rfl ?_
    refine fset (fs' := [("rule", v18), ("opened", (V.ref p26)), ("given", (V.int (0)))]) S38 w37 T.c_Gluer T.na_Gluer_given (by rfl) (by rfl) (fun H39 c40 w41 => ?_)
    have S42 := S38.call1 c40 w37
    have f_rule := qRule.mono c40.le f_rule
    have f24 := qRule.mono c40.le f24
    have r31 := Row.mono c40.le r31
    have w30 := w30.call c40 (by intro z; exact (Ne.symm ne32) z)
    cases hm
    exact hQ _ _ _ _ _ S42 w41 f24 w30 r31 (Ne.symm ne32)
theorem new_Gluer {P0' : Addr → Prop} {F0 H0 F H : Hp} {Q : VK} {E : XK} {b0 : (List Pat × List Pat × List (Str × Th))} {v0 : V} {r : ((List Pat × List Pat × List (Str × Th)) × (List ((Option Int) × (List Str))) × Int)} (S : Sx P0' F0 H0 F H) (hb0 : qRule.r K F v0 b0) (hm : m_Gluer___init__ b0 = some r) (k : ∀ (g dx : Addr) (u0 : V) (q1 : Addr) (us1 : List V) (F' H' : Hp), H g = none → Sx P0 F H F' H' → Ow (fun a => a = g) H F' H' g (.ins (He.ga K "Gluer") dx [("rule", u0), ("opened", V.ref q1), ("given", (V.int (r.2.2)))]) → qRule.r K F' u0 r.1 → H q1 = none → Ow (fun a => a = q1) H F' H' q1 (.lst us1) → Row (q2 (qO qI) (qL qS)) K F' us1 r.2.1 → q1 ≠ g →  Q (.ref g) H') : mkK (He.ga K "Gluer") (fun vs => sp_Gluer___init__ K (vs ++ [])) E Q [v0] H := by
  refine mk_plain S fun x dx H1 hx c1 w => ?_
  refine ⟨F, x, dx, v0, b0, r, rfl, c1.sub, w, hb0, hm, fun F' H' u0 q1 us1 c w' k0 w1 r1 n1 => ⟨rfl, ?_⟩⟩
  have c2 : Sx P0 F H F' H' := c1.call c fun a e => by subst e; exact .inr hx
  exact k x dx u0 q1 us1 F' H' hx c2 ⟨w'.fr, w'.at_, .inr rfl⟩ k0 (c1.free0 (w1.mine.elim id fun z => absurd z n1)) ⟨w1.fr, w1.at_, .inr rfl⟩ r1 n1
def sp_Either___init__ (K : PySem.W.Frag) : Sp := fun vs H Q _ => ∃ (F : Hp) (p_self : Addr) (dx : Addr) (v_one : V) (a_one : Pat) (v_other : V) (a_other : Pat) (r : (Pat × Pat)), vs = [.ref p_self, v_one, v_other] ∧ Same F H ∧ Ow (fun a => a = p_self) H F H p_self (.ins (He.ga K "Either") dx []) ∧ qPat.r K F v_one a_one ∧ qPat.r K F v_other a_other ∧ m_Either___init__ a_one a_other = some r ∧ ∀ (F' H' : Hp) (u0 u1 : V), Sx (fun a => a = p_self) F H F' H' → Ow (fun a => a = p_self) H F' H' p_self (.ins (He.ga K "Either") dx [("left", u0), ("right", u1)]) → qPat.r K F' u0 r.1 → qPat.r K F' u1 r.2 → Q .non H'
theorem sc_Either___init__ : FnScope ["self", "one", "other"] ["self", "one", "other"] (defScope s_Either___init__) := ⟨rfl, rfl, rfl, by decide +kernel, rfl, by decide +kernel, by decide +kernel⟩
theorem bn_Either___init__ (T : Tx K mg) : Binds K (fdOf K ("Either", some "__init__")) ["self", "one", "other"] [] := FunD.bindsN T.F_Either___init__ fun _ _ _ _ _ _ us hl => match us, hl with | [_, _, _], _ => rfl
theorem ok_Either___init__ (T : Tx K mg) : FnOk P w K mg base CX0 5 (He.fAd K ("Either", some "__init__")) (fdOf K ("Either", some "__init__")) ["self", "one", "other"] (sp_Either___init__ K) := by
  refine FunD.ok T.F_Either___init__ sc_Either___init__ (fun vs H0 Q E h => ?_) (fun cdv A outer s H0 vs Q E hr h => ?_)
  · obtain ⟨_, _, _, _, _, _, _, _, rfl, _⟩ := h
    rfl
  · obtain ⟨F0, p_self, dx, v_one, a_one, v_other, a_other, r, rfl, hE, w_self, f_one, f_other, hm, hQ⟩ := h
    refine ⟨_, PSs.nox ((pss_cons (ps_if (pt_cmpR op_gt (pe_op op_add (pe_callB (r := rLenQ K) cr_lenQ (by rfl) T.n_len (by decide +kernel) (pa_cons (pe_methV0 (E := E0) (pv 1)) pa_nil)) (pe_callB (r := rLenQ K) cr_lenQ (by rfl) T.n_len (by decide +kernel) (pa_cons (pe_methV0 (E := E0) (pv 2)) pa_nil))) (pe_glob (v := V.int 3) (by rfl) (T.k_MOST_FORMS.choose_spec) ⟨_, rfl⟩) (nomark _)) (pss_one ps_dead) pss_nil) (pss_cons (ps_fld (pv 0) (pv 1) rfl) (pss_one (ps_fld (pv 0) (pv 2) rfl))))), ?_⟩
    have S : Sx (fun a => a = p_self) F0 H0 F0 H0 := Sx.refl hE (live1 w_self)
    unfold m_Either___init__ at hm
    refine rd_seq ?_
    refine rd_ifS ?_
    refine rd_test ?_
    refine rd_op ?_
    refine rd_op ?_
    refine rd_cb ?_
    refine rd_cons ?_
    refine rd_methV ?_
    refine rd_v rfl ?_
    refine VM.call (vm_forms T 3) (hr.mono (by decide)) S f_one ?_
    obtain ⟨t1, e2, hm⟩ := bd_some hm
    refine rd_nil ?_
    refine ⟨F0, _, _, t1, rfl, S.sub, f_one, rfl, e2, fun v6 F3 H4 c5 f7 => ?_⟩
    have S8 := S.call0 c5
    have f_one := qPat.mono c5.le f_one
    have f_other := qPat.mono c5.le f_other
    have w_self := w_self.call0 c5
    refine rd_nil ?_
    refine rd_lenQ (S8.l f7).r.q ?_
    refine rd_cb ?_
    refine rd_cons ?_
    refine rd_methV ?_
    refine rd_v rfl ?_
    refine VM.call (vm_forms T 3) (hr.mono (by decide)) S8 f_other ?_
    obtain ⟨t9, e10, hm⟩ := bd_some hm
    refine rd_nil ?_
    refine ⟨F3, _, _, t9, rfl, S8.sub, f_other, rfl, e10, fun v14 F11 H12 c13 f15 => ?_⟩
    have S16 := S8.call0 c13
    have f_one := qPat.mono c13.le f_one
    have f_other := qPat.mono c13.le f_other
    have w_self := w_self.call0 c13
    refine rd_nil ?_
    refine rd_lenQ (S16.l f15).r.q ?_
    refine rd_I0 ?_
    refine rd_c ?_
    refine rd_I0 ?_
    refine rd_b ?_
    refine if_b hm (fun b17 hm => ?_) (fun b17 hm => ?_)
    · skip
      cases hm
    · skip
      refine rd_next ?_
      refine rd_seq ?_
      refine rd_sfld ?_
      refine rd_v rfl ?_
      refine rd_v rfl ?_
      refine fset (fs' := [("left", v_one)]) S16 w_self T.c_Either T.na_Either_left (by rfl) (by rfl) (fun H18 c19 w20 => ?_)
      have f21 : qPat.r K F11 v_one a_one := f_one
      have S22 := S16.call1 c19 w_self
      have f_one := qPat.mono c19.le f_one
      have f_other := qPat.mono c19.le f_other
      have f21 := qPat.mono c19.le f21
      refine rd_sfld ?_
      refine rd_v rfl ?_
      refine rd_v rfl ?_
      refine fset (fs' := [("left", v_one), ("right", v_other)]) S22 w20 T.c_Either T.na_Either_right (by rfl) (by rfl) (fun H23 c24 w25 => ?_)
      have f26 : qPat.r K F11 v_other a_other := f_other
      have S27 := S22.call1 c24 w20
      have f_one := qPat.mono c24.le f_one
      have f_other := qPat.mono c24.le f_other
      have f21 := qPat.mono c24.le f21
      have f26 := qPat.mono c24.le f26
      cases hm
      exact hQ _ _ v_one v_other S27 w25 f21 f26
theorem new_Either {P0' : Addr → Prop} {F0 H0 F H : Hp} {Q : VK} {E : XK} {b0 : Pat} {v0 : V} {b1 : Pat} {v1 : V} {r : (Pat × Pat)} (S : Sx P0' F0 H0 F H) (f0 : qPat.r K F v0 b0) (f1 : qPat.r K F v1 b1) (hm : m_Either___init__ b0 b1 = some r) (k : ∀ v F' H', Sx P0 F H F' H' → qEither.r K F' v r → Q v H') : mkK (He.ga K "Either") (fun vs => sp_Either___init__ K (vs ++ [])) E Q [v0, v1] H := by
  refine mk_plain S fun x dx H1 hx c1 w => ?_
  refine ⟨F, x, dx, v0, b0, v1, b1, r, rfl, c1.sub, w, f0, f1, hm, fun F' H' u0 u1 c w' k0 k1 => ⟨rfl, ?_⟩⟩
  obtain ⟨F2, S2, le, h3⟩ := fzI c1 hx c w'
  exact k _ F2 H' S2 ⟨x, dx, u0, u1, rfl, h3, qPat.mono le k0, qPat.mono le k1⟩
def sp_Pattern___or__ (K : PySem.W.Frag) : Sp := fun vs H Q _ => ∃ (F : Hp) (v_self : V) (a_self : Pat) (v_other : V) (a_other : Pat) (r : Pat), vs = [v_self, v_other] ∧ Same F H ∧ qPat.r K F v_self a_self ∧ qPat.r K F v_other a_other ∧ m_Pattern___or__ a_self a_other = some r ∧ ∀ v F' H', Sx P0 F H F' H' → qPat.r K F' v r → Q v H'
theorem sc_Pattern___or__ : FnScope ["self", "other"] ["self", "other"] (defScope s_Pattern___or__) := ⟨rfl, rfl, rfl, by decide +kernel, rfl, by decide +kernel, by decide +kernel⟩
theorem bn_Pattern___or__ (T : Tx K mg) : Binds K (fdOf K ("Pattern", some "__or__")) ["self", "other"] [] := FunD.bindsN T.F_Pattern___or__ fun _ _ _ _ _ _ us hl => match us, hl with | [_, _], _ => rfl
theorem ok_Pattern___or__ (T : Tx K mg) : FnOk P w K mg base CX0 7 (He.fAd K ("Pattern", some "__or__")) (fdOf K ("Pattern", some "__or__")) ["self", "other"] (sp_Pattern___or__ K) := by
  refine FunD.ok T.F_Pattern___or__ sc_Pattern___or__ (fun vs H0 Q E h => ?_) (fun cdv A outer s H0 vs Q E hr h => ?_)
  · obtain ⟨_, _, _, _, _, _, rfl, _⟩ := h
    rfl
  · obtain ⟨F0, v_self, a_self, v_other, a_other, r, rfl, hE, f_self, f_other, hm, hQ⟩ := h
    refine ⟨_, PSs.nox ((pss_cons (ps_if (pt_not (pt_val (pe_callB (r := rIsi K) call_isi (by rfl) T.n_isinstance (by decide +kernel) (pa_cons (pv 1) (pa_cons (pe_glob (v := V.ref (He.ga K "Pattern")) (by rfl) T.gc_Pattern rfl) pa_nil))))) pss_dead pss_nil) (pss_one (ps_ret (pe_make T.mk_Either (ok_Either___init__ T) (hr.mono (by decide)) (by rfl) T.gc_Either (bn_Either___init__ T) .nil pass0 (pa_cons (pv 0) (pa_cons (pv 1) pa_nil))))))), ?_⟩
    have S : Sx P0 F0 H0 F0 H0 := Sx.refl0 hE
    unfold m_Pattern___or__ at hm
    obtain ⟨t1, e2, hm⟩ := bd_some hm
    refine rd_seq ?_
    refine rd_ifS ?_
    refine rd_not ?_
    refine rd_tB ?_
    refine rd_cb ?_
    refine rd_cons ?_
    refine rd_v rfl ?_
    refine rd_cons ?_
    refine rd_c ?_
    refine rd_nil ?_
    refine rd_isPat T.pf S f_other ?_
    refine rd_b ?_
    refine if_ff ?_
    refine rd_next ?_
    refine rd_ret ?_
    refine rd_make ?_
    refine rd_cons ?_
    refine rd_v rfl ?_
    refine rd_cons ?_
    refine rd_v rfl ?_
    refine rd_nil ?_
    refine new_Either S f_self f_other e2 (fun v3 F4 H5 c6 f7 => ?_)
    have S8 := S.call0 c6
    have f_self := qPat.mono c6.le f_self
    have f_other := qPat.mono c6.le f_other
    have f9 : qPat.r K F4 v3 (Pat.either (t1).1 (t1).2) := (show qPat.r K F4 v3 _ from f7)
    cases hm
    exact hQ _ _ _ S8 f9
def sp_Both___init__ (K : PySem.W.Frag) : Sp := fun vs H Q _ => ∃ (F : Hp) (p_self : Addr) (dx : Addr) (v_one : V) (a_one : Pat) (v_other : V) (a_other : Pat) (r : (Pat × Pat)), vs = [.ref p_self, v_one, v_other] ∧ Same F H ∧ Ow (fun a => a = p_self) H F H p_self (.ins (He.ga K "Both") dx []) ∧ qPat.r K F v_one a_one ∧ qPat.r K F v_other a_other ∧ m_Both___init__ a_one a_other = some r ∧ ∀ (F' H' : Hp) (u0 u1 : V), Sx (fun a => a = p_self) F H F' H' → Ow (fun a => a = p_self) H F' H' p_self (.ins (He.ga K "Both") dx [("left", u0), ("right", u1)]) → qPat.r K F' u0 r.1 → qPat.r K F' u1 r.2 → Q .non H'
theorem sc_Both___init__ : FnScope ["self", "one", "other"] ["self", "one", "other"] (defScope s_Both___init__) := ⟨rfl, rfl, rfl, by decide +kernel, rfl, by decide +kernel, by decide +kernel⟩
theorem bn_Both___init__ (T : Tx K mg) : Binds K (fdOf K ("Both", some "__init__")) ["self", "one", "other"] [] := FunD.bindsN T.F_Both___init__ fun _ _ _ _ _ _ us hl => match us, hl with | [_, _, _], _ => rfl
theorem ok_Both___init__ (T : Tx K mg) : FnOk P w K mg base CX0 5 (He.fAd K ("Both", some "__init__")) (fdOf K ("Both", some "__init__")) ["self", "one", "other"] (sp_Both___init__ K) := by
  refine FunD.ok T.F_Both___init__ sc_Both___init__ (fun vs H0 Q E h => ?_) (fun cdv A outer s H0 vs Q E hr h => ?_)
  · obtain ⟨_, _, _, _, _, _, _, _, rfl, _⟩ := h
    rfl
  · obtain ⟨F0, p_self, dx, v_one, a_one, v_other, a_other, r, rfl, hE, w_self, f_one, f_other, hm, hQ⟩ := h
    refine ⟨_, PSs.nox ((pss_cons (ps_if (pt_cmpR op_gt (pe_op op_add (pe_callB (r := rLenQ K) cr_lenQ (by rfl) T.n_len (by decide +kernel) (pa_cons (pe_methV0 (E := E0) (pv 1)) pa_nil)) (pe_callB (r := rLenQ K) cr_lenQ (by rfl) T.n_len (by decide +kernel) (pa_cons (pe_methV0 (E := E0) (pv 2)) pa_nil))) (pe_glob (v := V.int 3) (by rfl) (T.k_MOST_FORMS.choose_spec) ⟨_, rfl⟩) (nomark _)) (pss_one ps_dead) pss_nil) (pss_cons (ps_fld (pv 0) (pv 1) rfl) (pss_one (ps_fld (pv 0) (pv 2) rfl))))), ?_⟩
    have S : Sx (fun a => a = p_self) F0 H0 F0 H0 := Sx.refl hE (live1 w_self)
    unfold m_Both___init__ at hm
    refine rd_seq ?_
    refine rd_ifS ?_
    refine rd_test ?_
    refine rd_op ?_
    refine rd_op ?_
    refine rd_cb ?_
    refine rd_cons ?_
    refine rd_methV ?_
    refine rd_v rfl ?_
    refine VM.call (vm_forms T 3) (hr.mono (by decide)) S f_one ?_
    obtain ⟨t1, e2, hm⟩ := bd_some hm
    refine rd_nil ?_
    refine ⟨F0, _, _, t1, rfl, S.sub, f_one, rfl, e2, fun v6 F3 H4 c5 f7 => ?_⟩
    have S8 := S.call0 c5
    have f_one := qPat.mono c5.le f_one
    have f_other := qPat.mono c5.le f_other
    have w_self := w_self.call0 c5
    refine rd_nil ?_
    refine rd_lenQ (S8.l f7).r.q ?_
    refine rd_cb ?_
    refine rd_cons ?_
    refine rd_methV ?_
    refine rd_v rfl ?_
    refine VM.call (vm_forms T 3) (hr.mono (by decide)) S8 f_other ?_
    obtain ⟨t9, e10, hm⟩ := bd_some hm
    refine rd_nil ?_
    refine ⟨F3, _, _, t9, rfl, S8.sub, f_other, rfl, e10, fun v14 F11 H12 c13 f15 => ?_⟩
    have S16 := S8.call0 c13
    have f_one := qPat.mono c13.le f_one
    have f_other := qPat.mono c13.le f_other
    have w_self := w_self.call0 c13
    refine rd_nil ?_
    refine rd_lenQ (S16.l f15).r.q ?_
    refine rd_I0 ?_
    refine rd_c ?_
    refine rd_I0 ?_
    refine rd_b ?_
    refine if_b hm (fun b17 hm => ?_) (fun b17 hm => ?_)
    · skip
      cases hm
    · skip
      refine rd_next ?_
      refine rd_seq ?_
      refine rd_sfld ?_
      refine rd_v rfl ?_
      refine rd_v rfl ?_
      refine fset (fs' := [("left", v_one)]) S16 w_self T.c_Both T.na_Both_left (by rfl) (by rfl) (fun H18 c19 w20 => ?_)
      have f21 : qPat.r K F11 v_one a_one := f_one
      have S22 := S16.call1 c19 w_self
      have f_one := qPat.mono c19.le f_one
      have f_other := qPat.mono c19.le f_other
      have f21 := qPat.mono c19.le f21
      refine rd_sfld ?_
      refine rd_v rfl ?_
      refine rd_v rfl ?_
      refine fset (fs' := [("left", v_one), ("right", v_other)]) S22 w20 T.c_Both T.na_Both_right (by rfl) (by rfl) (fun H23 c24 w25 => ?_)
      have f26 : qPat.r K F11 v_other a_other := f_other
      have S27 := S22.call1 c24 w20
      have f_one := qPat.mono c24.le f_one
      have f_other := qPat.mono c24.le f_other
      have f21 := qPat.mono c24.le f21
      have f26 := qPat.mono c24.le f26
      cases hm
      exact hQ _ _ v_one v_other S27 w25 f21 f26
theorem new_Both {P0' : Addr → Prop} {F0 H0 F H : Hp} {Q : VK} {E : XK} {b0 : Pat} {v0 : V} {b1 : Pat} {v1 : V} {r : (Pat × Pat)} (S : Sx P0' F0 H0 F H) (f0 : qPat.r K F v0 b0) (f1 : qPat.r K F v1 b1) (hm : m_Both___init__ b0 b1 = some r) (k : ∀ v F' H', Sx P0 F H F' H' → qBoth.r K F' v r → Q v H') : mkK (He.ga K "Both") (fun vs => sp_Both___init__ K (vs ++ [])) E Q [v0, v1] H := by
  refine mk_plain S fun x dx H1 hx c1 w => ?_
  refine ⟨F, x, dx, v0, b0, v1, b1, r, rfl, c1.sub, w, f0, f1, hm, fun F' H' u0 u1 c w' k0 k1 => ⟨rfl, ?_⟩⟩
  obtain ⟨F2, S2, le, h3⟩ := fzI c1 hx c w'
  exact k _ F2 H' S2 ⟨x, dx, u0, u1, rfl, h3, qPat.mono le k0, qPat.mono le k1⟩
def sp_Pattern___and__ (K : PySem.W.Frag) : Sp := fun vs H Q _ => ∃ (F : Hp) (v_self : V) (a_self : Pat) (v_other : V) (a_other : Pat) (r : Pat), vs = [v_self, v_other] ∧ Same F H ∧ qPat.r K F v_self a_self ∧ qPat.r K F v_other a_other ∧ m_Pattern___and__ a_self a_other = some r ∧ ∀ v F' H', Sx P0 F H F' H' → qPat.r K F' v r → Q v H'
theorem sc_Pattern___and__ : FnScope ["self", "other"] ["self", "other"] (defScope s_Pattern___and__) := ⟨rfl, rfl, rfl, by decide +kernel, rfl, by decide +kernel, by decide +kernel⟩
theorem bn_Pattern___and__ (T : Tx K mg) : Binds K (fdOf K ("Pattern", some "__and__")) ["self", "other"] [] := FunD.bindsN T.F_Pattern___and__ fun _ _ _ _ _ _ us hl => match us, hl with | [_, _], _ => rfl
theorem ok_Pattern___and__ (T : Tx K mg) : FnOk P w K mg base CX0 7 (He.fAd K ("Pattern", some "__and__")) (fdOf K ("Pattern", some "__and__")) ["self", "other"] (sp_Pattern___and__ K) := by
  refine FunD.ok T.F_Pattern___and__ sc_Pattern___and__ (fun vs H0 Q E h => ?_) (fun cdv A outer s H0 vs Q E hr h => ?_)
  · obtain ⟨_, _, _, _, _, _, rfl, _⟩ := h
    rfl
  · obtain ⟨F0, v_self, a_self, v_other, a_other, r, rfl, hE, f_self, f_other, hm, hQ⟩ := h
    refine ⟨_, PSs.nox ((pss_cons (ps_if (pt_not (pt_val (pe_callB (r := rIsi K) call_isi (by rfl) T.n_isinstance (by decide +kernel) (pa_cons (pv 1) (pa_cons (pe_glob (v := V.ref (He.ga K "Pattern")) (by rfl) T.gc_Pattern rfl) pa_nil))))) pss_dead pss_nil) (pss_one (ps_ret (pe_make T.mk_Both (ok_Both___init__ T) (hr.mono (by decide)) (by rfl) T.gc_Both (bn_Both___init__ T) .nil pass0 (pa_cons (pv 0) (pa_cons (pv 1) pa_nil))))))), ?_⟩
    have S : Sx P0 F0 H0 F0 H0 := Sx.refl0 hE
    unfold m_Pattern___and__ at hm
    obtain ⟨t1, e2, hm⟩ := bd_some hm
    refine rd_seq ?_
    refine rd_ifS ?_
    refine rd_not ?_
    refine rd_tB ?_
    refine rd_cb ?_
    refine rd_cons ?_
    refine rd_v rfl ?_
    refine rd_cons ?_
    refine rd_c ?_
    refine rd_nil ?_
    refine rd_isPat T.pf S f_other ?_
    refine rd_b ?_
    refine if_ff ?_
    refine rd_next ?_
    refine rd_ret ?_
    refine rd_make ?_
    refine rd_cons ?_
    refine rd_v rfl ?_
    refine rd_cons ?_
    refine rd_v rfl ?_
    refine rd_nil ?_
    refine new_Both S f_self f_other e2 (fun v3 F4 H5 c6 f7 => ?_)
    have S8 := S.call0 c6
    have f_self := qPat.mono c6.le f_self
    have f_other := qPat.mono c6.le f_other
    have f9 : qPat.r K F4 v3 (Pat.both (t1).1 (t1).2) := (show qPat.r K F4 v3 _ from f7)
    cases hm
    exact hQ _ _ _ S8 f9
def sp_is_allowed (K : PySem.W.Frag) : Sp := fun vs H Q _ => ∃ (F : Hp) (v_parts : V) (a_parts : (List Str)) (a_at : Int) (r : Bool), vs = [v_parts, (V.int (a_at))] ∧ Same F H ∧ (qT qS).r K F v_parts a_parts ∧ m_is_allowed a_parts a_at = some r ∧ ∀ v F' H', Sx P0 F H F' H' → qB.r K F' v r → Q v H'
theorem sc_is_allowed : FnScope ["parts", "at", "part"] ["parts", "at"] (defScope s_is_allowed) := ⟨rfl, rfl, rfl, by decide +kernel, rfl, by decide +kernel, by decide +kernel⟩
theorem bn_is_allowed (T : Tx K mg) : Binds K (fdOf K ("is_allowed_patterns", none)) ["parts", "at"] [] := FunD.bindsN T.F_is_allowed fun _ _ _ _ _ _ us hl => match us, hl with | [_, _], _ => rfl
theorem ok_is_allowed (T : Tx K mg) : FnOk P w K mg base CX0 2 (He.ga K "is_allowed_patterns") (fdOf K ("is_allowed_patterns", none)) ["parts", "at"] (sp_is_allowed K) := by
  refine FunD.ok T.F_is_allowed sc_is_allowed (fun vs H0 Q E h => ?_) (fun cdv A outer s H0 vs Q E hr h => ?_)
  · obtain ⟨_, _, _, _, _, rfl, _⟩ := h
    rfl
  · obtain ⟨F0, v_parts, a_parts, a_at, r, rfl, hE, f_parts, hm, hQ⟩ := h
    refine ⟨_, PSs.nox ((pss_cons (ps_set (i := 2) sc_is_allowed.nd rfl (by first | exact Or.inl rfl | exact Or.inr rfl) (pe_ix (r := rIxT K) ix_tup (pv 0) (pv 1) (fun _ _ => rfl))) (pss_cons (ps_if (PW.pt (pw_or (pt_cmpR op_ge (pv 1) (pe_glob (v := V.int 4) (by rfl) (T.k_MOST_PARTS.choose_spec) ⟨_, rfl⟩) (nomark _)) (pw_or1 (pt_not (pt_val (pe_callB (r := rIsi K) call_isi (by rfl) T.n_isinstance (by decide +kernel) (pa_cons (pv 2) (pa_cons (pe_bltn (v := V.ty "str") (by rfl) T.n_str (by decide +kernel) rfl) pa_nil)))))))) (pss_one (ps_ret pe_bl)) pss_nil) (pss_cons (ps_if (pt_cmpR op_eqS (pv 2) (pe_glob (v := V.str "<any>") (by rfl) (T.k_ANY_CELL.choose_spec) ⟨_, rfl⟩) (nomark _)) (pss_one (ps_ret (pe_cmpR (r := rIn K true) op_notIn_seq (pe_glob (v := V.str "<any>") (by rfl) (T.k_ANY_CELL.choose_spec) ⟨_, rfl⟩) (pe_slice (r := rSlA K) sl_tupA (pv 0) po_none (po_some (pv 1))) rfl))) pss_nil) (pss_cons (ps_if (pt_cmpR (r := rIn K false) op_in_seq (pv 2) (pe_glob (v := V.ref (He.ga K "FREE_CELLS")) (by rfl) T.g_FREE_CELLS rfl) rfl) (pss_one (ps_ret pe_bl)) pss_nil) (pss_cons (ps_if (PW.pt (pw_and (pt_cmpR op_gt (pv 1) pe_int (nomark _)) (pw_and1 (pt_cmpR (r := rIn K true) op_notIn_seq (pe_ix (r := rIxT K) ix_tup (pv 0) (pe_op op_sub (pv 1) pe_int) (fun _ _ => rfl)) (pe_glob (v := V.ref (He.ga K "FREE_CELLS")) (by rfl) T.g_FREE_CELLS rfl) rfl)))) (pss_one (ps_ret pe_bl)) pss_nil) (pss_one (ps_ret (pe_and (pe_call (ok_is_line T) (hr.mono (by decide)) (by rfl) T.g_is_line T.F_is_line.kp (bn_is_line T) .nil pass0 (pa_cons (pv 2) pa_nil)) (pe_one (pe_cmpR op_le (pe_callB cr_lenS (by rfl) T.n_len (by decide +kernel) (pa_cons (pv 2) pa_nil)) (pe_glob (v := V.int 4) (by rfl) (T.k_MOST_SIGNS.choose_spec) ⟨_, rfl⟩) (nomark _)))))))))))), ?_⟩
    have S : Sx P0 F0 H0 F0 H0 := Sx.refl0 hE
    unfold m_is_allowed at hm
    obtain ⟨t1, e2, hm⟩ := bd_some hm
    refine rd_seq ?_
    refine rd_asg ?_
    refine rd_op ?_
    refine rd_v rfl ?_
    refine rd_v rfl ?_
    refine rd_ixT (S.t f_parts) e2 (fun u3 f4 => ?_)
    cases (show u3 = (V.str (t1)) from f4)
    refine rd_gn ?_
    refine rd_seq ?_
    refine rd_ifS ?_
    refine rd_or ?_
    refine rd_test ?_
    refine rd_op ?_
    refine rd_v rfl ?_
    refine rd_c ?_
    refine rd_I0 ?_
    refine rd_b ?_
    refine or_p (by intro _ Q' q; refine rd_not ?_; refine rd_tB ?_; refine rd_cb ?_; refine rd_cons ?_; refine rd_v rfl ?_; refine rd_cons ?_; refine rd_c ?_; refine rd_nil ?_; refine rd_isi (b := true) tx_str (by decide +kernel) ?_; refine rd_b ?_; exact q) ?_
    refine if_b hm (fun b5 hm => ?_) (fun b5 hm => ?_)
    · skip
      cases hm
      refine rd_ret ?_
      refine rd_c ?_
      exact hQ _ _ _ S rfl
    · skip
      refine rd_next ?_
      refine rd_seq ?_
      refine rd_ifS ?_
      refine rd_test ?_
      refine rd_op ?_
      refine rd_v rfl ?_
      refine rd_c ?_
      refine rd_S0 ?_
      refine rd_b ?_
      refine if_b hm (fun b6 hm => ?_) (fun b6 hm => ?_)
      · skip
        refine rd_ret ?_
        refine rd_op ?_
        refine rd_c ?_
        refine rd_sl ?_
        refine rd_v rfl ?_
        refine rd_np ?_
        refine rd_pt ?_
        refine rd_v rfl ?_
        refine rd_i ?_
        refine rd_slA S f_parts (fun v7 F8 H9 c10 f11 => ?_)
        have S12 := S.call0 c10
        have f_parts := (qT qS).mono c10.le f_parts
        cases hm
        refine rd_niS (S12.t f11).q ?_
        exact hQ _ _ _ S12 rfl
      · skip
        have f13 : (qT qS).r K F0 (.ref (He.ga K "FREE_CELLS")) (["<digits>", "<word>", "<any>"] : List Str) := T.q_FREE_CELLS _
        refine rd_next ?_
        refine rd_seq ?_
        refine rd_ifS ?_
        refine rd_test ?_
        refine rd_op ?_
        refine rd_v rfl ?_
        refine rd_c ?_
        refine rd_inS (S.t f13).q ?_
        refine rd_b ?_
        refine if_b hm (fun b14 hm => ?_) (fun b14 hm => ?_)
        · skip
          cases hm
          refine rd_ret ?_
          refine rd_c ?_
          exact hQ _ _ _ S rfl
        · skip
          obtain ⟨t20, e21, hm⟩ := bd_some hm
          refine rd_next ?_
          refine rd_seq ?_
          refine rd_ifS ?_
          refine rd_and ?_
          refine rd_test ?_
          refine rd_op ?_
          refine rd_v rfl ?_
          refine rd_c ?_
          refine rd_I0 ?_
          refine rd_b ?_
          refine and_j (fun c H' => c = t20 ∧ ∃ F', Sx P0 F0 H0 F' H') ?_ ?_ ?_
          · intro b22 Q23 q24
            have e21 := if_t e21 b22
            have S25 := Sx.refl0 S.sub
            obtain ⟨t26, e27, e21⟩ := bd_some e21
            refine rd_test ?_
            refine rd_op ?_
            refine rd_op ?_
            refine rd_v rfl ?_
            refine rd_op ?_
            refine rd_v rfl ?_
            refine rd_c ?_
            refine rd_I0 ?_
            refine rd_ixT (S25.t f_parts) e27 (fun u28 f29 => ?_)
            cases (show u28 = (V.str (t26)) from f29)
            have f30 : (qT qS).r K F0 (.ref (He.ga K "FREE_CELLS")) (["<digits>", "<word>", "<any>"] : List Str) := T.q_FREE_CELLS _
            cases e21
            refine rd_c ?_
            refine rd_niS (S25.t f30).q ?_
            refine rd_b ?_
            exact q24 _ _ ⟨rfl, F0, S25⟩
          · intro b22
            have e21 := if_f e21 b22
            cases e21
            have S31 := Sx.refl0 S.sub
            exact ⟨rfl, F0, S31⟩
          rintro b35 H33 ⟨rfl, F32, c34⟩
          have S36 := S.call0 c34
          have f_parts := (qT qS).mono c34.le f_parts
          refine if_b hm (fun b37 hm => ?_) (fun b37 hm => ?_)
          · skip
            cases hm
            refine rd_ret ?_
            refine rd_c ?_
            exact hQ _ _ _ S36 rfl
          · skip
            have f38 : qTh.r K F32 (V.str (t1)) (Th.d (PyData.str (t1))) := (show qTh.r K F32 _ (Th.d (PyData.str (t1))) from Dp.str _)
            obtain ⟨t39, e40, hm⟩ := bd_some hm
            refine rd_next ?_
            refine rd_ret ?_
            refine rd_andV ?_
            refine rd_call ?_
            refine rd_cons ?_
            refine rd_v rfl ?_
            refine rd_nil ?_
            refine ⟨F32, _, _, t39, rfl, S36.sub, f38, e40, fun v44 F41 H42 c43 f45 => ?_⟩
            have S46 := S36.call0 c43
            have f_parts := (qT qS).mono c43.le f_parts
            cases (show v44 = (V.bl (t39)) from f45)
            obtain ⟨t48, e49, hm⟩ := bd_some hm
            refine rd_b ?_
            refine andV_j (fun c H' => c = V.bl t48 ∧ ∃ F', Sx P0 F41 H42 F' H') ?_ ?_ ?_
            · intro b50 Q51 q52
              have e49 := if_t e49 b50
              have S53 := Sx.refl0 S46.sub
              obtain ⟨g54, e49⟩ := gd_some e49
              cases e49
              refine rd_op ?_
              refine rd_cb ?_
              refine rd_cons ?_
              refine rd_v rfl ?_
              refine rd_nil ?_
              refine rd_lenS g54 ?_
              refine rd_c ?_
              refine rd_I0 ?_
              exact q52 _ _ ⟨rfl, F41, S53⟩
            · intro b50
              have e49 := if_f e49 b50
              cases e49
              have S55 := Sx.refl0 S46.sub
              exact ⟨rfl, F41, S55⟩
            rintro b59 H57 ⟨rfl, F56, c58⟩
            have S60 := S46.call0 c58
            have f_parts := (qT qS).mono c58.le f_parts
            cases hm
            exact hQ _ _ _ S60 rfl
def sp_Form___init__ (K : PySem.W.Frag) : Sp := fun vs H Q _ => ∃ (F : Hp) (p_self : Addr) (dx : Addr) (v_parts : V) (a_parts : (List Str)) (r : (List Str)), vs = [.ref p_self, v_parts] ∧ Same F H ∧ Ow (fun a => a = p_self) H F H p_self (.ins (He.ga K "Form") dx []) ∧ (qT qS).r K F v_parts a_parts ∧ m_Form___init__ a_parts = some r ∧ ∀ (F' H' : Hp) (u0 : V), Sx (fun a => a = p_self) F H F' H' → Ow (fun a => a = p_self) H F' H' p_self (.ins (He.ga K "Form") dx [("pieces", u0)]) → (qT qS).r K F' u0 r → Q .non H'
theorem sc_Form___init__ : FnScope ["self", "parts", "at"] ["self", "parts"] (defScope s_Form___init__) := ⟨rfl, rfl, rfl, by decide +kernel, rfl, by decide +kernel, by decide +kernel⟩
theorem ok_Form___init__ (T : Tx K mg) : FnR P w K mg base CX0 3 (He.fAd K ("Form", some "__init__")) (starSp 1 (sp_Form___init__ K)) := by
  obtain ⟨oc, od, dV, kV, doc, pm, an, cdv, ct, osl, efd, lk, hcd, hD, _⟩ := T.F_Form___init__.ex
  rw [efd] at lk
  obtain ⟨_, rfl⟩ | ⟨nD, _⟩ := hD
  rotate_left
  · exact absurd rfl nD
  refine StX.fn_star (ps := ["self"]) (pv := "parts") lk hcd sc_Form___init__ StX.cxUp_none (fun us rest hl => StX.bind_star1 (p1 := "self") (pv := "parts") (B := fun us => bindArgs (PySem.W.fnOf _ _ _ _ _ .none kV doc pm an cdv ct) ⟨us, []⟩) (fun a => by rfl) (fun a r rs => by rfl) us rest hl) (fun A outer s H0 vs Q E hr h => ?_)
  · obtain ⟨F0, p_self, dx, v_parts, a_parts, r, rfl, hE, w_self, f_parts, hm, hQ⟩ := h
    refine ⟨_, PSs.nox ((pss_cons (ps_if (pt_cmpR op_eqI (pe_callB (r := rLenQ K) cr_lenQ (by rfl) T.n_len (by decide +kernel) (pa_cons (pv 1) pa_nil)) pe_int (nomark _)) (pss_one ps_dead) pss_nil) (pss_cons (ps_for PassesOwn.never rfl (pi_range1 (by rfl) T.n_range (pa_cons (pe_callB (r := rLenQ K) cr_lenQ (by rfl) T.n_len (by decide +kernel) (pa_cons (pv 1) pa_nil)) pa_nil)) (pg_name (i := 2) sc_Form___init__.nd rfl (by first | exact Or.inl rfl | exact Or.inr rfl)) (pss_one (ps_if (pt_not (pt_val (pe_call (ok_is_allowed T) (hr.mono (by decide)) (by rfl) T.g_is_allowed T.F_is_allowed.kp (bn_is_allowed T) .nil pass0 (pa_cons (pv 1) (pa_cons (pv 2) pa_nil))))) (pss_one ps_dead) pss_nil))) (pss_one (ps_fld (pv 0) (pv 1) rfl))))), ?_⟩
    have S : Sx (fun a => a = p_self) F0 H0 F0 H0 := Sx.refl hE (live1 w_self)
    unfold m_Form___init__ at hm
    refine rd_seq ?_
    refine rd_ifS ?_
    refine rd_test ?_
    refine rd_op ?_
    refine rd_cb ?_
    refine rd_cons ?_
    refine rd_v rfl ?_
    refine rd_nil ?_
    refine rd_lenQ (S.t f_parts).q ?_
    refine rd_c ?_
    refine rd_I0 ?_
    refine rd_b ?_
    refine if_b hm (fun b1 hm => ?_) (fun b1 hm => ?_)
    · skip
      cases hm
    · skip
      obtain ⟨g2, hm⟩ := gd_some hm
      refine rd_next ?_
      refine rd_seq ?_
      refine rd_for ?_
      refine rd_iR1 ?_
      refine rd_cons ?_
      refine rd_cb ?_
      refine rd_cons ?_
      refine rd_v rfl ?_
      refine rd_nil ?_
      refine rd_lenQ (S.t f_parts).q ?_
      refine rd_nil ?_
      refine rd_r1 g2 ?_
      obtain ⟨t3, e4, hm⟩ := bd_some hm
      refine rd_forS feedsRg (typedR (K := K) (F := F0)) e4 (fun (s5 : Unit) σ H => ∃ (F : Hp) (o2 : Option V), σ = [some (V.ref p_self), some v_parts, o2] ∧ Sx P0 F0 H0 F H) ?_ ?_ ?_ ?_
      · intro _ _ _ _; trivial
      · skip
        have S7 := Sx.refl0 S.sub
        exact ⟨F0, _, rfl, S7⟩
      · skip
        rintro x8 v9 s10 c14 σ11 H12 f13 ⟨F15, o17, rfl, S16⟩ hm20
        have f_parts := (qT qS).mono S16.le f_parts
        have w_self := w_self.call0 S16
        unfold m_Form___init___b1 at hm20
        cases (show v9 = (V.int (x8)) from f13)
        obtain ⟨t21, e22, hm20⟩ := bd_some hm20
        refine rd_gn ?_
        refine rd_ifS ?_
        refine rd_not ?_
        refine rd_tB ?_
        refine rd_call ?_
        refine rd_cons ?_
        refine rd_v rfl ?_
        refine rd_cons ?_
        refine rd_v rfl ?_
        refine rd_nil ?_
        refine ⟨F15, _, _, _, t21, rfl, S16.sub, f_parts, e22, fun v26 F23 H24 c25 f27 => ?_⟩
        have S28 := S16.call0 c25
        have f_parts := (qT qS).mono c25.le f_parts
        have w_self := w_self.call0 c25
        cases (show v26 = (V.bl (t21)) from f27)
        refine rd_b ?_
        refine if_b hm20 (fun b29 hm20 => ?_) (fun b29 hm20 => ?_)
        · skip
          cases hm20
        · skip
          cases hm20
          refine rd_next ?_
          exact ⟨F23, _, rfl, S28⟩
      · skip
        rintro σ30 H31 ⟨F32, o34, rfl, S33⟩
        have S35 := S.call0 S33
        have f_parts := (qT qS).mono S33.le f_parts
        have w_self := w_self.call0 S33
        refine rd_sfld ?_
        refine rd_v rfl ?_
        refine rd_v rfl ?_
        refine fset (fs' := [("pieces", v_parts)]) S35 w_self T.c_Form T.na_Form_pieces (by rfl) (by rfl) (fun H36 c37 w38 => ?_)
        have f39 : (qT qS).r K F32 v_parts a_parts := f_parts
        have S40 := S35.call1 c37 w_self
        have f_parts := (qT qS).mono c37.le f_parts
        have f39 := (qT qS).mono c37.le f39
        cases hm
        exact hQ _ _ v_parts S40 w38 f39
theorem new_Form {P0' : Addr → Prop} {F0 H0 F H : Hp} {Q : VK} {E : XK} {vs : List V} {xs : List Str} {r : (List Str)} (S : Sx P0' F0 H0 F H) (row : Row qS K F vs xs) (hl : Nat.ble vs.length 900 = true) (hm : m_Form___init__ xs = some r) (k : ∀ v F' H', Sx P0 F H F' H' → qForm.r K F' v r → Q v H') : mkK (He.ga K "Form") (starSp 1 (sp_Form___init__ K)) E Q vs H := by
  refine mk_star S row hl fun x dx v F1 H1 hx c1 w rv => ?_
  refine ⟨F1, x, dx, v, xs, r, rfl, c1.sub, w, rv, hm, fun F' H' u0 c w' k0 => ⟨rfl, ?_⟩⟩
  obtain ⟨F2, S2, le, h3⟩ := fzI c1 hx c w'
  exact k _ F2 H' S2 ⟨x, dx, u0, rfl, h3, (qT qS).mono le k0⟩
def sp_law_form (K : PySem.W.Frag) : Sp := fun vs H Q _ => ∃ (F : Hp) (v__law_parts_here : V) (a__law_parts_here : (List Str)) (r : (List Str)), vs = [v__law_parts_here] ∧ Same F H ∧ (qL qS).r K F v__law_parts_here a__law_parts_here ∧ m_law_form a__law_parts_here = some r ∧ ∀ v F' H', Sx P0 F H F' H' → qForm.r K F' v r → Q v H'
theorem sc_law_form : FnScope ["_law_parts_here"] ["_law_parts_here"] (defScope s_law_form) := ⟨rfl, rfl, rfl, by decide +kernel, rfl, by decide +kernel, by decide +kernel⟩
theorem bn_law_form (T : Tx K mg) : Binds K (fdOf K ("_law_form", none)) ["_law_parts_here"] [] := FunD.bindsN T.F_law_form fun _ _ _ _ _ _ us hl => match us, hl with | [_], _ => rfl
theorem ok_law_form (T : Tx K mg) : FnOk P w K mg base CX0 5 (He.ga K "_law_form") (fdOf K ("_law_form", none)) ["_law_parts_here"] (sp_law_form K) := by
  refine FunD.ok T.F_law_form sc_law_form (fun vs H0 Q E h => ?_) (fun cdv A outer s H0 vs Q E hr h => ?_)
  · obtain ⟨_, _, _, _, rfl, _⟩ := h
    rfl
  · obtain ⟨F0, v__law_parts_here, a__law_parts_here, r, rfl, hE, f__law_parts_here, hm, hQ⟩ := h
    refine ⟨_, PSs.nox ((pss_cons (ps_if (pt_cmpR op_eqI (pe_callB (r := rLenQ K) cr_lenQ (by rfl) T.n_len (by decide +kernel) (pa_cons (pv 0) pa_nil)) pe_int (nomark _)) (pss_one (ps_ret (StX.pe_makeR T.mk_Form (ok_Form___init__ T) (hr.mono (by decide)) (by rfl) T.gc_Form pass0 (pa_cons (pe_ix (r := rIxL K) ix_list (pv 0) pe_int (fun _ _ => rfl)) pa_nil)))) pss_nil) (pss_cons (ps_if (pt_cmpR op_eqI (pe_callB (r := rLenQ K) cr_lenQ (by rfl) T.n_len (by decide +kernel) (pa_cons (pv 0) pa_nil)) pe_int (nomark _)) (pss_one (ps_ret (StX.pe_makeR T.mk_Form (ok_Form___init__ T) (hr.mono (by decide)) (by rfl) T.gc_Form pass0 (pa_cons (pe_ix (r := rIxL K) ix_list (pv 0) pe_int (fun _ _ => rfl)) (pa_cons (pe_ix (r := rIxL K) ix_list (pv 0) pe_int (fun _ _ => rfl)) pa_nil))))) pss_nil) (pss_one (ps_ret (StX.pe_makeR T.mk_Form (ok_Form___init__ T) (hr.mono (by decide)) (by rfl) T.gc_Form pass0 (pa_cons (pe_ix (r := rIxL K) ix_list (pv 0) pe_int (fun _ _ => rfl)) (pa_cons (pe_ix (r := rIxL K) ix_list (pv 0) pe_int (fun _ _ => rfl)) (pa_cons (pe_ix (r := rIxL K) ix_list (pv 0) pe_int (fun _ _ => rfl)) pa_nil))))))))), ?_⟩
    have S : Sx P0 F0 H0 F0 H0 := Sx.refl0 hE
    unfold m_law_form at hm
    refine rd_seq ?_
    refine rd_ifS ?_
    refine rd_test ?_
    refine rd_op ?_
    refine rd_cb ?_
    refine rd_cons ?_
    refine rd_v rfl ?_
    refine rd_nil ?_
    refine rd_lenQ (S.l f__law_parts_here).r.q ?_
    refine rd_c ?_
    refine rd_I0 ?_
    refine rd_b ?_
    refine if_b hm (fun b1 hm => ?_) (fun b1 hm => ?_)
    · skip
      obtain ⟨t2, e3, hm⟩ := bd_some hm
      refine rd_ret ?_
      refine rd_makeR ?_
      refine rd_cons ?_
      refine rd_op ?_
      refine rd_v rfl ?_
      refine rd_c ?_
      refine rd_ixL (S.l f__law_parts_here).r e3 (fun u4 f5 => ?_)
      cases (show u4 = (V.str (t2)) from f5)
      obtain ⟨t6, e7, hm⟩ := bd_some hm
      refine rd_nil ?_
      refine new_Form S (.cons rfl .nil) rfl e7 (fun v8 F9 H10 c11 f12 => ?_)
      have S13 := S.call0 c11
      have f__law_parts_here := (qL qS).mono c11.le f__law_parts_here
      cases hm
      exact hQ _ _ _ S13 f12
    · skip
      refine rd_next ?_
      refine rd_seq ?_
      refine rd_ifS ?_
      refine rd_test ?_
      refine rd_op ?_
      refine rd_cb ?_
      refine rd_cons ?_
      refine rd_v rfl ?_
      refine rd_nil ?_
      refine rd_lenQ (S.l f__law_parts_here).r.q ?_
      refine rd_c ?_
      refine rd_I0 ?_
      refine rd_b ?_
      refine if_b hm (fun b14 hm => ?_) (fun b14 hm => ?_)
      · skip
        obtain ⟨t15, e16, hm⟩ := bd_some hm
        refine rd_ret ?_
        refine rd_makeR ?_
        refine rd_cons ?_
        refine rd_op ?_
        refine rd_v rfl ?_
        refine rd_c ?_
        refine rd_ixL (S.l f__law_parts_here).r e16 (fun u17 f18 => ?_)
        cases (show u17 = (V.str (t15)) from f18)
        obtain ⟨t19, e20, hm⟩ := bd_some hm
        refine rd_cons ?_
        refine rd_op ?_
        refine rd_v rfl ?_
        refine rd_c ?_
        refine rd_ixL (S.l f__law_parts_here).r e20 (fun u21 f22 => ?_)
        cases (show u21 = (V.str (t19)) from f22)
        obtain ⟨t23, e24, hm⟩ := bd_some hm
        refine rd_nil ?_
        refine new_Form S (.cons rfl (.cons rfl .nil)) rfl e24 (fun v25 F26 H27 c28 f29 => ?_)
        have S30 := S.call0 c28
        have f__law_parts_here := (qL qS).mono c28.le f__law_parts_here
        cases hm
        exact hQ _ _ _ S30 f29
      · skip
        obtain ⟨t31, e32, hm⟩ := bd_some hm
        refine rd_next ?_
        refine rd_ret ?_
        refine rd_makeR ?_
        refine rd_cons ?_
        refine rd_op ?_
        refine rd_v rfl ?_
        refine rd_c ?_
        refine rd_ixL (S.l f__law_parts_here).r e32 (fun u33 f34 => ?_)
        cases (show u33 = (V.str (t31)) from f34)
        obtain ⟨t35, e36, hm⟩ := bd_some hm
        refine rd_cons ?_
        refine rd_op ?_
        refine rd_v rfl ?_
        refine rd_c ?_
        refine rd_ixL (S.l f__law_parts_here).r e36 (fun u37 f38 => ?_)
        cases (show u37 = (V.str (t35)) from f38)
        obtain ⟨t39, e40, hm⟩ := bd_some hm
        refine rd_cons ?_
        refine rd_op ?_
        refine rd_v rfl ?_
        refine rd_c ?_
        refine rd_ixL (S.l f__law_parts_here).r e40 (fun u41 f42 => ?_)
        cases (show u41 = (V.str (t39)) from f42)
        obtain ⟨t43, e44, hm⟩ := bd_some hm
        refine rd_nil ?_
        refine new_Form S (.cons rfl (.cons rfl (.cons rfl .nil))) rfl e44 (fun v45 F46 H47 c48 f49 => ?_)
        have S50 := S.call0 c48
        have f__law_parts_here := (qL qS).mono c48.le f__law_parts_here
        cases hm
        exact hQ _ _ _ S50 f49
def sp_law_built (K : PySem.W.Frag) : Sp := fun vs H Q _ => ∃ (F : Hp) (v__law_tree_here : V) (a__law_tree_here : (Str × (List Str) × (List Str))) (r : Pat), vs = [v__law_tree_here] ∧ Same F H ∧ (qLr (fc qS (fc (qL qS) (f1 (qL qS))))).r K F v__law_tree_here a__law_tree_here ∧ m_law_built a__law_tree_here = some r ∧ ∀ v F' H', Sx P0 F H F' H' → qPat.r K F' v r → Q v H'
theorem sc_law_built : FnScope ["_law_tree_here"] ["_law_tree_here"] (defScope s_law_built) := ⟨rfl, rfl, rfl, by decide +kernel, rfl, by decide +kernel, by decide +kernel⟩
theorem bn_law_built (T : Tx K mg) : Binds K (fdOf K ("_law_built", none)) ["_law_tree_here"] [] := FunD.bindsN T.F_law_built fun _ _ _ _ _ _ us hl => match us, hl with | [_], _ => rfl
theorem ok_law_built (T : Tx K mg) : FnOk P w K mg base CX0 8 (He.ga K "_law_built") (fdOf K ("_law_built", none)) ["_law_tree_here"] (sp_law_built K) := by
  refine FunD.ok T.F_law_built sc_law_built (fun vs H0 Q E h => ?_) (fun cdv A outer s H0 vs Q E hr h => ?_)
  · obtain ⟨_, _, _, _, rfl, _⟩ := h
    rfl
  · obtain ⟨F0, v__law_tree_here, a__law_tree_here, r, rfl, hE, f__law_tree_here, hm, hQ⟩ := h
    refine ⟨_, PSs.nox ((pss_cons (ps_if (pt_cmpR op_eqS (pe_ix (r := rIxL K) ix_list (pv 0) pe_int (fun _ _ => rfl)) pe_str (nomark _)) (pss_one (ps_ret (pe_call (ok_law_form T) (hr.mono (by decide)) (by rfl) T.g_law_form T.F_law_form.kp (bn_law_form T) .nil pass0 (pa_cons (pe_ix (r := rIxL K) ix_list (pv 0) pe_int (fun _ _ => rfl)) pa_nil)))) pss_nil) (pss_cons (ps_if (pt_cmpR op_eqS (pe_ix (r := rIxL K) ix_list (pv 0) pe_int (fun _ _ => rfl)) pe_str (nomark _)) (pss_one (ps_ret (pe_op (r := rBinO K "and" _ (sp_Pattern___and__ K) _) (op_binO (op := .BitAnd) (ok_Pattern___and__ T) (hr.mono (by decide)) (bn_Pattern___and__ T) pass0) (pe_call (ok_law_form T) (hr.mono (by decide)) (by rfl) T.g_law_form T.F_law_form.kp (bn_law_form T) .nil pass0 (pa_cons (pe_ix (r := rIxL K) ix_list (pv 0) pe_int (fun _ _ => rfl)) pa_nil)) (pe_call (ok_law_form T) (hr.mono (by decide)) (by rfl) T.g_law_form T.F_law_form.kp (bn_law_form T) .nil pass0 (pa_cons (pe_ix (r := rIxL K) ix_list (pv 0) pe_int (fun _ _ => rfl)) pa_nil))))) pss_nil) (pss_one (ps_ret (pe_op (r := rBinO K "or" _ (sp_Pattern___or__ K) _) (op_binO (op := .BitOr) (ok_Pattern___or__ T) (hr.mono (by decide)) (bn_Pattern___or__ T) pass0) (pe_call (ok_law_form T) (hr.mono (by decide)) (by rfl) T.g_law_form T.F_law_form.kp (bn_law_form T) .nil pass0 (pa_cons (pe_ix (r := rIxL K) ix_list (pv 0) pe_int (fun _ _ => rfl)) pa_nil)) (pe_call (ok_law_form T) (hr.mono (by decide)) (by rfl) T.g_law_form T.F_law_form.kp (bn_law_form T) .nil pass0 (pa_cons (pe_ix (r := rIxL K) ix_list (pv 0) pe_int (fun _ _ => rfl)) pa_nil)))))))), ?_⟩
    have S : Sx P0 F0 H0 F0 H0 := Sx.refl0 hE
    unfold m_law_built at hm
    refine rd_seq ?_
    refine rd_ifS ?_
    refine rd_test ?_
    refine rd_op ?_
    refine rd_op ?_
    refine rd_v rfl ?_
    refine rd_c ?_
    refine rd_xLr (i := 0) S f__law_tree_here ra0 (fun _ _ _ _ r => by obtain ⟨u0, s_u0, rfl, _, u1, s_u1, rfl, _, u2, rfl, _⟩ := r; exact Nat.le_of_ble_eq_true rfl) (fun u1 f2 => ?_)
    cases (show u1 = (V.str ((a__law_tree_here).1)) from f2)
    refine rd_c ?_
    refine rd_S0 ?_
    refine rd_b ?_
    refine if_b hm (fun b3 hm => ?_) (fun b3 hm => ?_)
    · skip
      refine rd_ret ?_
      refine rd_call ?_
      refine rd_cons ?_
      refine rd_op ?_
      refine rd_v rfl ?_
      refine rd_c ?_
      refine rd_xLr (i := 1) S f__law_tree_here (raS ra0) (fun _ _ _ _ r => by obtain ⟨u0, s_u0, rfl, _, u1, s_u1, rfl, _, u2, rfl, _⟩ := r; exact Nat.le_of_ble_eq_true rfl) (fun u4 f5 => ?_)
      have f5 : (qL qS).r K F0 u4 (a__law_tree_here).2.1 := f5
      obtain ⟨t6, e7, hm⟩ := bd_some hm
      refine rd_nil ?_
      refine ⟨F0, _, _, t6, rfl, S.sub, f5, e7, fun v11 F8 H9 c10 f12 => ?_⟩
      have S13 := S.call0 c10
      have f__law_tree_here := (qLr (fc qS (fc (qL qS) (f1 (qL qS))))).mono c10.le f__law_tree_here
      have f14 : qPat.r K F8 v11 (Pat.form t6) := (show qPat.r K F8 v11 _ from f12)
      cases hm
      exact hQ _ _ _ S13 f14
    · skip
      refine rd_next ?_
      refine rd_seq ?_
      refine rd_ifS ?_
      refine rd_test ?_
      refine rd_op ?_
      refine rd_op ?_
      refine rd_v rfl ?_
      refine rd_c ?_
      refine rd_xLr (i := 0) S f__law_tree_here ra0 (fun _ _ _ _ r => by obtain ⟨u0, s_u0, rfl, _, u1, s_u1, rfl, _, u2, rfl, _⟩ := r; exact Nat.le_of_ble_eq_true rfl) (fun u15 f16 => ?_)
      cases (show u15 = (V.str ((a__law_tree_here).1)) from f16)
      refine rd_c ?_
      refine rd_S0 ?_
      refine rd_b ?_
      refine if_b hm (fun b17 hm => ?_) (fun b17 hm => ?_)
      · skip
        refine rd_ret ?_
        refine rd_op ?_
        refine rd_call ?_
        refine rd_cons ?_
        refine rd_op ?_
        refine rd_v rfl ?_
        refine rd_c ?_
        refine rd_xLr (i := 1) S f__law_tree_here (raS ra0) (fun _ _ _ _ r => by obtain ⟨u0, s_u0, rfl, _, u1, s_u1, rfl, _, u2, rfl, _⟩ := r; exact Nat.le_of_ble_eq_true rfl) (fun u18 f19 => ?_)
        have f19 : (qL qS).r K F0 u18 (a__law_tree_here).2.1 := f19
        obtain ⟨t20, e21, hm⟩ := bd_some hm
        refine rd_nil ?_
        refine ⟨F0, _, _, t20, rfl, S.sub, f19, e21, fun v25 F22 H23 c24 f26 => ?_⟩
        have S27 := S.call0 c24
        have f__law_tree_here := (qLr (fc qS (fc (qL qS) (f1 (qL qS))))).mono c24.le f__law_tree_here
        refine rd_call ?_
        refine rd_cons ?_
        refine rd_op ?_
        refine rd_v rfl ?_
        refine rd_c ?_
        refine rd_xLr (i := 2) S27 f__law_tree_here (raS (raS ra1)) (fun _ _ _ _ r => by obtain ⟨u0, s_u0, rfl, _, u1, s_u1, rfl, _, u2, rfl, _⟩ := r; exact Nat.le_of_ble_eq_true rfl) (fun u28 f29 => ?_)
        have f29 : (qL qS).r K F22 u28 (a__law_tree_here).2.2 := f29
        obtain ⟨t30, e31, hm⟩ := bd_some hm
        refine rd_nil ?_
        refine ⟨F22, _, _, t30, rfl, S27.sub, f29, e31, fun v35 F32 H33 c34 f36 => ?_⟩
        have S37 := S27.call0 c34
        have f__law_tree_here := (qLr (fc qS (fc (qL qS) (f1 (qL qS))))).mono c34.le f__law_tree_here
        have f26 := qForm.mono c34.le f26
        have f38 : qPat.r K F32 v25 (Pat.form t20) := (show qPat.r K F32 v25 _ from f26)
        have f39 : qPat.r K F32 v35 (Pat.form t30) := (show qPat.r K F32 v35 _ from f36)
        obtain ⟨t40, e41, hm⟩ := bd_some hm
        refine pat_and T.pf S37 f38 f39 ?_
        refine ⟨F32, _, _, _, _, t40, rfl, S37.sub, f38, f39, e41, fun v45 F42 H43 c44 f46 => ?_⟩
        have S47 := S37.call0 c44
        have f__law_tree_here := (qLr (fc qS (fc (qL qS) (f1 (qL qS))))).mono c44.le f__law_tree_here
        cases hm
        exact hQ _ _ _ S47 f46
      · skip
        refine rd_next ?_
        refine rd_ret ?_
        refine rd_op ?_
        refine rd_call ?_
        refine rd_cons ?_
        refine rd_op ?_
        refine rd_v rfl ?_
        refine rd_c ?_
        refine rd_xLr (i := 1) S f__law_tree_here (raS ra0) (fun _ _ _ _ r => by obtain ⟨u0, s_u0, rfl, _, u1, s_u1, rfl, _, u2, rfl, _⟩ := r; exact Nat.le_of_ble_eq_true rfl) (fun u48 f49 => ?_)
        have f49 : (qL qS).r K F0 u48 (a__law_tree_here).2.1 := f49
        obtain ⟨t50, e51, hm⟩ := bd_some hm
        refine rd_nil ?_
        refine ⟨F0, _, _, t50, rfl, S.sub, f49, e51, fun v55 F52 H53 c54 f56 => ?_⟩
        have S57 := S.call0 c54
        have f__law_tree_here := (qLr (fc qS (fc (qL qS) (f1 (qL qS))))).mono c54.le f__law_tree_here
        refine rd_call ?_
        refine rd_cons ?_
        refine rd_op ?_
        refine rd_v rfl ?_
        refine rd_c ?_
        refine rd_xLr (i := 2) S57 f__law_tree_here (raS (raS ra1)) (fun _ _ _ _ r => by obtain ⟨u0, s_u0, rfl, _, u1, s_u1, rfl, _, u2, rfl, _⟩ := r; exact Nat.le_of_ble_eq_true rfl) (fun u58 f59 => ?_)
        have f59 : (qL qS).r K F52 u58 (a__law_tree_here).2.2 := f59
        obtain ⟨t60, e61, hm⟩ := bd_some hm
        refine rd_nil ?_
        refine ⟨F52, _, _, t60, rfl, S57.sub, f59, e61, fun v65 F62 H63 c64 f66 => ?_⟩
        have S67 := S57.call0 c64
        have f__law_tree_here := (qLr (fc qS (fc (qL qS) (f1 (qL qS))))).mono c64.le f__law_tree_here
        have f56 := qForm.mono c64.le f56
        have f68 : qPat.r K F62 v55 (Pat.form t50) := (show qPat.r K F62 v55 _ from f56)
        have f69 : qPat.r K F62 v65 (Pat.form t60) := (show qPat.r K F62 v65 _ from f66)
        obtain ⟨t70, e71, hm⟩ := bd_some hm
        refine pat_or T.pf S67 f68 f69 ?_
        refine ⟨F62, _, _, _, _, t70, rfl, S67.sub, f68, f69, e71, fun v75 F72 H73 c74 f76 => ?_⟩
        have S77 := S67.call0 c74
        have f__law_tree_here := (qLr (fc qS (fc (qL qS) (f1 (qL qS))))).mono c74.le f__law_tree_here
        cases hm
        exact hQ _ _ _ S77 f76
def sp_law_marks (K : PySem.W.Frag) : Sp := fun vs H Q _ => ∃ (F : Hp) (v__law_trees : V) (a__law_trees : (List (Str × (List Str) × (List Str)))) (r : (List Pat)), vs = [v__law_trees] ∧ Same F H ∧ (qL (qLr (fc qS (fc (qL qS) (f1 (qL qS)))))).r K F v__law_trees a__law_trees ∧ m_law_marks a__law_trees = some r ∧ ∀ v F' H', Sx P0 F H F' H' → (qL qPat).r K F' v r → Q v H'
theorem sc_law_marks : FnScope ["_law_trees", "_law_tree_here"] ["_law_trees"] (defScope s_law_marks) := ⟨rfl, rfl, rfl, by decide +kernel, rfl, by decide +kernel, by decide +kernel⟩
theorem bn_law_marks (T : Tx K mg) : Binds K (fdOf K ("_law_marks", none)) ["_law_trees"] [] := FunD.bindsN T.F_law_marks fun _ _ _ _ _ _ us hl => match us, hl with | [_], _ => rfl
theorem ok_law_marks (T : Tx K mg) : FnOk P w K mg base CX0 9 (He.ga K "_law_marks") (fdOf K ("_law_marks", none)) ["_law_trees"] (sp_law_marks K) := by
  refine FunD.ok T.F_law_marks sc_law_marks (fun vs H0 Q E h => ?_) (fun cdv A outer s H0 vs Q E hr h => ?_)
  · obtain ⟨_, _, _, _, rfl, _⟩ := h
    rfl
  · obtain ⟨F0, v__law_trees, a__law_trees, r, rfl, hE, f__law_trees, hm, hQ⟩ := h
    refine ⟨_, PSs.nox ((pss_one (ps_ret (pe_lc (own := [("_law_tree_here", 1)]) (tt := tYes) rfl sc_law_marks.nd (pi_listK (pv 0)) (blkOk_by (N := ["_law_trees", "_law_tree_here"]) (sc := defScope s_law_marks) (by decide +kernel)) (fun _ _ _ _ _ => pg_name (i := 1) sc_law_marks.nd rfl (Or.inl rfl)) (fun _ _ _ _ _ => pts_nil) (fun _ _ _ _ _ => (pe_call (ok_law_built T) (hr.mono (by decide)) (by rfl) T.g_law_built T.F_law_built.kp (bn_law_built T) .nil pass0 (pa_cons (pv 1) pa_nil))))))), ?_⟩
    have S : Sx P0 F0 H0 F0 H0 := Sx.refl0 hE
    unfold m_law_marks at hm
    refine rd_ret ?_
    refine rd_lc ?_
    refine rd_iL ?_
    refine rd_v rfl ?_
    refine rd_wLF S (f__law_trees) (fun p1 vs2 hq3 row4 => ?_)
    obtain ⟨g5, hm⟩ := gd_some hm
    obtain ⟨t6, e7, hm⟩ := bd_some hm
    refine rd_comp (B := qPat) feedsL (typedRow row4) e7 g5 (Pc := P0) (fun _ z => z.elim) S.sub (fun (s8 : Unit) F H => True) ?_ ?_ ?_ ?_ ?_ ?_
    · intro _ _ _ S9 _
      exact (Same.seq S9.sub (Same.seq S9.le hq3))
    · trivial
    · intros; trivial
    · intros; trivial
    · skip
      intro x10 v11 s12 o13 F14 H15 d16 acc17 f18 S19 w20 w21 n22 hm23 E24 N25 hN26 hE27
      have f__law_trees := (qL (qLr (fc qS (fc (qL qS) (f1 (qL qS)))))).mono S19.le f__law_trees
      have S28 := Sx.refl0 S19.sub
      unfold m_law_marks_b1 at hm23
      have f18 := (qLr (fc qS (fc (qL qS) (f1 (qL qS))))).mono S19.le f18
      obtain ⟨t29, e30, hm23⟩ := bd_some hm23
      refine rd_gn ?_
      refine rd_wp rfl ?_
      refine rd_yes ?_
      refine if_tt ?_
      refine rd_call ?_
      refine rd_cons ?_
      refine rd_v rfl ?_
      refine rd_nil ?_
      refine ⟨F14, _, _, t29, rfl, S28.sub, f18, e30, fun v34 F31 H32 c33 f35 => ?_⟩
      have S36 := S28.call0 c33
      have f__law_trees := (qL (qLr (fc qS (fc (qL qS) (f1 (qL qS)))))).mono c33.le f__law_trees
      have f18 := (qLr (fc qS (fc (qL qS) (f1 (qL qS))))).mono c33.le f18
      cases hm23
      exact hN26 _ _ _ _ rfl S36 f35 trivial
    intro p37 us38 F39 H40 n41 c42 w43 w44 r45
    have z46 := S.free0 n41
    have S47 := S.call0 c42
    have f__law_trees := (qL (qLr (fc qS (fc (qL qS) (f1 (qL qS)))))).mono c42.le f__law_trees
    have w48 : Ow P0 H0 _ _ _ _ := ⟨w44.fr, w44.at_, .inl z46⟩
    obtain ⟨F49, S50, le51, f52, _, eq53⟩ := fz S47 w48 z46 r45
    have f__law_trees := (qL (qLr (fc qS (fc (qL qS) (f1 (qL qS)))))).mono le51 f__law_trees
    cases hm
    exact hQ _ _ _ S50 f52
def sp_law_ruled (K : PySem.W.Frag) : Sp := fun vs H Q _ => ∃ (F : Hp) (v__law_rule_here : V) (a__law_rule_here : ((List (Str × (List Str) × (List Str))) × (List (Str × (List Str) × (List Str))) × (Option Int) × Bool × (Option Int) × Bool)) (r : (List Pat × List Pat × List (Str × Th))), vs = [v__law_rule_here] ∧ Same F H ∧ (qLr (fc (qL (qLr (fc qS (fc (qL qS) (f1 (qL qS)))))) (fc (qL (qLr (fc qS (fc (qL qS) (f1 (qL qS)))))) (fc (qO qI) (fc qB (fc (qO qI) (f1 qB))))))).r K F v__law_rule_here a__law_rule_here ∧ m_law_ruled a__law_rule_here = some r ∧ ∀ v F' H', Sx P0 F H F' H' → qRule.r K F' v r → Q v H'
theorem sc_law_ruled : FnScope ["_law_rule_here", "_law_begins"] ["_law_rule_here"] (defScope s_law_ruled) := ⟨rfl, rfl, rfl, by decide +kernel, rfl, by decide +kernel, by decide +kernel⟩
theorem bn_law_ruled (T : Tx K mg) : Binds K (fdOf K ("_law_ruled", none)) ["_law_rule_here"] [] := FunD.bindsN T.F_law_ruled fun _ _ _ _ _ _ us hl => match us, hl with | [_], _ => rfl
theorem ok_law_ruled (T : Tx K mg) : FnOk P w K mg base CX0 10 (He.ga K "_law_ruled") (fdOf K ("_law_ruled", none)) ["_law_rule_here"] (sp_law_ruled K) := by
  refine FunD.ok T.F_law_ruled sc_law_ruled (fun vs H0 Q E h => ?_) (fun cdv A outer s H0 vs Q E hr h => ?_)
  · obtain ⟨_, _, _, _, rfl, _⟩ := h
    rfl
  · obtain ⟨F0, v__law_rule_here, a__law_rule_here, r, rfl, hE, f__law_rule_here, hm, hQ⟩ := h
    refine ⟨_, PSs.nox ((pss_cons (ps_set (i := 1) sc_law_ruled.nd rfl (by first | exact Or.inl rfl | exact Or.inr rfl) (pe_call (ok_law_marks T) (hr.mono (by decide)) (by rfl) T.g_law_marks T.F_law_marks.kp (bn_law_marks T) .nil pass0 (pa_cons (pe_ix (r := rIxL K) ix_list (pv 0) pe_int (fun _ _ => rfl)) pa_nil))) (pss_one (ps_ret (pe_makeK T.mk_Rule (ok_Rule___init__ T) (hr.mono (by decide)) (by rfl) T.gc_Rule (kb_Rule___init___0 T).choose_spec pass0 (pa_cons (pv 1) (pa_cons (pe_call (ok_law_marks T) (hr.mono (by decide)) (by rfl) T.g_law_marks T.F_law_marks.kp (bn_law_marks T) .nil pass0 (pa_cons (pe_ix (r := rIxL K) ix_list (pv 0) pe_int (fun _ _ => rfl)) pa_nil)) pa_nil)) (pk_cons (pe_ix (r := rIxL K) ix_list (pv 0) pe_int (fun _ _ => rfl)) (pk_cons (pe_ix (r := rIxL K) ix_list (pv 0) pe_int (fun _ _ => rfl)) (pk_cons (pe_ix (r := rIxL K) ix_list (pv 0) pe_int (fun _ _ => rfl)) (pk_cons (pe_ix (r := rIxL K) ix_list (pv 0) pe_int (fun _ _ => rfl)) pk_nil))))))))), ?_⟩
    have S : Sx P0 F0 H0 F0 H0 := Sx.refl0 hE
    unfold m_law_ruled at hm
    refine rd_seq ?_
    refine rd_asg ?_
    refine rd_call ?_
    refine rd_cons ?_
    refine rd_op ?_
    refine rd_v rfl ?_
    refine rd_c ?_
    refine rd_xLr (i := 0) S f__law_rule_here ra0 (fun _ _ _ _ r => by obtain ⟨u0, s_u0, rfl, _, u1, s_u1, rfl, _, u2, s_u2, rfl, _, u3, s_u3, rfl, _, u4, s_u4, rfl, _, u5, rfl, _⟩ := r; exact Nat.le_of_ble_eq_true rfl) (fun u1 f2 => ?_)
    have f2 : (qL (qLr (fc qS (fc (qL qS) (f1 (qL qS)))))).r K F0 u1 (a__law_rule_here).1 := f2
    obtain ⟨t3, e4, hm⟩ := bd_some hm
    refine rd_nil ?_
    refine ⟨F0, _, _, t3, rfl, S.sub, f2, e4, fun v8 F5 H6 c7 f9 => ?_⟩
    have S10 := S.call0 c7
    have f__law_rule_here := (qLr (fc (qL (qLr (fc qS (fc (qL qS) (f1 (qL qS)))))) (fc (qL (qLr (fc qS (fc (qL qS) (f1 (qL qS)))))) (fc (qO qI) (fc qB (fc (qO qI) (f1 qB))))))).mono c7.le f__law_rule_here
    refine rd_gn ?_
    refine rd_ret ?_
    refine rd_makeK ?_
    refine rd_cons ?_
    refine rd_v rfl ?_
    refine rd_cons ?_
    refine rd_call ?_
    refine rd_cons ?_
    refine rd_op ?_
    refine rd_v rfl ?_
    refine rd_c ?_
    refine rd_xLr (i := 1) S10 f__law_rule_here (raS ra0) (fun _ _ _ _ r => by obtain ⟨u0, s_u0, rfl, _, u1, s_u1, rfl, _, u2, s_u2, rfl, _, u3, s_u3, rfl, _, u4, s_u4, rfl, _, u5, rfl, _⟩ := r; exact Nat.le_of_ble_eq_true rfl) (fun u11 f12 => ?_)
    have f12 : (qL (qLr (fc qS (fc (qL qS) (f1 (qL qS)))))).r K F5 u11 (a__law_rule_here).2.1 := f12
    obtain ⟨t13, e14, hm⟩ := bd_some hm
    refine rd_nil ?_
    refine ⟨F5, _, _, t13, rfl, S10.sub, f12, e14, fun v18 F15 H16 c17 f19 => ?_⟩
    have S20 := S10.call0 c17
    have f__law_rule_here := (qLr (fc (qL (qLr (fc qS (fc (qL qS) (f1 (qL qS)))))) (fc (qL (qLr (fc qS (fc (qL qS) (f1 (qL qS)))))) (fc (qO qI) (fc qB (fc (qO qI) (f1 qB))))))).mono c17.le f__law_rule_here
    have f9 := (qL qPat).mono c17.le f9
    refine rd_nil ?_
    refine rd_cons ?_
    refine rd_op ?_
    refine rd_v rfl ?_
    refine rd_c ?_
    refine rd_xLr (i := 2) S20 f__law_rule_here (raS (raS ra0)) (fun _ _ _ _ r => by obtain ⟨u0, s_u0, rfl, _, u1, s_u1, rfl, _, u2, s_u2, rfl, _, u3, s_u3, rfl, _, u4, s_u4, rfl, _, u5, rfl, _⟩ := r; exact Nat.le_of_ble_eq_true rfl) (fun u21 f22 => ?_)
    have f22 : (qO qI).r K F15 u21 (a__law_rule_here).2.2.1 := f22
    refine rd_cons ?_
    refine rd_op ?_
    refine rd_v rfl ?_
    refine rd_c ?_
    refine rd_xLr (i := 3) S20 f__law_rule_here (raS (raS (raS ra0))) (fun _ _ _ _ r => by obtain ⟨u0, s_u0, rfl, _, u1, s_u1, rfl, _, u2, s_u2, rfl, _, u3, s_u3, rfl, _, u4, s_u4, rfl, _, u5, rfl, _⟩ := r; exact Nat.le_of_ble_eq_true rfl) (fun u23 f24 => ?_)
    cases (show u23 = (V.bl ((a__law_rule_here).2.2.2.1)) from f24)
    refine rd_cons ?_
    refine rd_op ?_
    refine rd_v rfl ?_
    refine rd_c ?_
    refine rd_xLr (i := 4) S20 f__law_rule_here (raS (raS (raS (raS ra0)))) (fun _ _ _ _ r => by obtain ⟨u0, s_u0, rfl, _, u1, s_u1, rfl, _, u2, s_u2, rfl, _, u3, s_u3, rfl, _, u4, s_u4, rfl, _, u5, rfl, _⟩ := r; exact Nat.le_of_ble_eq_true rfl) (fun u25 f26 => ?_)
    have f26 : (qO qI).r K F15 u25 (a__law_rule_here).2.2.2.2.1 := f26
    refine rd_cons ?_
    refine rd_op ?_
    refine rd_v rfl ?_
    refine rd_c ?_
    refine rd_xLr (i := 5) S20 f__law_rule_here (raS (raS (raS (raS (raS ra1))))) (fun _ _ _ _ r => by obtain ⟨u0, s_u0, rfl, _, u1, s_u1, rfl, _, u2, s_u2, rfl, _, u3, s_u3, rfl, _, u4, s_u4, rfl, _, u5, rfl, _⟩ := r; exact Nat.le_of_ble_eq_true rfl) (fun u27 f28 => ?_)
    cases (show u27 = (V.bl ((a__law_rule_here).2.2.2.2.2)) from f28)
    obtain ⟨t29, e30, hm⟩ := bd_some hm
    refine rd_nil ?_
    refine mkk_at (rest := [v8, v18, u21, (V.bl ((a__law_rule_here).2.2.2.1)), u25, (V.bl ((a__law_rule_here).2.2.2.2.2))]) rfl rfl (fun _ => rfl) ?_
    refine new_Rule S20 f9 f19 (thO_r f22) (show qTh.r K F15 _ (Th.d (PyData.bool ((a__law_rule_here).2.2.2.1))) from Dp.bl _) (thO_r f26) (show qTh.r K F15 _ (Th.d (PyData.bool ((a__law_rule_here).2.2.2.2.2))) from Dp.bl _) e30 (fun v31 F32 H33 c34 f35 => ?_)
    have S36 := S20.call0 c34
    have f__law_rule_here := (qLr (fc (qL (qLr (fc qS (fc (qL qS) (f1 (qL qS)))))) (fc (qL (qLr (fc qS (fc (qL qS) (f1 (qL qS)))))) (fc (qO qI) (fc qB (fc (qO qI) (f1 qB))))))).mono c34.le f__law_rule_here
    have f9 := (qL qPat).mono c34.le f9
    cases hm
    exact hQ _ _ _ S36 f35
def sp_law_ends (K : PySem.W.Frag) : Sp := fun vs H Q _ => ∃ (F : Hp) (a__law_part : Str) (a__law_line_here : Str) (a__law_at : Int) (r : (List Int)), vs = [(V.str (a__law_part)), (V.str (a__law_line_here)), (V.int (a__law_at))] ∧ Same F H ∧ m_law_ends a__law_part a__law_line_here a__law_at = some r ∧ ∀ v F' H', Sx P0 F H F' H' → (qL qI).r K F' v r → Q v H'
theorem sc_law_ends : FnScope ["_law_part", "_law_line_here", "_law_at", "_law_found", "_law_taken", "_law_end"] ["_law_part", "_law_line_here", "_law_at"] (defScope s_law_ends) := ⟨rfl, rfl, rfl, by decide +kernel, rfl, by decide +kernel, by decide +kernel⟩
theorem bn_law_ends (T : Tx K mg) : Binds K (fdOf K ("_law_ends", none)) ["_law_part", "_law_line_here", "_law_at"] [] := FunD.bindsN T.F_law_ends fun _ _ _ _ _ _ us hl => match us, hl with | [_, _, _], _ => rfl
theorem ok_law_ends (T : Tx K mg) : FnOk P w K mg base CX0 1 (He.ga K "_law_ends") (fdOf K ("_law_ends", none)) ["_law_part", "_law_line_here", "_law_at"] (sp_law_ends K) := by
  refine FunD.ok T.F_law_ends sc_law_ends (fun vs H0 Q E h => ?_) (fun cdv A outer s H0 vs Q E hr h => ?_)
  · obtain ⟨_, _, _, _, _, rfl, _⟩ := h
    rfl
  · obtain ⟨F0, a__law_part, a__law_line_here, a__law_at, r, rfl, hE, hm, hQ⟩ := h
    refine ⟨_, PSs.nox ((pss_cons (ps_if (pt_cmpR op_eqS (pv 0) pe_str (nomark _)) (pss_one (ps_ret (pe_listRg rfl (by rfl) T.n_list (prg_2 (by rfl) T.n_range (pv 2) (pe_op op_add (pe_callB cr_lenS (by rfl) T.n_len (by decide +kernel) (pa_cons (pv 1) pa_nil)) pe_int))))) pss_nil) (pss_cons (ps_set (i := 3) sc_law_ends.nd rfl (by first | exact Or.inl rfl | exact Or.inr rfl) (pe_lst pa_nil)) (C8.pss_cut (ps_if (pt_cmpR (r := rIn K false) op_in_seq (pv 0) (pe_tup (pa_cons pe_str (pa_cons pe_str pa_nil))) rfl) (pss_cons (ps_set (i := 4) sc_law_ends.nd rfl (by first | exact Or.inl rfl | exact Or.inr rfl) pe_str) (C8.pss_cut (ps_if (pt_cmpR op_eqS (pv 0) pe_str (nomark _)) (pss_one (ps_set (i := 4) sc_law_ends.nd rfl (by first | exact Or.inl rfl | exact Or.inr rfl) pe_str)) pss_nil) (pss_cons (ps_set (i := 5) sc_law_ends.nd rfl (by first | exact Or.inl rfl | exact Or.inr rfl) (pv 2)) (pss_one (ps_while PassesOwn.never (PW.pt (pw_and (pt_cmpR op_lt (pv 5) (pe_callB cr_lenS (by rfl) T.n_len (by decide +kernel) (pa_cons (pv 1) pa_nil)) (nomark _)) (pw_and1 (pt_cmpR op_inS (pe_ix ix_str (pv 1) (pv 5) (fun _ _ => rfl)) (pv 4) rfl)))) (pss_cons (ps_set (i := 5) sc_law_ends.nd rfl (by first | exact Or.inl rfl | exact Or.inr rfl) (pe_op op_add (pv 5) pe_int)) (pss_one (ps_expr (pe_bmK (K := K) PySem.F.plainAttrs_list PySem.F.slot_list_append PySem.F.type_list_append mt_append (pv 3) (pa_cons (pv 5) pa_nil)))))))))) (pss_one (ps_if (pt_cmpR op_eqS (pe_slice sl_str (pv 1) (po_some (pv 2)) (po_some (pe_op op_add (pv 2) (pe_callB cr_lenS (by rfl) T.n_len (by decide +kernel) (pa_cons (pv 0) pa_nil))))) (pv 0) (nomark _)) (pss_one (ps_expr (pe_bmK (K := K) PySem.F.plainAttrs_list PySem.F.slot_list_append PySem.F.type_list_append mt_append (pv 3) (pa_cons (pe_op op_add (pv 2) (pe_callB cr_lenS (by rfl) T.n_len (by decide +kernel) (pa_cons (pv 0) pa_nil))) pa_nil)))) pss_nil))) (pss_one (ps_ret (pv 3))))))), ?_⟩
    have S : Sx P0 F0 H0 F0 H0 := Sx.refl0 hE
    unfold m_law_ends at hm
    refine rd_seq ?_
    refine rd_ifS ?_
    refine rd_test ?_
    refine rd_op ?_
    refine rd_v rfl ?_
    refine rd_c ?_
    refine rd_S0 ?_
    refine rd_b ?_
    refine if_b hm (fun b1 hm => ?_) (fun b1 hm => ?_)
    · skip
      obtain ⟨g2, hm⟩ := gd_some hm
      obtain ⟨g3, hm⟩ := gd_some hm
      refine rd_ret ?_
      refine rd_lrg ?_
      refine rd_g2 ?_
      refine rd_v rfl ?_
      refine rd_op ?_
      refine rd_cb ?_
      refine rd_cons ?_
      refine rd_v rfl ?_
      refine rd_nil ?_
      refine rd_lenS g2 ?_
      refine rd_c ?_
      refine rd_I0 ?_
      refine rd_g2i ?_
      refine rd_lrgE (K := K) (F := F0) g3 ?_
      refine alL' S (fun v4 F5 H6 c7 f8 => ?_)
      have S9 := S.call0 c7
      cases hm
      exact hQ _ _ _ S9 f8
    · skip
      refine rd_next ?_
      refine rd_seq ?_
      refine rd_asg ?_
      refine rd_lst ?_
      refine rd_nil ?_
      refine rd_lK rfl ?_
      refine al S (fun p10 H11 np12 c13 w14 => ?_)
      have z16 := S.free0 np12
      have S17 := S.call0 c13
      have r18 : Row qI K F0 [] ([] : List Int) := .nil
      obtain ⟨t19, e20, hm⟩ := bd_some hm
      refine rd_gn ?_
      refine rd_cut (fun σ' H' => ∃ (F : Hp) (o4 : Option V) (o5 : Option V) (vs0 : List V), σ' = [some (V.str (a__law_part)), some (V.str (a__law_line_here)), some (V.int (a__law_at)), some (V.ref p10), o4, o5] ∧ Sx (fun a => a = p10) F0 H11 F H' ∧ Ow (fun a => a = p10) H11 F H' p10 (.lst vs0) ∧ Row qI K F vs0 t19) ?_ ?_
      · skip
        have S21 : Sx (fun a => a = p10) _ _ _ _ := Sx.refl S17.sub (fun a z => by rw [z, w14.at_]; exact (fun h => nomatch h))
        have w22 : Ow (fun a => a = p10) H11 _ _ _ _ := ⟨w14.fr, w14.at_, .inr (rfl)⟩
        refine rd_ifS ?_
        refine rd_test ?_
        refine rd_op ?_
        refine rd_v rfl ?_
        refine rd_tup ?_
        refine rd_cons ?_
        refine rd_c ?_
        refine rd_cons ?_
        refine rd_c ?_
        refine rd_nil ?_
        refine rd_uK rfl ?_
        refine alT (K := K) (A := qS) (xs := [("<digits>" : Str), ("<word>" : Str)]) S21 (.cons rfl (.cons rfl .nil)) (fun v23 F24 H25 c26 f27 => ?_)
        have S28 := S21.call0 c26
        have r18 := Row.mono c26.le r18
        have w22 := w22.call0 c26
        refine rd_inS (S28.t f27).q ?_
        refine rd_b ?_
        refine if_b e20 (fun b29 e20 => ?_) (fun b29 e20 => ?_)
        · skip
          obtain ⟨t30, e31, e20⟩ := bd_some e20
          refine rd_seq ?_
          refine rd_asg ?_
          refine rd_c ?_
          refine rd_gn ?_
          refine rd_cut (fun σ' H' => ∃ (F : Hp) (o5 : Option V), σ' = [some (V.str (a__law_part)), some (V.str (a__law_line_here)), some (V.int (a__law_at)), some (V.ref p10), some (V.str (t30)), o5] ∧ Sx P0 F24 H25 F H') ?_ ?_
          · skip
            have S32 := Sx.refl0 S28.sub
            refine rd_ifS ?_
            refine rd_test ?_
            refine rd_op ?_
            refine rd_v rfl ?_
            refine rd_c ?_
            refine rd_S0 ?_
            refine rd_b ?_
            refine if_b e31 (fun b33 e31 => ?_) (fun b33 e31 => ?_)
            · skip
              cases e31
              refine rd_asg ?_
              refine rd_c ?_
              refine rd_gn ?_
              exact ⟨F24, _, rfl, S32⟩
            · skip
              cases e31
              refine rd_next ?_
              exact ⟨F24, _, rfl, S32⟩
          · skip
            rintro σ35 H34 ⟨F36, o38, rfl, S37⟩
            have S39 := S28.call0 S37
            have r18 := Row.mono S37.le r18
            have w22 := w22.call0 S37
            obtain ⟨t40, e41, e20⟩ := bd_some e20
            refine rd_seq ?_
            refine rd_asg ?_
            refine rd_v rfl ?_
            refine rd_gn ?_
            refine rd_whileS e41 (fun (s42 : ((List Int) × Int)) σ H => ∃ (F : Hp) (vs0 : List V), σ = [some (V.str (a__law_part)), some (V.str (a__law_line_here)), some (V.int (a__law_at)), some (V.ref p10), some (V.str (t30)), some (V.int (s42.2))] ∧ Sx (fun a => a = p10) F36 H34 F H ∧ Ow (fun a => a = p10) H34 F H p10 (.lst vs0) ∧ Row qI K F vs0 s42.1) ?_ ?_ ?_ ?_
            · skip
              have S43 : Sx (fun a => a = p10) _ _ _ _ := Sx.refl S39.sub (fun a z => by rw [z, w22.at_]; exact (fun h => nomatch h))
              have w44 : Ow (fun a => a = p10) H34 _ _ _ _ := ⟨w22.fr, w22.at_, .inr (rfl)⟩
              exact ⟨F36, _, rfl, S43, w44, r18⟩
            · skip
              rintro s45 b46 σ47 H48 T49 E50 ⟨F54, v56, rfl, S55, w57, r58⟩ hm53 hT51 hE52
              unfold m_law_ends_b1 at hm53
              obtain ⟨g59, hm53⟩ := gd_some hm53
              obtain ⟨t62, e63, hm53⟩ := bd_some hm53
              refine rd_and ?_
              refine rd_test ?_
              refine rd_op ?_
              refine rd_v rfl ?_
              refine rd_cb ?_
              refine rd_cons ?_
              refine rd_v rfl ?_
              refine rd_nil ?_
              refine rd_lenS g59 ?_
              refine rd_I0 ?_
              refine rd_b ?_
              refine and_j (fun c H' => c = t62 ∧ ∃ F', Sx P0 F54 H48 F' H') ?_ ?_ ?_
              · intro b64 Q65 q66
                have e63 := if_t e63 b64
                have S67 := Sx.refl0 S55.sub
                obtain ⟨t68, e69, e63⟩ := bd_some e63
                cases e63
                refine rd_test ?_
                refine rd_op ?_
                refine rd_op ?_
                refine rd_v rfl ?_
                refine rd_v rfl ?_
                refine rd_ixS e69 ?_
                refine rd_v rfl ?_
                refine rd_inSS ?_
                refine rd_b ?_
                exact q66 _ _ ⟨rfl, F54, S67⟩
              · intro b64
                have e63 := if_f e63 b64
                cases e63
                have S70 := Sx.refl0 S55.sub
                exact ⟨rfl, F54, S70⟩
              rintro b74 H72 ⟨rfl, F71, c73⟩
              have S75 := S55.call0 c73
              have r58 := Row.mono c73.le r58
              have w57 := w57.call0 c73
              refine if_j (fun b76 => ?_) (fun b76 => ?_)
              · cases hm53; exact hT51 _ _ b76 ⟨F71, _, rfl, S75, w57, r58⟩
              · cases hm53; exact hE52 _ _ b76 ⟨F71, _, rfl, S75, w57, r58⟩
            · skip
              rintro s77 s78 σ79 H80 ⟨F82, v84, rfl, S83, w85, r86⟩ hm81
              unfold m_law_ends_b2 at hm81
              obtain ⟨g87, hm81⟩ := gd_some hm81
              refine rd_seq ?_
              refine rd_asg ?_
              refine rd_op ?_
              refine rd_v rfl ?_
              refine rd_c ?_
              refine rd_I0 ?_
              refine rd_gn ?_
              refine rd_drop ?_
              refine rd_bm ?_
              refine rd_v rfl ?_
              refine rd_ty w85.ty ?_
              refine rd_cons ?_
              refine rd_v rfl ?_
              refine rd_nil ?_
              refine ap S83 w85 r86 g87 (fun H88 c89 w90 => ?_)
              have r91 := r86.snoc (show qI.r K F82 _ (s77.2 + 1) from rfl)
              have S92 := S83.call1 c89 w85
              have r91 := Row.mono c89.le r91
              cases hm81
              exact ⟨F82, _, rfl, S92, w90, r91⟩
            · skip
              rintro σ93 H94 ⟨F95, v97, rfl, S96, w98, r99⟩
              have S100 := S39.call1 S96 w22
              have w101 : Ow (fun a => a = p10) H11 _ _ _ _ := ⟨w98.fr, w98.at_, w22.mine⟩
              cases e20
              exact ⟨F95, _, _, _, rfl, S100, w101, r99⟩
        · skip
          obtain ⟨g102, e20⟩ := gd_some e20
          obtain ⟨g103, e20⟩ := gd_some e20
          refine rd_ifS ?_
          refine rd_test ?_
          refine rd_op ?_
          refine rd_sl ?_
          refine rd_v rfl ?_
          refine rd_pt ?_
          refine rd_v rfl ?_
          refine rd_i ?_
          refine rd_pt ?_
          refine rd_op ?_
          refine rd_v rfl ?_
          refine rd_cb ?_
          refine rd_cons ?_
          refine rd_v rfl ?_
          refine rd_nil ?_
          refine rd_lenS g102 ?_
          refine rd_I0 ?_
          refine rd_i ?_
          refine rd_slS g103 ?_
          refine rd_v rfl ?_
          refine rd_S0 ?_
          refine rd_b ?_
          refine if_b e20 (fun b104 e20 => ?_) (fun b104 e20 => ?_)
          · skip
            obtain ⟨g105, e20⟩ := gd_some e20
            obtain ⟨g106, e20⟩ := gd_some e20
            refine rd_drop ?_
            refine rd_bm ?_
            refine rd_v rfl ?_
            refine rd_ty w22.ty ?_
            refine rd_cons ?_
            refine rd_op ?_
            refine rd_v rfl ?_
            refine rd_cb ?_
            refine rd_cons ?_
            refine rd_v rfl ?_
            refine rd_nil ?_
            refine rd_lenS g105 ?_
            refine rd_I0 ?_
            refine rd_nil ?_
            refine ap S28 w22 r18 g106 (fun H107 c108 w109 => ?_)
            have r110 := r18.snoc (show qI.r K F24 _ (a__law_at + ((a__law_part).length : Int)) from rfl)
            have S111 := S28.call1 c108 w22
            have r110 := Row.mono c108.le r110
            cases e20
            exact ⟨F24, _, _, _, rfl, S111, w109, r110⟩
          · skip
            cases e20
            refine rd_next ?_
            exact ⟨F24, _, _, _, rfl, S28, w22, r18⟩
      · skip
        rintro σ113 H112 ⟨F114, o116, o117, v118, rfl, S115, w119, r120⟩
        have S121 := S17.call1 S115 w14
        have w122 : Ow P0 H0 _ _ _ _ := ⟨w119.fr, w119.at_, w14.mine⟩
        obtain ⟨F123, S124, le125, f126, _, eq127⟩ := fz S121 w122 z16 r120
        cases hm
        refine rd_ret ?_
        refine rd_v rfl ?_
        exact hQ _ _ _ S124 f126
def sp_law_fits (K : PySem.W.Frag) : Sp := fun vs H Q _ => ∃ (F : Hp) (v__law_parts_here : V) (a__law_parts_here : (List Str)) (a__law_line_here : Str) (r : Bool), vs = [v__law_parts_here, (V.str (a__law_line_here))] ∧ Same F H ∧ (qL qS).r K F v__law_parts_here a__law_parts_here ∧ m_law_fits a__law_parts_here a__law_line_here = some r ∧ ∀ v F' H', Sx P0 F H F' H' → qB.r K F' v r → Q v H'
theorem sc_law_fits : FnScope ["_law_parts_here", "_law_line_here", "_law_places", "_law_part", "_law_more", "_law_at", "_law_end"] ["_law_parts_here", "_law_line_here"] (defScope s_law_fits) := ⟨rfl, rfl, rfl, by decide +kernel, rfl, by decide +kernel, by decide +kernel⟩
theorem bn_law_fits (T : Tx K mg) : Binds K (fdOf K ("_law_fits", none)) ["_law_parts_here", "_law_line_here"] [] := FunD.bindsN T.F_law_fits fun _ _ _ _ _ _ us hl => match us, hl with | [_, _], _ => rfl
theorem ok_law_fits (T : Tx K mg) : FnOk P w K mg base CX0 2 (He.ga K "_law_fits") (fdOf K ("_law_fits", none)) ["_law_parts_here", "_law_line_here"] (sp_law_fits K) := by
  refine FunD.ok T.F_law_fits sc_law_fits (fun vs H0 Q E h => ?_) (fun cdv A outer s H0 vs Q E hr h => ?_)
  · obtain ⟨_, _, _, _, _, rfl, _⟩ := h
    rfl
  · obtain ⟨F0, v__law_parts_here, a__law_parts_here, a__law_line_here, r, rfl, hE, f__law_parts_here, hm, hQ⟩ := h
    refine ⟨_, PSs.nox ((pss_cons (ps_set (i := 2) sc_law_fits.nd rfl (by first | exact Or.inl rfl | exact Or.inr rfl) (pe_lst (pa_cons pe_int pa_nil))) (pss_cons (ps_for PassesOwn.never rfl (pi_listK (pv 0)) (pg_name (i := 3) sc_law_fits.nd rfl (by first | exact Or.inl rfl | exact Or.inr rfl)) (pss_cons (ps_set (i := 4) sc_law_fits.nd rfl (by first | exact Or.inl rfl | exact Or.inr rfl) (pe_lst pa_nil)) (pss_cons (ps_for PassesOwn.never rfl (pi_listK (pv 2)) (pg_name (i := 5) sc_law_fits.nd rfl (by first | exact Or.inl rfl | exact Or.inr rfl)) (pss_one (ps_set (i := 4) sc_law_fits.nd rfl (by first | exact Or.inl rfl | exact Or.inr rfl) (pe_op op_cat (pv 4) (pe_lc (own := [("_law_end", 6)]) rfl sc_law_fits.nd (pi_listK (pe_call (ok_law_ends T) (hr.mono (by decide)) (by rfl) T.g_law_ends T.F_law_ends.kp (bn_law_ends T) .nil pass0 (pa_cons (pv 3) (pa_cons (pv 1) (pa_cons (pv 5) pa_nil))))) (blkOk_by (N := ["_law_parts_here", "_law_line_here", "_law_places", "_law_part", "_law_more", "_law_at", "_law_end"]) (sc := defScope s_law_fits) (by decide +kernel)) (fun _ _ _ _ _ => pg_name (i := 6) sc_law_fits.nd rfl (Or.inl rfl)) (fun _ _ _ _ _ => (pts_one (pt_cmpR (r := rIn K true) op_notIn_seq (pv 6) (pv 4) rfl))) (fun _ _ _ _ _ => (pv 6))))))) (pss_one (ps_set (i := 2) sc_law_fits.nd rfl (by first | exact Or.inl rfl | exact Or.inr rfl) (pv 4)))))) (pss_one (ps_ret (pe_and (pe_cmpR op_neS (pv 1) pe_str (nomark _)) (pe_one (pe_cmpR (r := rIn K false) op_in_seq (pe_callB cr_lenS (by rfl) T.n_len (by decide +kernel) (pa_cons (pv 1) pa_nil)) (pv 2) rfl)))))))), ?_⟩
    have S : Sx P0 F0 H0 F0 H0 := Sx.refl0 hE
    unfold m_law_fits at hm
    refine rd_seq ?_
    refine rd_asg ?_
    refine rd_lst ?_
    refine rd_cons ?_
    refine rd_c ?_
    refine rd_nil ?_
    refine rd_lK rfl ?_
    refine alL (K := K) (A := qI) (xs := ([0] : List Int)) S (.cons rfl .nil) (fun v1 F2 H3 c4 f5 => ?_)
    have S6 := S.call0 c4
    have f__law_parts_here := (qL qS).mono c4.le f__law_parts_here
    refine rd_gn ?_
    refine rd_seq ?_
    refine rd_for ?_
    refine rd_iL ?_
    refine rd_v rfl ?_
    refine rd_wLF S6 (f__law_parts_here) (fun p7 vs8 hq9 row10 => ?_)
    obtain ⟨t11, e12, hm⟩ := bd_some hm
    refine rd_forS feedsL (typedRow row10) e12 (fun (s13 : (List Int)) σ H => ∃ (F : Hp) (x0 : V) (o3 : Option V) (o4 : Option V) (o5 : Option V) (o6 : Option V), σ = [some v__law_parts_here, some (V.str (a__law_line_here)), some x0, o3, o4, o5, o6] ∧ Sx P0 F2 H3 F H ∧ (qL qI).r K F x0 s13) ?_ ?_ ?_ ?_
    · rintro _ _ _ ⟨_, _, _, _, _, _, _, S14, _⟩
      exact (Same.seq S14.sub (Same.seq S14.le hq9))
    · skip
      have S15 := Sx.refl0 S6.sub
      exact ⟨F2, _, _, _, _, _, rfl, S15, f5⟩
    · skip
      rintro x16 v17 s18 c22 σ19 H20 f21 ⟨F23, x25, o26, o27, o28, o29, rfl, S24, f30⟩ hm33
      have f__law_parts_here := (qL qS).mono S24.le f__law_parts_here
      unfold m_law_fits_b3 at hm33
      cases (show v17 = (V.str (x16)) from f21)
      refine rd_gn ?_
      refine rd_seq ?_
      refine rd_asg ?_
      refine rd_lst ?_
      refine rd_nil ?_
      refine rd_lK rfl ?_
      refine alL (K := K) (A := qI) (xs := ([] : List Int)) S24 .nil (fun v34 F35 H36 c37 f38 => ?_)
      have S39 := S24.call0 c37
      have f__law_parts_here := (qL qS).mono c37.le f__law_parts_here
      have f30 := (qL qI).mono c37.le f30
      refine rd_gn ?_
      refine rd_seq ?_
      refine rd_for ?_
      refine rd_iL ?_
      refine rd_v rfl ?_
      refine rd_wLF S39 (f30) (fun p40 vs41 hq42 row43 => ?_)
      obtain ⟨t44, e45, hm33⟩ := bd_some hm33
      refine rd_forS feedsL (typedRow row43) e45 (fun (s46 : (List Int)) σ H => ∃ (F : Hp) (x0 : V) (o5 : Option V) (o6 : Option V), σ = [some v__law_parts_here, some (V.str (a__law_line_here)), some x25, some (V.str (x16)), some x0, o5, o6] ∧ Sx P0 F35 H36 F H ∧ (qL qI).r K F x0 s46) ?_ ?_ ?_ ?_
      · rintro _ _ _ ⟨_, _, _, _, _, S47, _⟩
        exact (Same.seq S47.sub (Same.seq S47.le hq42))
      · skip
        have S48 := Sx.refl0 S39.sub
        exact ⟨F35, _, _, _, rfl, S48, f38⟩
      · skip
        rintro x49 v50 s51 c55 σ52 H53 f54 ⟨F56, x58, o59, o60, rfl, S57, f61⟩ hm64
        have f__law_parts_here := (qL qS).mono S57.le f__law_parts_here
        have f30 := (qL qI).mono S57.le f30
        unfold m_law_fits_b2 at hm64
        cases (show v50 = (V.int (x49)) from f54)
        obtain ⟨t65, e66, hm64⟩ := bd_some hm64
        refine rd_gn ?_
        refine rd_asg ?_
        refine rd_op ?_
        refine rd_v rfl ?_
        refine rd_lc ?_
        refine rd_iL ?_
        refine rd_call ?_
        refine rd_cons ?_
        refine rd_v rfl ?_
        refine rd_cons ?_
        refine rd_v rfl ?_
        refine rd_cons ?_
        refine rd_v rfl ?_
        refine rd_nil ?_
        refine ⟨F56, _, _, _, t65, rfl, S57.sub, e66, fun v70 F67 H68 c69 f71 => ?_⟩
        have S72 := S57.call0 c69
        have f__law_parts_here := (qL qS).mono c69.le f__law_parts_here
        have f30 := (qL qI).mono c69.le f30
        have f61 := (qL qI).mono c69.le f61
        refine rd_wLF S72 (f71) (fun p73 vs74 hq75 row76 => ?_)
        obtain ⟨g77, hm64⟩ := gd_some hm64
        obtain ⟨t78, e79, hm64⟩ := bd_some hm64
        refine rd_comp (B := qI) feedsL (typedRow row76) e79 g77 (Pc := P0) (fun _ z => z.elim) S72.sub (fun (s80 : Unit) F H => True) ?_ ?_ ?_ ?_ ?_ ?_
        · intro _ _ _ S81 _
          exact (Same.seq S81.sub (Same.seq S81.le hq75))
        · trivial
        · intros; trivial
        · intros; trivial
        · skip
          intro x82 v83 s84 o85 F86 H87 d88 acc89 f90 S91 w92 w93 n94 hm95 E96 N97 hN98 hE99
          have f__law_parts_here := (qL qS).mono S91.le f__law_parts_here
          have f30 := (qL qI).mono S91.le f30
          have f61 := (qL qI).mono S91.le f61
          have S100 := Sx.refl0 S91.sub
          unfold m_law_fits_b1 at hm95
          cases (show v83 = (V.int (x82)) from f90)
          refine rd_gn ?_
          refine rd_wp rfl ?_
          refine rd_test ?_
          refine rd_op ?_
          refine rd_v rfl ?_
          refine rd_v rfl ?_
          refine rd_niI (S100.l f61).r.q ?_
          refine rd_b ?_
          refine if_b hm95 (fun b101 hm95 => ?_) (fun b101 hm95 => ?_)
          · skip
            cases hm95
            refine rd_v rfl ?_
            exact hN98 _ _ _ _ rfl S100 rfl trivial
          · skip
            cases hm95
            exact hE99 _ _ rfl S100 trivial
        intro p102 us103 F104 H105 n106 c107 w108 w109 r110
        have z111 := S72.free0 n106
        have S112 := S72.call0 c107
        have f__law_parts_here := (qL qS).mono c107.le f__law_parts_here
        have f30 := (qL qI).mono c107.le f30
        have f61 := (qL qI).mono c107.le f61
        have w113 : Ow P0 H36 _ _ _ _ := ⟨w109.fr, w109.at_, .inl z111⟩
        obtain ⟨F114, S115, le116, f117, _, eq118⟩ := fz S112 w113 z111 r110
        have f__law_parts_here := (qL qS).mono le116 f__law_parts_here
        have f30 := (qL qI).mono le116 f30
        have f61 := (qL qI).mono le116 f61
        obtain ⟨g119, hm64⟩ := gd_some hm64
        refine rd_cat (S115.l f61) (S115.l f117) g119 ?_
        refine alL' S115 (fun v120 F121 H122 c123 f124 => ?_)
        have S125 := S115.call0 c123
        have f__law_parts_here := (qL qS).mono c123.le f__law_parts_here
        have f30 := (qL qI).mono c123.le f30
        have f61 := (qL qI).mono c123.le f61
        cases hm64
        refine rd_gn ?_
        exact ⟨F121, _, _, _, rfl, S125, f124⟩
      · skip
        rintro σ126 H127 ⟨F128, x130, o131, o132, rfl, S129, f133⟩
        have S134 := S39.call0 S129
        have f__law_parts_here := (qL qS).mono S129.le f__law_parts_here
        have f30 := (qL qI).mono S129.le f30
        cases hm33
        refine rd_asg ?_
        refine rd_v rfl ?_
        refine rd_gn ?_
        exact ⟨F128, _, _, _, _, _, rfl, S134, f133⟩
    · skip
      rintro σ135 H136 ⟨F137, x139, o140, o141, o142, o143, rfl, S138, f144⟩
      have S145 := S6.call0 S138
      have f__law_parts_here := (qL qS).mono S138.le f__law_parts_here
      obtain ⟨t147, e148, hm⟩ := bd_some hm
      refine rd_ret ?_
      refine rd_andV ?_
      refine rd_op ?_
      refine rd_v rfl ?_
      refine rd_c ?_
      refine rd_S0 ?_
      refine rd_b ?_
      refine andV_j (fun c H' => c = V.bl t147 ∧ ∃ F', Sx P0 F137 H136 F' H') ?_ ?_ ?_
      · intro b149 Q150 q151
        have e148 := if_t e148 b149
        have S152 := Sx.refl0 S145.sub
        obtain ⟨g153, e148⟩ := gd_some e148
        cases e148
        refine rd_op ?_
        refine rd_cb ?_
        refine rd_cons ?_
        refine rd_v rfl ?_
        refine rd_nil ?_
        refine rd_lenS g153 ?_
        refine rd_v rfl ?_
        refine rd_inI (S152.l f144).r.q ?_
        exact q151 _ _ ⟨rfl, F137, S152⟩
      · intro b149
        have e148 := if_f e148 b149
        cases e148
        have S154 := Sx.refl0 S145.sub
        exact ⟨rfl, F137, S154⟩
      rintro b158 H156 ⟨rfl, F155, c157⟩
      have S159 := S145.call0 c157
      have f__law_parts_here := (qL qS).mono c157.le f__law_parts_here
      have f144 := (qL qI).mono c157.le f144
      cases hm
      exact hQ _ _ _ S159 rfl
def sp_law_bears (K : PySem.W.Frag) : Sp := fun vs H Q _ => ∃ (F : Hp) (v__law_tree_here : V) (a__law_tree_here : (Str × (List Str) × (List Str))) (a__law_line_here : Str) (r : Bool), vs = [v__law_tree_here, (V.str (a__law_line_here))] ∧ Same F H ∧ (qLr (fc qS (fc (qL qS) (f1 (qL qS))))).r K F v__law_tree_here a__law_tree_here ∧ m_law_bears a__law_tree_here a__law_line_here = some r ∧ ∀ v F' H', Sx P0 F H F' H' → qB.r K F' v r → Q v H'
theorem sc_law_bears : FnScope ["_law_tree_here", "_law_line_here"] ["_law_tree_here", "_law_line_here"] (defScope s_law_bears) := ⟨rfl, rfl, rfl, by decide +kernel, rfl, by decide +kernel, by decide +kernel⟩
theorem bn_law_bears (T : Tx K mg) : Binds K (fdOf K ("_law_bears", none)) ["_law_tree_here", "_law_line_here"] [] := FunD.bindsN T.F_law_bears fun _ _ _ _ _ _ us hl => match us, hl with | [_, _], _ => rfl
theorem ok_law_bears (T : Tx K mg) : FnOk P w K mg base CX0 3 (He.ga K "_law_bears") (fdOf K ("_law_bears", none)) ["_law_tree_here", "_law_line_here"] (sp_law_bears K) := by
  refine FunD.ok T.F_law_bears sc_law_bears (fun vs H0 Q E h => ?_) (fun cdv A outer s H0 vs Q E hr h => ?_)
  · obtain ⟨_, _, _, _, _, rfl, _⟩ := h
    rfl
  · obtain ⟨F0, v__law_tree_here, a__law_tree_here, a__law_line_here, r, rfl, hE, f__law_tree_here, hm, hQ⟩ := h
    refine ⟨_, PSs.nox ((pss_cons (ps_if (pt_cmpR op_eqS (pe_ix (r := rIxL K) ix_list (pv 0) pe_int (fun _ _ => rfl)) pe_str (nomark _)) (pss_one (ps_ret (pe_call (ok_law_fits T) (hr.mono (by decide)) (by rfl) T.g_law_fits T.F_law_fits.kp (bn_law_fits T) .nil pass0 (pa_cons (pe_ix (r := rIxL K) ix_list (pv 0) pe_int (fun _ _ => rfl)) (pa_cons (pv 1) pa_nil))))) pss_nil) (pss_cons (ps_if (pt_cmpR op_eqS (pe_ix (r := rIxL K) ix_list (pv 0) pe_int (fun _ _ => rfl)) pe_str (nomark _)) (pss_one (ps_ret (pe_and (pe_call (ok_law_fits T) (hr.mono (by decide)) (by rfl) T.g_law_fits T.F_law_fits.kp (bn_law_fits T) .nil pass0 (pa_cons (pe_ix (r := rIxL K) ix_list (pv 0) pe_int (fun _ _ => rfl)) (pa_cons (pv 1) pa_nil))) (pe_one (pe_call (ok_law_fits T) (hr.mono (by decide)) (by rfl) T.g_law_fits T.F_law_fits.kp (bn_law_fits T) .nil pass0 (pa_cons (pe_ix (r := rIxL K) ix_list (pv 0) pe_int (fun _ _ => rfl)) (pa_cons (pv 1) pa_nil))))))) pss_nil) (pss_one (ps_ret (pe_or (pe_call (ok_law_fits T) (hr.mono (by decide)) (by rfl) T.g_law_fits T.F_law_fits.kp (bn_law_fits T) .nil pass0 (pa_cons (pe_ix (r := rIxL K) ix_list (pv 0) pe_int (fun _ _ => rfl)) (pa_cons (pv 1) pa_nil))) (pe_one (pe_call (ok_law_fits T) (hr.mono (by decide)) (by rfl) T.g_law_fits T.F_law_fits.kp (bn_law_fits T) .nil pass0 (pa_cons (pe_ix (r := rIxL K) ix_list (pv 0) pe_int (fun _ _ => rfl)) (pa_cons (pv 1) pa_nil)))))))))), ?_⟩
    have S : Sx P0 F0 H0 F0 H0 := Sx.refl0 hE
    unfold m_law_bears at hm
    refine rd_seq ?_
    refine rd_ifS ?_
    refine rd_test ?_
    refine rd_op ?_
    refine rd_op ?_
    refine rd_v rfl ?_
    refine rd_c ?_
    refine rd_xLr (i := 0) S f__law_tree_here ra0 (fun _ _ _ _ r => by obtain ⟨u0, s_u0, rfl, _, u1, s_u1, rfl, _, u2, rfl, _⟩ := r; exact Nat.le_of_ble_eq_true rfl) (fun u1 f2 => ?_)
    cases (show u1 = (V.str ((a__law_tree_here).1)) from f2)
    refine rd_c ?_
    refine rd_S0 ?_
    refine rd_b ?_
    refine if_b hm (fun b3 hm => ?_) (fun b3 hm => ?_)
    · skip
      refine rd_ret ?_
      refine rd_call ?_
      refine rd_cons ?_
      refine rd_op ?_
      refine rd_v rfl ?_
      refine rd_c ?_
      refine rd_xLr (i := 1) S f__law_tree_here (raS ra0) (fun _ _ _ _ r => by obtain ⟨u0, s_u0, rfl, _, u1, s_u1, rfl, _, u2, rfl, _⟩ := r; exact Nat.le_of_ble_eq_true rfl) (fun u4 f5 => ?_)
      have f5 : (qL qS).r K F0 u4 (a__law_tree_here).2.1 := f5
      obtain ⟨t6, e7, hm⟩ := bd_some hm
      refine rd_cons ?_
      refine rd_v rfl ?_
      refine rd_nil ?_
      refine ⟨F0, _, _, _, t6, rfl, S.sub, f5, e7, fun v11 F8 H9 c10 f12 => ?_⟩
      have S13 := S.call0 c10
      have f__law_tree_here := (qLr (fc qS (fc (qL qS) (f1 (qL qS))))).mono c10.le f__law_tree_here
      cases (show v11 = (V.bl (t6)) from f12)
      cases hm
      exact hQ _ _ _ S13 rfl
    · skip
      refine rd_next ?_
      refine rd_seq ?_
      refine rd_ifS ?_
      refine rd_test ?_
      refine rd_op ?_
      refine rd_op ?_
      refine rd_v rfl ?_
      refine rd_c ?_
      refine rd_xLr (i := 0) S f__law_tree_here ra0 (fun _ _ _ _ r => by obtain ⟨u0, s_u0, rfl, _, u1, s_u1, rfl, _, u2, rfl, _⟩ := r; exact Nat.le_of_ble_eq_true rfl) (fun u14 f15 => ?_)
      cases (show u14 = (V.str ((a__law_tree_here).1)) from f15)
      refine rd_c ?_
      refine rd_S0 ?_
      refine rd_b ?_
      refine if_b hm (fun b16 hm => ?_) (fun b16 hm => ?_)
      · skip
        refine rd_ret ?_
        refine rd_andV ?_
        refine rd_call ?_
        refine rd_cons ?_
        refine rd_op ?_
        refine rd_v rfl ?_
        refine rd_c ?_
        refine rd_xLr (i := 1) S f__law_tree_here (raS ra0) (fun _ _ _ _ r => by obtain ⟨u0, s_u0, rfl, _, u1, s_u1, rfl, _, u2, rfl, _⟩ := r; exact Nat.le_of_ble_eq_true rfl) (fun u17 f18 => ?_)
        have f18 : (qL qS).r K F0 u17 (a__law_tree_here).2.1 := f18
        obtain ⟨t19, e20, hm⟩ := bd_some hm
        refine rd_cons ?_
        refine rd_v rfl ?_
        refine rd_nil ?_
        refine ⟨F0, _, _, _, t19, rfl, S.sub, f18, e20, fun v24 F21 H22 c23 f25 => ?_⟩
        have S26 := S.call0 c23
        have f__law_tree_here := (qLr (fc qS (fc (qL qS) (f1 (qL qS))))).mono c23.le f__law_tree_here
        cases (show v24 = (V.bl (t19)) from f25)
        obtain ⟨t37, e38, hm⟩ := bd_some hm
        refine rd_b ?_
        refine andV_j (fun c H' => c = V.bl t37 ∧ ∃ F', Sx P0 F21 H22 F' H') ?_ ?_ ?_
        · intro b39 Q40 q41
          have e38 := if_t e38 b39
          have S42 := Sx.refl0 S26.sub
          refine rd_call ?_
          refine rd_cons ?_
          refine rd_op ?_
          refine rd_v rfl ?_
          refine rd_c ?_
          refine rd_xLr (i := 2) S42 f__law_tree_here (raS (raS ra1)) (fun _ _ _ _ r => by obtain ⟨u0, s_u0, rfl, _, u1, s_u1, rfl, _, u2, rfl, _⟩ := r; exact Nat.le_of_ble_eq_true rfl) (fun u43 f44 => ?_)
          have f44 : (qL qS).r K F21 u43 (a__law_tree_here).2.2 := f44
          obtain ⟨t45, e46, e38⟩ := bd_some e38
          refine rd_cons ?_
          refine rd_v rfl ?_
          refine rd_nil ?_
          refine ⟨F21, _, _, _, t45, rfl, S42.sub, f44, e46, fun v50 F47 H48 c49 f51 => ?_⟩
          have S52 := S42.call0 c49
          have f__law_tree_here := (qLr (fc qS (fc (qL qS) (f1 (qL qS))))).mono c49.le f__law_tree_here
          cases (show v50 = (V.bl (t45)) from f51)
          cases e38
          exact q41 _ _ ⟨rfl, F47, S52⟩
        · intro b39
          have e38 := if_f e38 b39
          cases e38
          have S53 := Sx.refl0 S26.sub
          exact ⟨rfl, F21, S53⟩
        rintro b57 H55 ⟨rfl, F54, c56⟩
        have S58 := S26.call0 c56
        have f__law_tree_here := (qLr (fc qS (fc (qL qS) (f1 (qL qS))))).mono c56.le f__law_tree_here
        cases hm
        exact hQ _ _ _ S58 rfl
      · skip
        refine rd_next ?_
        refine rd_ret ?_
        refine rd_orV ?_
        refine rd_call ?_
        refine rd_cons ?_
        refine rd_op ?_
        refine rd_v rfl ?_
        refine rd_c ?_
        refine rd_xLr (i := 1) S f__law_tree_here (raS ra0) (fun _ _ _ _ r => by obtain ⟨u0, s_u0, rfl, _, u1, s_u1, rfl, _, u2, rfl, _⟩ := r; exact Nat.le_of_ble_eq_true rfl) (fun u59 f60 => ?_)
        have f60 : (qL qS).r K F0 u59 (a__law_tree_here).2.1 := f60
        obtain ⟨t61, e62, hm⟩ := bd_some hm
        refine rd_cons ?_
        refine rd_v rfl ?_
        refine rd_nil ?_
        refine ⟨F0, _, _, _, t61, rfl, S.sub, f60, e62, fun v66 F63 H64 c65 f67 => ?_⟩
        have S68 := S.call0 c65
        have f__law_tree_here := (qLr (fc qS (fc (qL qS) (f1 (qL qS))))).mono c65.le f__law_tree_here
        cases (show v66 = (V.bl (t61)) from f67)
        obtain ⟨t79, e80, hm⟩ := bd_some hm
        refine rd_b ?_
        refine orV_j (fun c H' => c = V.bl t79 ∧ ∃ F', Sx P0 F63 H64 F' H') ?_ ?_ ?_
        · intro b81 Q82 q83
          have e80 := if_f e80 b81
          have S84 := Sx.refl0 S68.sub
          refine rd_call ?_
          refine rd_cons ?_
          refine rd_op ?_
          refine rd_v rfl ?_
          refine rd_c ?_
          refine rd_xLr (i := 2) S84 f__law_tree_here (raS (raS ra1)) (fun _ _ _ _ r => by obtain ⟨u0, s_u0, rfl, _, u1, s_u1, rfl, _, u2, rfl, _⟩ := r; exact Nat.le_of_ble_eq_true rfl) (fun u85 f86 => ?_)
          have f86 : (qL qS).r K F63 u85 (a__law_tree_here).2.2 := f86
          obtain ⟨t87, e88, e80⟩ := bd_some e80
          refine rd_cons ?_
          refine rd_v rfl ?_
          refine rd_nil ?_
          refine ⟨F63, _, _, _, t87, rfl, S84.sub, f86, e88, fun v92 F89 H90 c91 f93 => ?_⟩
          have S94 := S84.call0 c91
          have f__law_tree_here := (qLr (fc qS (fc (qL qS) (f1 (qL qS))))).mono c91.le f__law_tree_here
          cases (show v92 = (V.bl (t87)) from f93)
          cases e80
          exact q83 _ _ ⟨rfl, F89, S94⟩
        · intro b81
          have e80 := if_t e80 b81
          cases e80
          have S95 := Sx.refl0 S68.sub
          exact ⟨rfl, F63, S95⟩
        rintro b99 H97 ⟨rfl, F96, c98⟩
        have S100 := S68.call0 c98
        have f__law_tree_here := (qLr (fc qS (fc (qL qS) (f1 (qL qS))))).mono c98.le f__law_tree_here
        cases hm
        exact hQ _ _ _ S100 rfl
def sp_law_marked (K : PySem.W.Frag) : Sp := fun vs H Q _ => ∃ (F : Hp) (v__law_trees : V) (a__law_trees : (List (Str × (List Str) × (List Str)))) (a__law_line_here : Str) (r : Bool), vs = [v__law_trees, (V.str (a__law_line_here))] ∧ Same F H ∧ (qL (qLr (fc qS (fc (qL qS) (f1 (qL qS)))))).r K F v__law_trees a__law_trees ∧ m_law_marked a__law_trees a__law_line_here = some r ∧ ∀ v F' H', Sx P0 F H F' H' → qB.r K F' v r → Q v H'
theorem sc_law_marked : FnScope ["_law_trees", "_law_line_here", "_law_tree_here"] ["_law_trees", "_law_line_here"] (defScope s_law_marked) := ⟨rfl, rfl, rfl, by decide +kernel, rfl, by decide +kernel, by decide +kernel⟩
theorem bn_law_marked (T : Tx K mg) : Binds K (fdOf K ("_law_marked", none)) ["_law_trees", "_law_line_here"] [] := FunD.bindsN T.F_law_marked fun _ _ _ _ _ _ us hl => match us, hl with | [_, _], _ => rfl
theorem ok_law_marked (T : Tx K mg) : FnOk P w K mg base CX0 4 (He.ga K "_law_marked") (fdOf K ("_law_marked", none)) ["_law_trees", "_law_line_here"] (sp_law_marked K) := by
  refine FunD.ok T.F_law_marked sc_law_marked (fun vs H0 Q E h => ?_) (fun cdv A outer s H0 vs Q E hr h => ?_)
  · obtain ⟨_, _, _, _, _, rfl, _⟩ := h
    rfl
  · obtain ⟨F0, v__law_trees, a__law_trees, a__law_line_here, r, rfl, hE, f__law_trees, hm, hQ⟩ := h
    refine ⟨_, PSs.nox ((pss_one (ps_ret (pe_cmpR (r := rNeD K) (op_neD hr.units) (pe_lc (own := [("_law_tree_here", 2)]) rfl sc_law_marked.nd (pi_listK (pv 0)) (blkOk_by (N := ["_law_trees", "_law_line_here", "_law_tree_here"]) (sc := defScope s_law_marked) (by decide +kernel)) (fun _ _ _ _ _ => pg_name (i := 2) sc_law_marked.nd rfl (Or.inl rfl)) (fun _ _ _ _ _ => (pts_one (pt_val (pe_call (ok_law_bears T) (hr.mono (by decide)) (by rfl) T.g_law_bears T.F_law_bears.kp (bn_law_bears T) .nil pass0 (pa_cons (pv 2) (pa_cons (pv 1) pa_nil)))))) (fun _ _ _ _ _ => (pv 2))) (pe_lst pa_nil) (nomark _))))), ?_⟩
    have S : Sx P0 F0 H0 F0 H0 := Sx.refl0 hE
    unfold m_law_marked at hm
    refine rd_ret ?_
    refine rd_op ?_
    refine rd_lc ?_
    refine rd_iL ?_
    refine rd_v rfl ?_
    refine rd_wLF S (f__law_trees) (fun p1 vs2 hq3 row4 => ?_)
    obtain ⟨g5, hm⟩ := gd_some hm
    obtain ⟨t6, e7, hm⟩ := bd_some hm
    refine rd_comp (B := (qLr (fc qS (fc (qL qS) (f1 (qL qS)))))) feedsL (typedRow row4) e7 g5 (Pc := P0) (fun _ z => z.elim) S.sub (fun (s8 : Unit) F H => True) ?_ ?_ ?_ ?_ ?_ ?_
    · intro _ _ _ S9 _
      exact (Same.seq S9.sub (Same.seq S9.le hq3))
    · trivial
    · intros; trivial
    · intros; trivial
    · skip
      intro x10 v11 s12 o13 F14 H15 d16 acc17 f18 S19 w20 w21 n22 hm23 E24 N25 hN26 hE27
      have f__law_trees := (qL (qLr (fc qS (fc (qL qS) (f1 (qL qS)))))).mono S19.le f__law_trees
      have S28 := Sx.refl0 S19.sub
      unfold m_law_marked_b1 at hm23
      have f18 := (qLr (fc qS (fc (qL qS) (f1 (qL qS))))).mono S19.le f18
      obtain ⟨t29, e30, hm23⟩ := bd_some hm23
      refine rd_gn ?_
      refine rd_wp rfl ?_
      refine rd_tB ?_
      refine rd_call ?_
      refine rd_cons ?_
      refine rd_v rfl ?_
      refine rd_cons ?_
      refine rd_v rfl ?_
      refine rd_nil ?_
      refine ⟨F14, _, _, _, t29, rfl, S28.sub, f18, e30, fun v34 F31 H32 c33 f35 => ?_⟩
      have S36 := S28.call0 c33
      have f__law_trees := (qL (qLr (fc qS (fc (qL qS) (f1 (qL qS)))))).mono c33.le f__law_trees
      have f18 := (qLr (fc qS (fc (qL qS) (f1 (qL qS))))).mono c33.le f18
      cases (show v34 = (V.bl (t29)) from f35)
      refine rd_b ?_
      refine if_b hm23 (fun b37 hm23 => ?_) (fun b37 hm23 => ?_)
      · skip
        cases hm23
        refine rd_v rfl ?_
        exact hN26 _ _ _ _ rfl S36 f18 trivial
      · skip
        cases hm23
        exact hE27 _ _ rfl S36 trivial
    intro p38 us39 F40 H41 n42 c43 w44 w45 r46
    have z47 := S.free0 n42
    have S48 := S.call0 c43
    have f__law_trees := (qL (qLr (fc qS (fc (qL qS) (f1 (qL qS)))))).mono c43.le f__law_trees
    have w49 : Ow P0 H0 _ _ _ _ := ⟨w45.fr, w45.at_, .inl z47⟩
    obtain ⟨F50, S51, le52, f53, _, eq54⟩ := fz S48 w49 z47 r46
    have f__law_trees := (qL (qLr (fc qS (fc (qL qS) (f1 (qL qS)))))).mono le52 f__law_trees
    refine rd_lst ?_
    refine rd_nil ?_
    refine rd_lK rfl ?_
    refine alL (K := K) (A := (qLr (fc qS (fc (qL qS) (f1 (qL qS)))))) (xs := ([] : List (Str × (List Str) × (List Str)))) S51 .nil (fun v55 F56 H57 c58 f59 => ?_)
    have S60 := S51.call0 c58
    have f__law_trees := (qL (qLr (fc qS (fc (qL qS) (f1 (qL qS)))))).mono c58.le f__law_trees
    have f53 := (qL (qLr (fc qS (fc (qL qS) (f1 (qL qS)))))).mono c58.le f53
    obtain ⟨g61, hm⟩ := gd_some hm
    obtain ⟨g62, hm⟩ := gd_some hm
    cases hm
    refine rd_neD (D := (dL (dLr (ec dS (ec (dL dS) (e1 (dL dS))))))) (S60.d (dL (dLr (ec dS (ec (dL dS) (e1 (dL dS)))))) f53) (S60.d (dL (dLr (ec dS (ec (dL dS) (e1 (dL dS)))))) f59) g61 g62 ?_
    exact hQ _ _ _ S60 rfl
def sp_law_fed (K : PySem.W.Frag) : Sp := fun vs H Q _ => ∃ (F : Hp) (v__law_rule_here : V) (a__law_rule_here : ((List (Str × (List Str) × (List Str))) × (List (Str × (List Str) × (List Str))) × (Option Int) × Bool × (Option Int) × Bool)) (p__law_held : Addr) (vs__law_held : List V) (a__law_held : (List ((Option Int) × (List Str)))) (a__law_line_here : Str) (v__law_tag : V) (a__law_tag : (Option Int)) (a__law_thing : Str) (r : ((List ((Option Int) × (List Str))) × (List ((Option Int) × (List Str))))), vs = [v__law_rule_here, .ref p__law_held, (V.str (a__law_line_here)), v__law_tag, (V.str (a__law_thing))] ∧ Same F H ∧ (qLr (fc (qL (qLr (fc qS (fc (qL qS) (f1 (qL qS)))))) (fc (qL (qLr (fc qS (fc (qL qS) (f1 (qL qS)))))) (fc (qO qI) (fc qB (fc (qO qI) (f1 qB))))))).r K F v__law_rule_here a__law_rule_here ∧ Ow (fun a => a = p__law_held) H F H p__law_held (.lst vs__law_held) ∧ Row (q2 (qO qI) (qL qS)) K F vs__law_held a__law_held ∧ (qO qI).r K F v__law_tag a__law_tag ∧ m_law_fed a__law_rule_here a__law_held a__law_line_here a__law_tag a__law_thing = some r ∧ ∀ (v : V) (F' H' : Hp) (vs' : List V), Sx (fun a => a = p__law_held) F H F' H' → Ow (fun a => a = p__law_held) H F' H' p__law_held (.lst vs') → Row (q2 (qO qI) (qL qS)) K F' vs' r.2 → (qL (q2 (qO qI) (qL qS))).r K F' v r.1 → Q v H'
theorem sc_law_fed : FnScope ["_law_rule_here", "_law_held", "_law_line_here", "_law_tag", "_law_thing", "_law_begins", "_law_given", "_law_own", "_law_row_here"] ["_law_rule_here", "_law_held", "_law_line_here", "_law_tag", "_law_thing"] (defScope s_law_fed) := ⟨rfl, rfl, rfl, by decide +kernel, rfl, by decide +kernel, by decide +kernel⟩
theorem bn_law_fed (T : Tx K mg) : Binds K (fdOf K ("_law_fed", none)) ["_law_rule_here", "_law_held", "_law_line_here", "_law_tag", "_law_thing"] [] := FunD.bindsN T.F_law_fed fun _ _ _ _ _ _ us hl => match us, hl with | [_, _, _, _, _], _ => rfl
theorem ok_law_fed (T : Tx K mg) : FnOk P w K mg base CX0 5 (He.ga K "_law_fed") (fdOf K ("_law_fed", none)) ["_law_rule_here", "_law_held", "_law_line_here", "_law_tag", "_law_thing"] (sp_law_fed K) := by
  refine FunD.ok T.F_law_fed sc_law_fed (fun vs H0 Q E h => ?_) (fun cdv A outer s H0 vs Q E hr h => ?_)
  · obtain ⟨_, _, _, _, _, _, _, _, _, _, _, rfl, _⟩ := h
    rfl
  · obtain ⟨F0, v__law_rule_here, a__law_rule_here, p__law_held, vs__law_held, a__law_held, a__law_line_here, v__law_tag, a__law_tag, a__law_thing, r, rfl, hE, f__law_rule_here, w__law_held, r__law_held, f__law_tag, hm, hQ⟩ := h
    refine ⟨_, PSs.nox ((C8.pss_cut (ps_if (pt_cmpR op_isN' (pe_ix (r := rIxL K) ix_list (pv 0) pe_int (fun _ _ => rfl)) pe_non (nomark _)) (pss_one (ps_set (i := 3) sc_law_fed.nd rfl (by first | exact Or.inl rfl | exact Or.inr rfl) pe_non)) pss_nil) (pss_cons (ps_set (i := 5) sc_law_fed.nd rfl (by first | exact Or.inl rfl | exact Or.inr rfl) (pe_call (ok_law_marked T) (hr.mono (by decide)) (by rfl) T.g_law_marked T.F_law_marked.kp (bn_law_marked T) .nil pass0 (pa_cons (pe_ix (r := rIxL K) ix_list (pv 0) pe_int (fun _ _ => rfl)) (pa_cons (pv 2) pa_nil)))) (pss_cons (ps_set (i := 6) sc_law_fed.nd rfl (by first | exact Or.inl rfl | exact Or.inr rfl) (pe_lst pa_nil)) (pss_cons (ps_setLc (i := 7) (own := [("_law_row_here", 8)]) rfl sc_law_fed.nd rfl rfl (sw_true rfl rfl rfl (by decide +kernel)) (pi_listK (pv 1)) (blkOk_by (N := ["_law_rule_here", "_law_held", "_law_line_here", "_law_tag", "_law_thing", "_law_begins", "_law_given", "_law_own", "_law_row_here"]) (sc := defScope s_law_fed) (by decide +kernel)) (fun _ _ _ _ _ => pg_name (i := 8) sc_law_fed.nd rfl (Or.inl rfl)) (fun _ _ _ _ _ => (pts_one (pt_cmpR (r := rEqD K) (op_eqD hr.units) (pe_ix (r := rIxT K) ix_tup (pv 8) pe_int (fun _ _ => rfl)) (pv 3) (nomark _)))) (fun _ _ _ _ _ => (pv 8))) (C8.pss_cut (ps_if (PW.pt (pw_and (pt_cmpR (r := rNeD K) (op_neD hr.units) (pv 7) (pe_lst pa_nil) (nomark _)) (pw_and1 (pt_val (pv 5))))) (pss_cons (ps_expr (pe_bmK (K := K) PySem.F.plainAttrs_list PySem.F.slot_list_append PySem.F.type_list_append mt_append (pv 6) (pa_cons (pe_ix (r := rIxL K) ix_list (pv 7) pe_int (fun _ _ => rfl)) pa_nil))) (pss_cons (ps_expr (pe_bmK (K := K) PySem.F.plainAttrs_list PySem.F.slot_list_remove PySem.F.type_list_remove (mt_removeDK (u65 hr)) (pv 1) (pa_cons (pe_ix (r := rIxL K) ix_list (pv 7) pe_int (fun _ _ => rfl)) pa_nil))) (pss_one (ps_set (i := 7) sc_law_fed.nd rfl (by first | exact Or.inl rfl | exact Or.inr rfl) (pe_lst pa_nil))))) pss_nil) (pss_cons (ps_if (pt_cmpR (r := rEqD K) (op_eqD hr.units) (pv 7) (pe_lst pa_nil) (nomark _)) (pss_cons (ps_if (PW.pt (pw_and (pt_not (pt_val (pv 5))) (pw_and1 (pt_not (pt_val (pe_ix (r := rIxL K) ix_list (pv 0) pe_int (fun _ _ => rfl))))))) (pss_one (ps_ret (pv 6))) pss_nil) (C8.pss_cut (ps_if (PW.pt (pw_and (pt_cmpR op_notN' (pe_ix (r := rIxL K) ix_list (pv 0) pe_int (fun _ _ => rfl)) pe_non (nomark _)) (pw_and1 (pt_chain op_lt op_le pe_int (pe_ix (r := rIxL K) ix_list (pv 0) pe_int (fun _ _ => rfl)) (pe_callB (r := rLenQ K) cr_lenQ (by rfl) T.n_len (by decide +kernel) (pa_cons (pv 1) pa_nil)))))) (pss_one (ps_expr (pe_bmK (K := K) PySem.F.plainAttrs_list PySem.F.slot_list_append PySem.F.type_list_append mt_append (pv 6) (pa_cons (pe_bmK (K := K) PySem.F.plainAttrs_list PySem.F.slot_list_pop PySem.F.type_list_pop mt_popAt (pv 1) (pa_cons pe_int pa_nil)) pa_nil)))) pss_nil) (pss_one (ps_set (i := 8) sc_law_fed.nd rfl (by first | exact Or.inl rfl | exact Or.inr rfl) (pe_tup (pa_cons (pv 3) (pa_cons (pe_lst (pa_cons (pv 4) pa_nil)) pa_nil))))))) (pss_cons (ps_expr (pe_bmK (K := K) PySem.F.plainAttrs_list PySem.F.slot_list_remove PySem.F.type_list_remove (mt_removeDK (u65 hr)) (pv 1) (pa_cons (pe_ix (r := rIxL K) ix_list (pv 7) pe_int (fun _ _ => rfl)) pa_nil))) (pss_one (ps_set (i := 8) sc_law_fed.nd rfl (by first | exact Or.inl rfl | exact Or.inr rfl) (pe_tup (pa_cons (pv 3) (pa_cons (pe_op op_cat (pe_ix (r := rIxT K) ix_tup (pe_ix (r := rIxL K) ix_list (pv 7) pe_int (fun _ _ => rfl)) pe_int (fun _ _ => rfl)) (pe_lst (pa_cons (pv 4) pa_nil))) pa_nil))))))) (C8.pss_cut (ps_if (PW.pt (pw_or (pt_val (pe_call (ok_law_marked T) (hr.mono (by decide)) (by rfl) T.g_law_marked T.F_law_marked.kp (bn_law_marked T) .nil pass0 (pa_cons (pe_ix (r := rIxL K) ix_list (pv 0) pe_int (fun _ _ => rfl)) (pa_cons (pv 2) pa_nil)))) (pw_or1 (pt_cmpR (r := rEqD K) (op_eqD hr.units) (pe_callB (r := rLenQ K) cr_lenQ (by rfl) T.n_len (by decide +kernel) (pa_cons (pe_ix (r := rIxT K) ix_tup (pv 8) pe_int (fun _ _ => rfl)) pa_nil)) (pe_ix (r := rIxL K) ix_list (pv 0) pe_int (fun _ _ => rfl)) (nomark _))))) (pss_one (ps_expr (pe_bmK (K := K) PySem.F.plainAttrs_list PySem.F.slot_list_append PySem.F.type_list_append mt_append (pv 6) (pa_cons (pv 8) pa_nil)))) (pss_one (ps_expr (pe_bmK (K := K) PySem.F.plainAttrs_list PySem.F.slot_list_append PySem.F.type_list_append mt_append (pv 1) (pa_cons (pv 8) pa_nil))))) (pss_one (ps_ret (pv 6))))))))))), ?_⟩
    have S : Sx (fun a => a = p__law_held) F0 H0 F0 H0 := Sx.refl hE (live1 w__law_held)
    unfold m_law_fed at hm
    obtain ⟨t1, e2, hm⟩ := bd_some hm
    refine rd_cut (fun σ' H' => ∃ (F : Hp) (x0 : V) (o5 : Option V) (o6 : Option V) (o7 : Option V) (o8 : Option V), σ' = [some v__law_rule_here, some (V.ref p__law_held), some (V.str (a__law_line_here)), some x0, some (V.str (a__law_thing)), o5, o6, o7, o8] ∧ Sx P0 F0 H0 F H' ∧ (qO qI).r K F x0 t1) ?_ ?_
    · skip
      have S3 := Sx.refl0 S.sub
      refine rd_ifS ?_
      refine rd_test ?_
      refine rd_op ?_
      refine rd_op ?_
      refine rd_v rfl ?_
      refine rd_c ?_
      refine rd_xLr (i := 4) S3 f__law_rule_here (raS (raS (raS (raS ra0)))) (fun _ _ _ _ r => by obtain ⟨u0, s_u0, rfl, _, u1, s_u1, rfl, _, u2, s_u2, rfl, _, u3, s_u3, rfl, _, u4, s_u4, rfl, _, u5, rfl, _⟩ := r; exact Nat.le_of_ble_eq_true rfl) (fun u4 f5 => ?_)
      have f5 : (qO qI).r K F0 u4 (a__law_rule_here).2.2.2.2.1 := f5
      refine rd_c ?_
      refine rd_isN (A := qI) f5 ?_
      refine rd_b ?_
      refine if_b e2 (fun b6 e2 => ?_) (fun b6 e2 => ?_)
      · skip
        have f7 : (qO qI).r K F0 V.non none := (show (qO qI).r K F0 V.non none from rfl)
        cases e2
        refine rd_asg ?_
        refine rd_c ?_
        refine rd_gn ?_
        exact ⟨F0, _, _, _, _, _, rfl, S3, f7⟩
      · skip
        cases e2
        refine rd_next ?_
        exact ⟨F0, _, _, _, _, _, rfl, S3, f__law_tag⟩
    · skip
      rintro σ9 H8 ⟨F10, x12, o13, o14, o15, o16, rfl, S11, f17⟩
      have S18 := S.call0 S11
      have f__law_rule_here := (qLr (fc (qL (qLr (fc qS (fc (qL qS) (f1 (qL qS)))))) (fc (qL (qLr (fc qS (fc (qL qS) (f1 (qL qS)))))) (fc (qO qI) (fc qB (fc (qO qI) (f1 qB))))))).mono S11.le f__law_rule_here
      have r__law_held := Row.mono S11.le r__law_held
      have w__law_held := w__law_held.call0 S11
      refine rd_seq ?_
      refine rd_asg ?_
      refine rd_call ?_
      refine rd_cons ?_
      refine rd_op ?_
      refine rd_v rfl ?_
      refine rd_c ?_
      refine rd_xLr (i := 0) S18 f__law_rule_here ra0 (fun _ _ _ _ r => by obtain ⟨u0, s_u0, rfl, _, u1, s_u1, rfl, _, u2, s_u2, rfl, _, u3, s_u3, rfl, _, u4, s_u4, rfl, _, u5, rfl, _⟩ := r; exact Nat.le_of_ble_eq_true rfl) (fun u19 f20 => ?_)
      have f20 : (qL (qLr (fc qS (fc (qL qS) (f1 (qL qS)))))).r K F10 u19 (a__law_rule_here).1 := f20
      obtain ⟨t21, e22, hm⟩ := bd_some hm
      refine rd_cons ?_
      refine rd_v rfl ?_
      refine rd_nil ?_
      refine ⟨F10, _, _, _, t21, rfl, S18.sub, f20, e22, fun v26 F23 H24 c25 f27 => ?_⟩
      have S28 := S18.call0 c25
      have f__law_rule_here := (qLr (fc (qL (qLr (fc qS (fc (qL qS) (f1 (qL qS)))))) (fc (qL (qLr (fc qS (fc (qL qS) (f1 (qL qS)))))) (fc (qO qI) (fc qB (fc (qO qI) (f1 qB))))))).mono c25.le f__law_rule_here
      have f17 := (qO qI).mono c25.le f17
      have r__law_held := Row.mono c25.le r__law_held
      have w__law_held := w__law_held.call0 c25
      cases (show v26 = (V.bl (t21)) from f27)
      refine rd_gn ?_
      refine rd_seq ?_
      refine rd_asg ?_
      refine rd_lst ?_
      refine rd_nil ?_
      refine rd_lK rfl ?_
      refine al S28 (fun p29 H30 np31 c32 w33 => ?_)
      have r34 : Row (q2 (qO qI) (qL qS)) K F23 [] ([] : List ((Option Int) × (List Str))) := .nil
      have ne35 : p__law_held ≠ p29 := w__law_held.ne np31
      have z36 := S28.free0 np31
      have S37 := S28.call0 c32
      have f__law_rule_here := (qLr (fc (qL (qLr (fc qS (fc (qL qS) (f1 (qL qS)))))) (fc (qL (qLr (fc qS (fc (qL qS) (f1 (qL qS)))))) (fc (qO qI) (fc qB (fc (qO qI) (f1 qB))))))).mono c32.le f__law_rule_here
      have f17 := (qO qI).mono c32.le f17
      have r__law_held := Row.mono c32.le r__law_held
      have w__law_held := w__law_held.call0 c32
      refine rd_gn ?_
      refine rd_seq ?_
      refine rd_asg ?_
      refine rd_lc ?_
      refine rd_iL ?_
      refine rd_v rfl ?_
      refine rd_wLO w__law_held (fun hq38 => ?_)
      obtain ⟨g39, hm⟩ := gd_some hm
      obtain ⟨t40, e41, hm⟩ := bd_some hm
      refine rd_comp (B := (q2 (qO qI) (qL qS))) feedsL (typedRow r__law_held) e41 g39 (Pc := P0) (fun _ z => z.elim) S37.sub (fun (s42 : Unit) F H => True) ?_ ?_ ?_ ?_ ?_ ?_
      · intro _ _ _ S43 _
        exact (sx_lst S43 w__law_held)
      · trivial
      · intros; trivial
      · intros; trivial
      · skip
        intro x44 v45 s46 o47 F48 H49 d50 acc51 f52 S53 w54 w55 n56 hm57 E58 N59 hN60 hE61
        have f__law_rule_here := (qLr (fc (qL (qLr (fc qS (fc (qL qS) (f1 (qL qS)))))) (fc (qL (qLr (fc qS (fc (qL qS) (f1 (qL qS)))))) (fc (qO qI) (fc qB (fc (qO qI) (f1 qB))))))).mono S53.le f__law_rule_here
        have f17 := (qO qI).mono S53.le f17
        have r__law_held := Row.mono S53.le r__law_held
        have w__law_held := w__law_held.call0 S53
        have r34 := Row.mono S53.le r34
        have w33 := w33.call0 S53
        have S62 := Sx.refl0 S53.sub
        unfold m_law_fed_b1 at hm57
        have f52 := (q2 (qO qI) (qL qS)).mono S53.le f52
        refine rd_gn ?_
        refine rd_wp rfl ?_
        refine rd_test ?_
        refine rd_op ?_
        refine rd_op ?_
        refine rd_v rfl ?_
        refine rd_c ?_
        refine rd_x2 S62 f52 (fun u63 f64 => ?_)
        have f64 : (qO qI).r K F48 u63 (x44).1 := f64
        obtain ⟨g65, hm57⟩ := gd_some hm57
        obtain ⟨g66, hm57⟩ := gd_some hm57
        refine rd_v rfl ?_
        refine rd_eqD (D := (dO dI)) (S62.d (dO dI) f64) (S62.d (dO dI) f17) g65 g66 ?_
        refine rd_b ?_
        refine if_b hm57 (fun b67 hm57 => ?_) (fun b67 hm57 => ?_)
        · skip
          cases hm57
          refine rd_v rfl ?_
          exact hN60 _ _ _ _ rfl S62 f52 trivial
        · skip
          cases hm57
          exact hE61 _ _ rfl S62 trivial
      intro p68 us69 F70 H71 n72 c73 w74 w75 r76
      have z77 := S37.free0 n72
      have ne78 : p__law_held ≠ p68 := w__law_held.ne n72
      have ne79 : p29 ≠ p68 := w33.ne n72
      have S80 := S37.call0 c73
      have f__law_rule_here := (qLr (fc (qL (qLr (fc qS (fc (qL qS) (f1 (qL qS)))))) (fc (qL (qLr (fc qS (fc (qL qS) (f1 (qL qS)))))) (fc (qO qI) (fc qB (fc (qO qI) (f1 qB))))))).mono c73.le f__law_rule_here
      have f17 := (qO qI).mono c73.le f17
      have r__law_held := Row.mono c73.le r__law_held
      have w__law_held := w__law_held.call0 c73
      have r34 := Row.mono c73.le r34
      have w33 := w33.call0 c73
      have w81 : Ow (fun a => a = p__law_held) H0 _ _ _ _ := ⟨w75.fr, w75.at_, .inl z77⟩
      obtain ⟨F82, S83, le84, f85, _, eq86⟩ := fz S80 w81 z77 r76
      have f__law_rule_here := (qLr (fc (qL (qLr (fc qS (fc (qL qS) (f1 (qL qS)))))) (fc (qL (qLr (fc qS (fc (qL qS) (f1 (qL qS)))))) (fc (qO qI) (fc qB (fc (qO qI) (f1 qB))))))).mono le84 f__law_rule_here
      have f17 := (qO qI).mono le84 f17
      have r__law_held := Row.mono le84 r__law_held
      have w__law_held := w__law_held.fzO ne78 eq86
      have r34 := Row.mono le84 r34
      have w33 := w33.fzO ne79 eq86
      obtain ⟨t87, e88, hm⟩ := bd_some hm
      refine rd_gn ?_
      refine rd_cut (fun σ' H' => ∃ (F : Hp) (x2 : V) (o8 : Option V) (vs0 : List V) (vs1 : List V), σ' = [some v__law_rule_here, some (V.ref p__law_held), some (V.str (a__law_line_here)), some x12, some (V.str (a__law_thing)), some (V.bl (t21)), some (V.ref p29), some x2, o8] ∧ Sx (fun a => a = p__law_held ∨ a = p29) F82 H71 F H' ∧ (qL (q2 (qO qI) (qL qS))).r K F x2 t87.2.2 ∧ Ow (fun a => a = p__law_held ∨ a = p29) H71 F H' p__law_held (.lst vs0) ∧ Row (q2 (qO qI) (qL qS)) K F vs0 t87.1 ∧ Ow (fun a => a = p__law_held ∨ a = p29) H71 F H' p29 (.lst vs1) ∧ Row (q2 (qO qI) (qL qS)) K F vs1 t87.2.1) ?_ ?_
      · skip
        have S89 : Sx (fun a => a = p__law_held ∨ a = p29) _ _ _ _ := Sx.refl S83.sub (by
            rintro a (rfl | rfl)
            · rw [w__law_held.at_]; exact (fun h => nomatch h)
            · rw [w33.at_]; exact (fun h => nomatch h))
        have w90 : Ow (fun a => a = p__law_held ∨ a = p29) H71 _ _ _ _ := ⟨w__law_held.fr, w__law_held.at_, .inr (Or.inl rfl)⟩
        have w91 : Ow (fun a => a = p__law_held ∨ a = p29) H71 _ _ _ _ := ⟨w33.fr, w33.at_, .inr (Or.inr (rfl))⟩
        refine rd_ifS ?_
        refine rd_and ?_
        refine rd_test ?_
        refine rd_op ?_
        refine rd_v rfl ?_
        refine rd_lst ?_
        refine rd_nil ?_
        refine rd_lK rfl ?_
        refine alL (K := K) (A := (q2 (qO qI) (qL qS))) (xs := ([] : List ((Option Int) × (List Str)))) S89 .nil (fun v92 F93 H94 c95 f96 => ?_)
        have S97 := S89.call0 c95
        have f__law_rule_here := (qLr (fc (qL (qLr (fc qS (fc (qL qS) (f1 (qL qS)))))) (fc (qL (qLr (fc qS (fc (qL qS) (f1 (qL qS)))))) (fc (qO qI) (fc qB (fc (qO qI) (f1 qB))))))).mono c95.le f__law_rule_here
        have f17 := (qO qI).mono c95.le f17
        have f85 := (qL (q2 (qO qI) (qL qS))).mono c95.le f85
        have r__law_held := Row.mono c95.le r__law_held
        have w90 := w90.call0 c95
        have r34 := Row.mono c95.le r34
        have w91 := w91.call0 c95
        obtain ⟨g98, e88⟩ := gd_some e88
        obtain ⟨g99, e88⟩ := gd_some e88
        refine rd_neD (D := (dL (d2 (dO dI) (dL dS)))) (S97.d (dL (d2 (dO dI) (dL dS))) f85) (S97.d (dL (d2 (dO dI) (dL dS))) f96) g98 g99 ?_
        refine rd_b ?_
        refine and_p (by intro _ Q' q; refine rd_tB ?_; refine rd_v rfl ?_; refine rd_b ?_; exact q) ?_
        refine if_b e88 (fun b100 e88 => ?_) (fun b100 e88 => ?_)
        · skip
          obtain ⟨t101, e102, e88⟩ := bd_some e88
          refine rd_seq ?_
          refine rd_drop ?_
          refine rd_bm ?_
          refine rd_v rfl ?_
          refine rd_ty w91.ty ?_
          refine rd_cons ?_
          refine rd_op ?_
          refine rd_v rfl ?_
          refine rd_c ?_
          refine rd_ixL (S97.l f85).r e102 (fun u103 f104 => ?_)
          obtain ⟨g105, e88⟩ := gd_some e88
          refine rd_nil ?_
          refine ap S97 w91 r34 g105 (fun H106 c107 w108 => ?_)
          have r109 := r34.snoc (show (q2 (qO qI) (qL qS)).r K F93 _ t101 from f104)
          have S110 := S97.call1 c107 w91
          have f__law_rule_here := (qLr (fc (qL (qLr (fc qS (fc (qL qS) (f1 (qL qS)))))) (fc (qL (qLr (fc qS (fc (qL qS) (f1 (qL qS)))))) (fc (qO qI) (fc qB (fc (qO qI) (f1 qB))))))).mono c107.le f__law_rule_here
          have f17 := (qO qI).mono c107.le f17
          have f85 := (qL (q2 (qO qI) (qL qS))).mono c107.le f85
          have r__law_held := Row.mono c107.le r__law_held
          have w90 := w90.call c107 (by intro z; exact ne35 z)
          have r109 := Row.mono c107.le r109
          obtain ⟨t111, e112, e88⟩ := bd_some e88
          refine rd_seq ?_
          refine rd_drop ?_
          refine rd_bm ?_
          refine rd_v rfl ?_
          refine rd_ty w90.ty ?_
          refine rd_cons ?_
          refine rd_op ?_
          refine rd_v rfl ?_
          refine rd_c ?_
          refine rd_ixL (S110.l f85).r e112 (fun u113 f114 => ?_)
          obtain ⟨g115, e88⟩ := gd_some e88
          obtain ⟨g116, e88⟩ := gd_some e88
          obtain ⟨t117, e118, e88⟩ := bd_some e88
          refine rd_nil ?_
          refine rd_removeD (D := (d2 (dO dI) (dL dS))) S110 w90 r__law_held (S110.d (d2 (dO dI) (dL dS)) f114) g115 g116 e118 (fun H119 us120 c121 w122 r123 => ?_)
          have S124 := S110.call1 c121 w90
          have f__law_rule_here := (qLr (fc (qL (qLr (fc qS (fc (qL qS) (f1 (qL qS)))))) (fc (qL (qLr (fc qS (fc (qL qS) (f1 (qL qS)))))) (fc (qO qI) (fc qB (fc (qO qI) (f1 qB))))))).mono c121.le f__law_rule_here
          have f17 := (qO qI).mono c121.le f17
          have f85 := (qL (q2 (qO qI) (qL qS))).mono c121.le f85
          have r123 := Row.mono c121.le r123
          have r109 := Row.mono c121.le r109
          have w108 := w108.call c121 (by intro z; exact (Ne.symm ne35) z)
          refine rd_asg ?_
          refine rd_lst ?_
          refine rd_nil ?_
          refine rd_lK rfl ?_
          refine alL (K := K) (A := (q2 (qO qI) (qL qS))) (xs := ([] : List ((Option Int) × (List Str)))) S124 .nil (fun v125 F126 H127 c128 f129 => ?_)
          have S130 := S124.call0 c128
          have f__law_rule_here := (qLr (fc (qL (qLr (fc qS (fc (qL qS) (f1 (qL qS)))))) (fc (qL (qLr (fc qS (fc (qL qS) (f1 (qL qS)))))) (fc (qO qI) (fc qB (fc (qO qI) (f1 qB))))))).mono c128.le f__law_rule_here
          have f17 := (qO qI).mono c128.le f17
          have f85 := (qL (q2 (qO qI) (qL qS))).mono c128.le f85
          have r123 := Row.mono c128.le r123
          have w122 := w122.call0 c128
          have r109 := Row.mono c128.le r109
          have w108 := w108.call0 c128
          cases e88
          refine rd_gn ?_
          exact ⟨F126, _, _, _, _, rfl, S130, f129, w122, r123, w108, r109⟩
        · skip
          cases e88
          refine rd_next ?_
          exact ⟨F93, _, _, _, _, rfl, S97, f85, w90, r__law_held, w91, r34⟩
      · skip
        rintro σ132 H131 ⟨F133, x135, o136, v137, v138, rfl, S134, f139, w140, r141, w142, r143⟩
        have S144 := S83.call S134 (by
            rintro a (rfl | rfl)
            · exact w__law_held.mine.symm
            · exact w33.mine.symm)
        have f__law_rule_here := (qLr (fc (qL (qLr (fc qS (fc (qL qS) (f1 (qL qS)))))) (fc (qL (qLr (fc qS (fc (qL qS) (f1 (qL qS)))))) (fc (qO qI) (fc qB (fc (qO qI) (f1 qB))))))).mono S134.le f__law_rule_here
        have f17 := (qO qI).mono S134.le f17
        have w145 : Ow (fun a => a = p__law_held) H0 _ _ _ _ := ⟨w140.fr, w140.at_, w__law_held.mine⟩
        have w146 : Ow (fun a => a = p__law_held) H0 _ _ _ _ := ⟨w142.fr, w142.at_, w33.mine⟩
        refine rd_seq ?_
        refine rd_ifS ?_
        refine rd_test ?_
        refine rd_op ?_
        refine rd_v rfl ?_
        refine rd_lst ?_
        refine rd_nil ?_
        refine rd_lK rfl ?_
        refine alL (K := K) (A := (q2 (qO qI) (qL qS))) (xs := ([] : List ((Option Int) × (List Str)))) S144 .nil (fun v147 F148 H149 c150 f151 => ?_)
        have S152 := S144.call0 c150
        have f__law_rule_here := (qLr (fc (qL (qLr (fc qS (fc (qL qS) (f1 (qL qS)))))) (fc (qL (qLr (fc qS (fc (qL qS) (f1 (qL qS)))))) (fc (qO qI) (fc qB (fc (qO qI) (f1 qB))))))).mono c150.le f__law_rule_here
        have f17 := (qO qI).mono c150.le f17
        have f139 := (qL (q2 (qO qI) (qL qS))).mono c150.le f139
        have r141 := Row.mono c150.le r141
        have w145 := w145.call0 c150
        have r143 := Row.mono c150.le r143
        have w146 := w146.call0 c150
        obtain ⟨g153, hm⟩ := gd_some hm
        obtain ⟨g154, hm⟩ := gd_some hm
        refine rd_eqD (D := (dL (d2 (dO dI) (dL dS)))) (S152.d (dL (d2 (dO dI) (dL dS))) f139) (S152.d (dL (d2 (dO dI) (dL dS))) f151) g153 g154 ?_
        refine rd_b ?_
        refine if_b hm (fun b155 hm => ?_) (fun b155 hm => ?_)
        · skip
          obtain ⟨t158, e159, hm⟩ := bd_some hm
          refine rd_seq ?_
          refine rd_ifS ?_
          refine rd_and ?_
          refine rd_not ?_
          refine rd_tB ?_
          refine rd_v rfl ?_
          refine rd_b ?_
          refine and_j (fun c H' => c = t158 ∧ ∃ F', Sx P0 F148 H149 F' H') ?_ ?_ ?_
          · intro b160 Q161 q162
            have e159 := if_t e159 b160
            have S163 := Sx.refl0 S152.sub
            refine rd_not ?_
            refine rd_tB ?_
            refine rd_op ?_
            refine rd_v rfl ?_
            refine rd_c ?_
            refine rd_xLr (i := 3) S163 f__law_rule_here (raS (raS (raS ra0))) (fun _ _ _ _ r => by obtain ⟨u0, s_u0, rfl, _, u1, s_u1, rfl, _, u2, s_u2, rfl, _, u3, s_u3, rfl, _, u4, s_u4, rfl, _, u5, rfl, _⟩ := r; exact Nat.le_of_ble_eq_true rfl) (fun u164 f165 => ?_)
            cases (show u164 = (V.bl ((a__law_rule_here).2.2.2.1)) from f165)
            cases e159
            refine rd_b ?_
            exact q162 _ _ ⟨rfl, F148, S163⟩
          · intro b160
            have e159 := if_f e159 b160
            cases e159
            have S166 := Sx.refl0 S152.sub
            exact ⟨rfl, F148, S166⟩
          rintro b170 H168 ⟨rfl, F167, c169⟩
          have S171 := S152.call0 c169
          have f__law_rule_here := (qLr (fc (qL (qLr (fc qS (fc (qL qS) (f1 (qL qS)))))) (fc (qL (qLr (fc qS (fc (qL qS) (f1 (qL qS)))))) (fc (qO qI) (fc qB (fc (qO qI) (f1 qB))))))).mono c169.le f__law_rule_here
          have f17 := (qO qI).mono c169.le f17
          have f139 := (qL (q2 (qO qI) (qL qS))).mono c169.le f139
          have r141 := Row.mono c169.le r141
          have w145 := w145.call0 c169
          have r143 := Row.mono c169.le r143
          have w146 := w146.call0 c169
          refine if_b hm (fun b172 hm => ?_) (fun b172 hm => ?_)
          · skip
            obtain ⟨F173, S174, le175, f176, _, eq177⟩ := fz S171 w146 z36 r143
            have f__law_rule_here := (qLr (fc (qL (qLr (fc qS (fc (qL qS) (f1 (qL qS)))))) (fc (qL (qLr (fc qS (fc (qL qS) (f1 (qL qS)))))) (fc (qO qI) (fc qB (fc (qO qI) (f1 qB))))))).mono le175 f__law_rule_here
            have f17 := (qO qI).mono le175 f17
            have f139 := (qL (q2 (qO qI) (qL qS))).mono le175 f139
            have r141 := Row.mono le175 r141
            have w145 := w145.fzO ne35 eq177
            cases hm
            refine rd_ret ?_
            refine rd_v rfl ?_
            exact hQ _ _ _ _ S174 w145 r141 f176
          · skip
            obtain ⟨t178, e179, hm⟩ := bd_some hm
            refine rd_next ?_
            refine rd_cut (fun σ' H' => ∃ (F : Hp) (o8 : Option V) (vs0 : List V) (vs1 : List V), σ' = [some v__law_rule_here, some (V.ref p__law_held), some (V.str (a__law_line_here)), some x12, some (V.str (a__law_thing)), some (V.bl (t21)), some (V.ref p29), some x135, o8] ∧ Sx (fun a => a = p__law_held ∨ a = p29) F167 H168 F H' ∧ Ow (fun a => a = p__law_held ∨ a = p29) H168 F H' p__law_held (.lst vs0) ∧ Row (q2 (qO qI) (qL qS)) K F vs0 t178.1 ∧ Ow (fun a => a = p__law_held ∨ a = p29) H168 F H' p29 (.lst vs1) ∧ Row (q2 (qO qI) (qL qS)) K F vs1 t178.2) ?_ ?_
            · skip
              have S180 : Sx (fun a => a = p__law_held ∨ a = p29) _ _ _ _ := Sx.refl S171.sub (by
                  rintro a (rfl | rfl)
                  · rw [w145.at_]; exact (fun h => nomatch h)
                  · rw [w146.at_]; exact (fun h => nomatch h))
              have w181 : Ow (fun a => a = p__law_held ∨ a = p29) H168 _ _ _ _ := ⟨w145.fr, w145.at_, .inr (Or.inl rfl)⟩
              have w182 : Ow (fun a => a = p__law_held ∨ a = p29) H168 _ _ _ _ := ⟨w146.fr, w146.at_, .inr (Or.inr (rfl))⟩
              refine rd_ifS ?_
              refine rd_and ?_
              refine rd_test ?_
              refine rd_op ?_
              refine rd_op ?_
              refine rd_v rfl ?_
              refine rd_c ?_
              refine rd_xLr (i := 4) S180 f__law_rule_here (raS (raS (raS (raS ra0)))) (fun _ _ _ _ r => by obtain ⟨u0, s_u0, rfl, _, u1, s_u1, rfl, _, u2, s_u2, rfl, _, u3, s_u3, rfl, _, u4, s_u4, rfl, _, u5, rfl, _⟩ := r; exact Nat.le_of_ble_eq_true rfl) (fun u183 f184 => ?_)
              have f184 : (qO qI).r K F167 u183 (a__law_rule_here).2.2.2.2.1 := f184
              obtain ⟨t190, e191, e179⟩ := bd_some e179
              refine rd_c ?_
              refine rd_notN (A := qI) f184 ?_
              refine rd_b ?_
              refine and_j (fun c H' => c = t190 ∧ ∃ F', Sx P0 F167 H168 F' H') ?_ ?_ ?_
              · intro b192 Q193 q194
                have e191 := if_t e191 b192
                have S195 := Sx.refl0 S180.sub
                refine rd_test ?_
                refine rd_chain ?_
                refine rd_c ?_
                refine rd_op ?_
                refine rd_v rfl ?_
                refine rd_c ?_
                refine rd_xLr (i := 4) S195 f__law_rule_here (raS (raS (raS (raS ra0)))) (fun _ _ _ _ r => by obtain ⟨u0, s_u0, rfl, _, u1, s_u1, rfl, _, u2, s_u2, rfl, _, u3, s_u3, rfl, _, u4, s_u4, rfl, _, u5, rfl, _⟩ := r; exact Nat.le_of_ble_eq_true rfl) (fun u196 f197 => ?_)
                have f197 : (qO qI).r K F167 u196 (a__law_rule_here).2.2.2.2.1 := f197
                obtain ⟨t198, e199, e191⟩ := bd_some e191
                have f200 := qO_some f197 e199
                cases (show u196 = (V.int (t198)) from f200)
                cases e191
                refine rd_I0 ?_
                refine ch_at (c := decide (t198 ≤ ((t87.1).length : Int))) (by intro Q9 k9; refine rd_cb ?_; refine rd_cons ?_; refine rd_v rfl ?_; refine rd_nil ?_; refine rd_lenQ (w181.l r141).r.q ?_; exact k9) (fun _ k9 => rd_I0 k9) ?_
                refine rd_b ?_
                exact q194 _ _ ⟨rfl, F167, S195⟩
              · intro b192
                have e191 := if_f e191 b192
                cases e191
                have S201 := Sx.refl0 S180.sub
                exact ⟨rfl, F167, S201⟩
              rintro b205 H203 ⟨rfl, F202, c204⟩
              have S206 := S180.call0 c204
              have f__law_rule_here := (qLr (fc (qL (qLr (fc qS (fc (qL qS) (f1 (qL qS)))))) (fc (qL (qLr (fc qS (fc (qL qS) (f1 (qL qS)))))) (fc (qO qI) (fc qB (fc (qO qI) (f1 qB))))))).mono c204.le f__law_rule_here
              have f17 := (qO qI).mono c204.le f17
              have f139 := (qL (q2 (qO qI) (qL qS))).mono c204.le f139
              have r141 := Row.mono c204.le r141
              have w181 := w181.call0 c204
              have r143 := Row.mono c204.le r143
              have w182 := w182.call0 c204
              refine if_b e179 (fun b207 e179 => ?_) (fun b207 e179 => ?_)
              · skip
                obtain ⟨t208, e209, e179⟩ := bd_some e179
                refine rd_drop ?_
                refine rd_bm ?_
                refine rd_v rfl ?_
                refine rd_ty w182.ty ?_
                refine rd_cons ?_
                refine rd_bm ?_
                refine rd_v rfl ?_
                refine rd_ty w181.ty ?_
                refine rd_cons ?_
                refine rd_c ?_
                refine rd_nil ?_
                refine rd_popAt S206 w181 r141 e209 (fun u210 H211 us212 f213 c214 w215 r216 => ?_)
                have S217 := S206.call1 c214 w181
                have f__law_rule_here := (qLr (fc (qL (qLr (fc qS (fc (qL qS) (f1 (qL qS)))))) (fc (qL (qLr (fc qS (fc (qL qS) (f1 (qL qS)))))) (fc (qO qI) (fc qB (fc (qO qI) (f1 qB))))))).mono c214.le f__law_rule_here
                have f17 := (qO qI).mono c214.le f17
                have f139 := (qL (q2 (qO qI) (qL qS))).mono c214.le f139
                have f213 := (q2 (qO qI) (qL qS)).mono c214.le f213
                have r216 := Row.mono c214.le r216
                have r143 := Row.mono c214.le r143
                have w182 := w182.call c214 (by intro z; exact (Ne.symm ne35) z)
                obtain ⟨g218, e179⟩ := gd_some e179
                refine rd_nil ?_
                refine ap S217 w182 r143 g218 (fun H219 c220 w221 => ?_)
                have r222 := r143.snoc (show (q2 (qO qI) (qL qS)).r K F202 _ t208.1 from f213)
                have S223 := S217.call1 c220 w182
                have f__law_rule_here := (qLr (fc (qL (qLr (fc qS (fc (qL qS) (f1 (qL qS)))))) (fc (qL (qLr (fc qS (fc (qL qS) (f1 (qL qS)))))) (fc (qO qI) (fc qB (fc (qO qI) (f1 qB))))))).mono c220.le f__law_rule_here
                have f17 := (qO qI).mono c220.le f17
                have f139 := (qL (q2 (qO qI) (qL qS))).mono c220.le f139
                have r216 := Row.mono c220.le r216
                have w215 := w215.call c220 (by intro z; exact ne35 z)
                have r222 := Row.mono c220.le r222
                cases e179
                exact ⟨F202, _, _, _, rfl, S223, w215, r216, w221, r222⟩
              · skip
                cases e179
                refine rd_next ?_
                exact ⟨F202, _, _, _, rfl, S206, w181, r141, w182, r143⟩
            · skip
              rintro σ225 H224 ⟨F226, o228, v229, v230, rfl, S227, w231, r232, w233, r234⟩
              have S235 := S171.call S227 (by
                  rintro a (rfl | rfl)
                  · exact w145.mine.symm
                  · exact w146.mine.symm)
              have f__law_rule_here := (qLr (fc (qL (qLr (fc qS (fc (qL qS) (f1 (qL qS)))))) (fc (qL (qLr (fc qS (fc (qL qS) (f1 (qL qS)))))) (fc (qO qI) (fc qB (fc (qO qI) (f1 qB))))))).mono S227.le f__law_rule_here
              have f17 := (qO qI).mono S227.le f17
              have f139 := (qL (q2 (qO qI) (qL qS))).mono S227.le f139
              have w236 : Ow (fun a => a = p__law_held) H0 _ _ _ _ := ⟨w231.fr, w231.at_, w145.mine⟩
              have w237 : Ow (fun a => a = p__law_held) H0 _ _ _ _ := ⟨w233.fr, w233.at_, w146.mine⟩
              refine rd_asg ?_
              refine rd_tup ?_
              refine rd_cons ?_
              refine rd_v rfl ?_
              refine rd_cons ?_
              refine rd_lst ?_
              refine rd_cons ?_
              refine rd_v rfl ?_
              refine rd_nil ?_
              refine rd_lK rfl ?_
              refine alL (K := K) (A := qS) (xs := [a__law_thing]) S235 (.cons rfl .nil) (fun v238 F239 H240 c241 f242 => ?_)
              have S243 := S235.call0 c241
              have f__law_rule_here := (qLr (fc (qL (qLr (fc qS (fc (qL qS) (f1 (qL qS)))))) (fc (qL (qLr (fc qS (fc (qL qS) (f1 (qL qS)))))) (fc (qO qI) (fc qB (fc (qO qI) (f1 qB))))))).mono c241.le f__law_rule_here
              have f17 := (qO qI).mono c241.le f17
              have f139 := (qL (q2 (qO qI) (qL qS))).mono c241.le f139
              have r232 := Row.mono c241.le r232
              have w236 := w236.call0 c241
              have r234 := Row.mono c241.le r234
              have w237 := w237.call0 c241
              refine rd_nil ?_
              refine rd_uK rfl ?_
              refine alF S243 (fun p244 F245 H246 c247 h248 => ?_)
              have S249 := S243.call0 c247
              have f__law_rule_here := (qLr (fc (qL (qLr (fc qS (fc (qL qS) (f1 (qL qS)))))) (fc (qL (qLr (fc qS (fc (qL qS) (f1 (qL qS)))))) (fc (qO qI) (fc qB (fc (qO qI) (f1 qB))))))).mono c247.le f__law_rule_here
              have f17 := (qO qI).mono c247.le f17
              have f139 := (qL (q2 (qO qI) (qL qS))).mono c247.le f139
              have f242 := (qL qS).mono c247.le f242
              have r232 := Row.mono c247.le r232
              have w236 := w236.call0 c247
              have r234 := Row.mono c247.le r234
              have w237 := w237.call0 c247
              have f250 : (q2 (qO qI) (qL qS)).r K F245 (.ref p244) (t1, [a__law_thing]) := ⟨p244, _, _, rfl, .inl (.inl h248), f17, f242⟩
              obtain ⟨t251, e252, hm⟩ := bd_some hm
              refine rd_gn ?_
              refine rd_cut (fun σ' H' => ∃ (F : Hp) (vs0 : List V) (vs1 : List V), σ' = [some v__law_rule_here, some (V.ref p__law_held), some (V.str (a__law_line_here)), some x12, some (V.str (a__law_thing)), some (V.bl (t21)), some (V.ref p29), some x135, some (V.ref p244)] ∧ Sx (fun a => a = p__law_held ∨ a = p29) F245 H246 F H' ∧ Ow (fun a => a = p__law_held ∨ a = p29) H246 F H' p__law_held (.lst vs0) ∧ Row (q2 (qO qI) (qL qS)) K F vs0 t251.1 ∧ Ow (fun a => a = p__law_held ∨ a = p29) H246 F H' p29 (.lst vs1) ∧ Row (q2 (qO qI) (qL qS)) K F vs1 t251.2) ?_ ?_
              · skip
                have S253 : Sx (fun a => a = p__law_held ∨ a = p29) _ _ _ _ := Sx.refl S249.sub (by
                    rintro a (rfl | rfl)
                    · rw [w236.at_]; exact (fun h => nomatch h)
                    · rw [w237.at_]; exact (fun h => nomatch h))
                have w254 : Ow (fun a => a = p__law_held ∨ a = p29) H246 _ _ _ _ := ⟨w236.fr, w236.at_, .inr (Or.inl rfl)⟩
                have w255 : Ow (fun a => a = p__law_held ∨ a = p29) H246 _ _ _ _ := ⟨w237.fr, w237.at_, .inr (Or.inr (rfl))⟩
                refine rd_ifS ?_
                refine rd_or ?_
                refine rd_tB ?_
                refine rd_call ?_
                refine rd_cons ?_
                refine rd_op ?_
                refine rd_v rfl ?_
                refine rd_c ?_
                refine rd_xLr (i := 1) S253 f__law_rule_here (raS ra0) (fun _ _ _ _ r => by obtain ⟨u0, s_u0, rfl, _, u1, s_u1, rfl, _, u2, s_u2, rfl, _, u3, s_u3, rfl, _, u4, s_u4, rfl, _, u5, rfl, _⟩ := r; exact Nat.le_of_ble_eq_true rfl) (fun u256 f257 => ?_)
                have f257 : (qL (qLr (fc qS (fc (qL qS) (f1 (qL qS)))))).r K F245 u256 (a__law_rule_here).2.1 := f257
                obtain ⟨t258, e259, e252⟩ := bd_some e252
                refine rd_cons ?_
                refine rd_v rfl ?_
                refine rd_nil ?_
                refine ⟨F245, _, _, _, t258, rfl, S253.sub, f257, e259, fun v263 F260 H261 c262 f264 => ?_⟩
                have S265 := S253.call0 c262
                have f__law_rule_here := (qLr (fc (qL (qLr (fc qS (fc (qL qS) (f1 (qL qS)))))) (fc (qL (qLr (fc qS (fc (qL qS) (f1 (qL qS)))))) (fc (qO qI) (fc qB (fc (qO qI) (f1 qB))))))).mono c262.le f__law_rule_here
                have f17 := (qO qI).mono c262.le f17
                have f250 := (q2 (qO qI) (qL qS)).mono c262.le f250
                have f139 := (qL (q2 (qO qI) (qL qS))).mono c262.le f139
                have r232 := Row.mono c262.le r232
                have w254 := w254.call0 c262
                have r234 := Row.mono c262.le r234
                have w255 := w255.call0 c262
                cases (show v263 = (V.bl (t258)) from f264)
                obtain ⟨t273, e274, e252⟩ := bd_some e252
                refine rd_b ?_
                refine or_j (fun c H' => c = t273 ∧ ∃ F', Sx P0 F260 H261 F' H') ?_ ?_ ?_
                · intro b275 Q276 q277
                  have e274 := if_f e274 b275
                  have S278 := Sx.refl0 S265.sub
                  refine rd_test ?_
                  refine rd_op ?_
                  refine rd_cb ?_
                  refine rd_cons ?_
                  refine rd_op ?_
                  refine rd_v rfl ?_
                  refine rd_c ?_
                  refine rd_y2 S278 f250 (fun u279 f280 => ?_)
                  have f280 : (qL qS).r K F260 u279 ((t1, [a__law_thing])).2 := f280
                  refine rd_nil ?_
                  refine rd_lenQ (S278.l f280).r.q ?_
                  refine rd_op ?_
                  refine rd_v rfl ?_
                  refine rd_c ?_
                  refine rd_xLr (i := 2) S278 f__law_rule_here (raS (raS ra0)) (fun _ _ _ _ r => by obtain ⟨u0, s_u0, rfl, _, u1, s_u1, rfl, _, u2, s_u2, rfl, _, u3, s_u3, rfl, _, u4, s_u4, rfl, _, u5, rfl, _⟩ := r; exact Nat.le_of_ble_eq_true rfl) (fun u281 f282 => ?_)
                  have f282 : (qO qI).r K F260 u281 (a__law_rule_here).2.2.1 := f282
                  have f283 : (qO qI).r K F260 (V.int (((((t1, [a__law_thing])).2).length : Int))) (some ((((t1, [a__law_thing])).2).length : Int)) := (show (qO qI).r K F260 (V.int (((((t1, [a__law_thing])).2).length : Int))) (some ((((t1, [a__law_thing])).2).length : Int)) from rfl)
                  obtain ⟨g284, e274⟩ := gd_some e274
                  obtain ⟨g285, e274⟩ := gd_some e274
                  cases e274
                  refine rd_eqD (D := (dO dI)) (S278.d (dO dI) f283) (S278.d (dO dI) f282) g284 g285 ?_
                  refine rd_b ?_
                  exact q277 _ _ ⟨rfl, F260, S278⟩
                · intro b275
                  have e274 := if_t e274 b275
                  cases e274
                  have S286 := Sx.refl0 S265.sub
                  exact ⟨rfl, F260, S286⟩
                rintro b290 H288 ⟨rfl, F287, c289⟩
                have S291 := S265.call0 c289
                have f__law_rule_here := (qLr (fc (qL (qLr (fc qS (fc (qL qS) (f1 (qL qS)))))) (fc (qL (qLr (fc qS (fc (qL qS) (f1 (qL qS)))))) (fc (qO qI) (fc qB (fc (qO qI) (f1 qB))))))).mono c289.le f__law_rule_here
                have f17 := (qO qI).mono c289.le f17
                have f250 := (q2 (qO qI) (qL qS)).mono c289.le f250
                have f139 := (qL (q2 (qO qI) (qL qS))).mono c289.le f139
                have r232 := Row.mono c289.le r232
                have w254 := w254.call0 c289
                have r234 := Row.mono c289.le r234
                have w255 := w255.call0 c289
                refine if_b e252 (fun b292 e252 => ?_) (fun b292 e252 => ?_)
                · skip
                  obtain ⟨g293, e252⟩ := gd_some e252
                  refine rd_drop ?_
                  refine rd_bm ?_
                  refine rd_v rfl ?_
                  refine rd_ty w255.ty ?_
                  refine rd_cons ?_
                  refine rd_v rfl ?_
                  refine rd_nil ?_
                  refine ap S291 w255 r234 g293 (fun H294 c295 w296 => ?_)
                  have r297 := r234.snoc (show (q2 (qO qI) (qL qS)).r K F287 _ (t1, [a__law_thing]) from f250)
                  have S298 := S291.call1 c295 w255
                  have f__law_rule_here := (qLr (fc (qL (qLr (fc qS (fc (qL qS) (f1 (qL qS)))))) (fc (qL (qLr (fc qS (fc (qL qS) (f1 (qL qS)))))) (fc (qO qI) (fc qB (fc (qO qI) (f1 qB))))))).mono c295.le f__law_rule_here
                  have f17 := (qO qI).mono c295.le f17
                  have f250 := (q2 (qO qI) (qL qS)).mono c295.le f250
                  have f139 := (qL (q2 (qO qI) (qL qS))).mono c295.le f139
                  have r232 := Row.mono c295.le r232
                  have w254 := w254.call c295 (by intro z; exact ne35 z)
                  have r297 := Row.mono c295.le r297
                  cases e252
                  exact ⟨F287, _, _, rfl, S298, w254, r232, w296, r297⟩
                · skip
                  obtain ⟨g299, e252⟩ := gd_some e252
                  refine rd_drop ?_
                  refine rd_bm ?_
                  refine rd_v rfl ?_
                  refine rd_ty w254.ty ?_
                  refine rd_cons ?_
                  refine rd_v rfl ?_
                  refine rd_nil ?_
                  refine ap S291 w254 r232 g299 (fun H300 c301 w302 => ?_)
                  have r303 := r232.snoc (show (q2 (qO qI) (qL qS)).r K F287 _ (t1, [a__law_thing]) from f250)
                  have S304 := S291.call1 c301 w254
                  have f__law_rule_here := (qLr (fc (qL (qLr (fc qS (fc (qL qS) (f1 (qL qS)))))) (fc (qL (qLr (fc qS (fc (qL qS) (f1 (qL qS)))))) (fc (qO qI) (fc qB (fc (qO qI) (f1 qB))))))).mono c301.le f__law_rule_here
                  have f17 := (qO qI).mono c301.le f17
                  have f250 := (q2 (qO qI) (qL qS)).mono c301.le f250
                  have f139 := (qL (q2 (qO qI) (qL qS))).mono c301.le f139
                  have r303 := Row.mono c301.le r303
                  have r234 := Row.mono c301.le r234
                  have w255 := w255.call c301 (by intro z; exact (Ne.symm ne35) z)
                  cases e252
                  exact ⟨F287, _, _, rfl, S304, w302, r303, w255, r234⟩
              · skip
                rintro σ306 H305 ⟨F307, v309, v310, rfl, S308, w311, r312, w313, r314⟩
                have S315 := S249.call S308 (by
                    rintro a (rfl | rfl)
                    · exact w236.mine.symm
                    · exact w237.mine.symm)
                have f__law_rule_here := (qLr (fc (qL (qLr (fc qS (fc (qL qS) (f1 (qL qS)))))) (fc (qL (qLr (fc qS (fc (qL qS) (f1 (qL qS)))))) (fc (qO qI) (fc qB (fc (qO qI) (f1 qB))))))).mono S308.le f__law_rule_here
                have f17 := (qO qI).mono S308.le f17
                have f250 := (q2 (qO qI) (qL qS)).mono S308.le f250
                have f139 := (qL (q2 (qO qI) (qL qS))).mono S308.le f139
                have w316 : Ow (fun a => a = p__law_held) H0 _ _ _ _ := ⟨w311.fr, w311.at_, w236.mine⟩
                have w317 : Ow (fun a => a = p__law_held) H0 _ _ _ _ := ⟨w313.fr, w313.at_, w237.mine⟩
                obtain ⟨F318, S319, le320, f321, _, eq322⟩ := fz S315 w317 z36 r314
                have f__law_rule_here := (qLr (fc (qL (qLr (fc qS (fc (qL qS) (f1 (qL qS)))))) (fc (qL (qLr (fc qS (fc (qL qS) (f1 (qL qS)))))) (fc (qO qI) (fc qB (fc (qO qI) (f1 qB))))))).mono le320 f__law_rule_here
                have f17 := (qO qI).mono le320 f17
                have f250 := (q2 (qO qI) (qL qS)).mono le320 f250
                have f139 := (qL (q2 (qO qI) (qL qS))).mono le320 f139
                have r312 := Row.mono le320 r312
                have w316 := w316.fzO ne35 eq322
                cases hm
                refine rd_ret ?_
                refine rd_v rfl ?_
                exact hQ _ _ _ _ S319 w316 r312 f321
        · skip
          obtain ⟨t323, e324, hm⟩ := bd_some hm
          refine rd_seq ?_
          refine rd_drop ?_
          refine rd_bm ?_
          refine rd_v rfl ?_
          refine rd_ty w145.ty ?_
          refine rd_cons ?_
          refine rd_op ?_
          refine rd_v rfl ?_
          refine rd_c ?_
          refine rd_ixL (S152.l f139).r e324 (fun u325 f326 => ?_)
          obtain ⟨g327, hm⟩ := gd_some hm
          obtain ⟨g328, hm⟩ := gd_some hm
          obtain ⟨t329, e330, hm⟩ := bd_some hm
          refine rd_nil ?_
          refine rd_removeD (D := (d2 (dO dI) (dL dS))) S152 w145 r141 (S152.d (d2 (dO dI) (dL dS)) f326) g327 g328 e330 (fun H331 us332 c333 w334 r335 => ?_)
          have S336 := S152.call1 c333 w145
          have f__law_rule_here := (qLr (fc (qL (qLr (fc qS (fc (qL qS) (f1 (qL qS)))))) (fc (qL (qLr (fc qS (fc (qL qS) (f1 (qL qS)))))) (fc (qO qI) (fc qB (fc (qO qI) (f1 qB))))))).mono c333.le f__law_rule_here
          have f17 := (qO qI).mono c333.le f17
          have f139 := (qL (q2 (qO qI) (qL qS))).mono c333.le f139
          have r335 := Row.mono c333.le r335
          have r143 := Row.mono c333.le r143
          have w146 := w146.call c333 (by intro z; exact (Ne.symm ne35) z)
          obtain ⟨t337, e338, hm⟩ := bd_some hm
          refine rd_asg ?_
          refine rd_tup ?_
          refine rd_cons ?_
          refine rd_v rfl ?_
          refine rd_cons ?_
          refine rd_op ?_
          refine rd_op ?_
          refine rd_op ?_
          refine rd_v rfl ?_
          refine rd_c ?_
          refine rd_ixL (S336.l f139).r e338 (fun u339 f340 => ?_)
          refine rd_c ?_
          refine rd_y2 S336 f340 (fun u341 f342 => ?_)
          have f342 : (qL qS).r K F148 u341 (t337).2 := f342
          refine rd_lst ?_
          refine rd_cons ?_
          refine rd_v rfl ?_
          refine rd_nil ?_
          refine rd_lK rfl ?_
          refine alL (K := K) (A := qS) (xs := [a__law_thing]) S336 (.cons rfl .nil) (fun v343 F344 H345 c346 f347 => ?_)
          have S348 := S336.call0 c346
          have f__law_rule_here := (qLr (fc (qL (qLr (fc qS (fc (qL qS) (f1 (qL qS)))))) (fc (qL (qLr (fc qS (fc (qL qS) (f1 (qL qS)))))) (fc (qO qI) (fc qB (fc (qO qI) (f1 qB))))))).mono c346.le f__law_rule_here
          have f17 := (qO qI).mono c346.le f17
          have f139 := (qL (q2 (qO qI) (qL qS))).mono c346.le f139
          have f342 := (qL qS).mono c346.le f342
          have r335 := Row.mono c346.le r335
          have w334 := w334.call0 c346
          have r143 := Row.mono c346.le r143
          have w146 := w146.call0 c346
          obtain ⟨g349, hm⟩ := gd_some hm
          refine rd_cat (S348.l f342) (S348.l f347) g349 ?_
          refine alL' S348 (fun v350 F351 H352 c353 f354 => ?_)
          have S355 := S348.call0 c353
          have f__law_rule_here := (qLr (fc (qL (qLr (fc qS (fc (qL qS) (f1 (qL qS)))))) (fc (qL (qLr (fc qS (fc (qL qS) (f1 (qL qS)))))) (fc (qO qI) (fc qB (fc (qO qI) (f1 qB))))))).mono c353.le f__law_rule_here
          have f17 := (qO qI).mono c353.le f17
          have f139 := (qL (q2 (qO qI) (qL qS))).mono c353.le f139
          have r335 := Row.mono c353.le r335
          have w334 := w334.call0 c353
          have r143 := Row.mono c353.le r143
          have w146 := w146.call0 c353
          refine rd_nil ?_
          refine rd_uK rfl ?_
          refine alF S355 (fun p356 F357 H358 c359 h360 => ?_)
          have S361 := S355.call0 c359
          have f__law_rule_here := (qLr (fc (qL (qLr (fc qS (fc (qL qS) (f1 (qL qS)))))) (fc (qL (qLr (fc qS (fc (qL qS) (f1 (qL qS)))))) (fc (qO qI) (fc qB (fc (qO qI) (f1 qB))))))).mono c359.le f__law_rule_here
          have f17 := (qO qI).mono c359.le f17
          have f139 := (qL (q2 (qO qI) (qL qS))).mono c359.le f139
          have f354 := (qL qS).mono c359.le f354
          have r335 := Row.mono c359.le r335
          have w334 := w334.call0 c359
          have r143 := Row.mono c359.le r143
          have w146 := w146.call0 c359
          have f362 : (q2 (qO qI) (qL qS)).r K F357 (.ref p356) (t1, ((t337).2 ++ [a__law_thing])) := ⟨p356, _, _, rfl, .inl (.inl h360), f17, f354⟩
          obtain ⟨t363, e364, hm⟩ := bd_some hm
          refine rd_gn ?_
          refine rd_cut (fun σ' H' => ∃ (F : Hp) (vs0 : List V) (vs1 : List V), σ' = [some v__law_rule_here, some (V.ref p__law_held), some (V.str (a__law_line_here)), some x12, some (V.str (a__law_thing)), some (V.bl (t21)), some (V.ref p29), some x135, some (V.ref p356)] ∧ Sx (fun a => a = p__law_held ∨ a = p29) F357 H358 F H' ∧ Ow (fun a => a = p__law_held ∨ a = p29) H358 F H' p__law_held (.lst vs0) ∧ Row (q2 (qO qI) (qL qS)) K F vs0 t363.1 ∧ Ow (fun a => a = p__law_held ∨ a = p29) H358 F H' p29 (.lst vs1) ∧ Row (q2 (qO qI) (qL qS)) K F vs1 t363.2) ?_ ?_
          · skip
            have S365 : Sx (fun a => a = p__law_held ∨ a = p29) _ _ _ _ := Sx.refl S361.sub (by
                rintro a (rfl | rfl)
                · rw [w334.at_]; exact (fun h => nomatch h)
                · rw [w146.at_]; exact (fun h => nomatch h))
            have w366 : Ow (fun a => a = p__law_held ∨ a = p29) H358 _ _ _ _ := ⟨w334.fr, w334.at_, .inr (Or.inl rfl)⟩
            have w367 : Ow (fun a => a = p__law_held ∨ a = p29) H358 _ _ _ _ := ⟨w146.fr, w146.at_, .inr (Or.inr (rfl))⟩
            refine rd_ifS ?_
            refine rd_or ?_
            refine rd_tB ?_
            refine rd_call ?_
            refine rd_cons ?_
            refine rd_op ?_
            refine rd_v rfl ?_
            refine rd_c ?_
            refine rd_xLr (i := 1) S365 f__law_rule_here (raS ra0) (fun _ _ _ _ r => by obtain ⟨u0, s_u0, rfl, _, u1, s_u1, rfl, _, u2, s_u2, rfl, _, u3, s_u3, rfl, _, u4, s_u4, rfl, _, u5, rfl, _⟩ := r; exact Nat.le_of_ble_eq_true rfl) (fun u368 f369 => ?_)
            have f369 : (qL (qLr (fc qS (fc (qL qS) (f1 (qL qS)))))).r K F357 u368 (a__law_rule_here).2.1 := f369
            obtain ⟨t370, e371, e364⟩ := bd_some e364
            refine rd_cons ?_
            refine rd_v rfl ?_
            refine rd_nil ?_
            refine ⟨F357, _, _, _, t370, rfl, S365.sub, f369, e371, fun v375 F372 H373 c374 f376 => ?_⟩
            have S377 := S365.call0 c374
            have f__law_rule_here := (qLr (fc (qL (qLr (fc qS (fc (qL qS) (f1 (qL qS)))))) (fc (qL (qLr (fc qS (fc (qL qS) (f1 (qL qS)))))) (fc (qO qI) (fc qB (fc (qO qI) (f1 qB))))))).mono c374.le f__law_rule_here
            have f17 := (qO qI).mono c374.le f17
            have f362 := (q2 (qO qI) (qL qS)).mono c374.le f362
            have f139 := (qL (q2 (qO qI) (qL qS))).mono c374.le f139
            have r335 := Row.mono c374.le r335
            have w366 := w366.call0 c374
            have r143 := Row.mono c374.le r143
            have w367 := w367.call0 c374
            cases (show v375 = (V.bl (t370)) from f376)
            obtain ⟨t385, e386, e364⟩ := bd_some e364
            refine rd_b ?_
            refine or_j (fun c H' => c = t385 ∧ ∃ F', Sx P0 F372 H373 F' H') ?_ ?_ ?_
            · intro b387 Q388 q389
              have e386 := if_f e386 b387
              have S390 := Sx.refl0 S377.sub
              refine rd_test ?_
              refine rd_op ?_
              refine rd_cb ?_
              refine rd_cons ?_
              refine rd_op ?_
              refine rd_v rfl ?_
              refine rd_c ?_
              refine rd_y2 S390 f362 (fun u391 f392 => ?_)
              have f392 : (qL qS).r K F372 u391 ((t1, ((t337).2 ++ [a__law_thing]))).2 := f392
              refine rd_nil ?_
              refine rd_lenQ (S390.l f392).r.q ?_
              refine rd_op ?_
              refine rd_v rfl ?_
              refine rd_c ?_
              refine rd_xLr (i := 2) S390 f__law_rule_here (raS (raS ra0)) (fun _ _ _ _ r => by obtain ⟨u0, s_u0, rfl, _, u1, s_u1, rfl, _, u2, s_u2, rfl, _, u3, s_u3, rfl, _, u4, s_u4, rfl, _, u5, rfl, _⟩ := r; exact Nat.le_of_ble_eq_true rfl) (fun u393 f394 => ?_)
              have f394 : (qO qI).r K F372 u393 (a__law_rule_here).2.2.1 := f394
              have f395 : (qO qI).r K F372 (V.int (((((t1, ((t337).2 ++ [a__law_thing]))).2).length : Int))) (some ((((t1, ((t337).2 ++ [a__law_thing]))).2).length : Int)) := (show (qO qI).r K F372 (V.int (((((t1, ((t337).2 ++ [a__law_thing]))).2).length : Int))) (some ((((t1, ((t337).2 ++ [a__law_thing]))).2).length : Int)) from rfl)
              obtain ⟨g396, e386⟩ := gd_some e386
              obtain ⟨g397, e386⟩ := gd_some e386
              cases e386
              refine rd_eqD (D := (dO dI)) (S390.d (dO dI) f395) (S390.d (dO dI) f394) g396 g397 ?_
              refine rd_b ?_
              exact q389 _ _ ⟨rfl, F372, S390⟩
            · intro b387
              have e386 := if_t e386 b387
              cases e386
              have S398 := Sx.refl0 S377.sub
              exact ⟨rfl, F372, S398⟩
            rintro b402 H400 ⟨rfl, F399, c401⟩
            have S403 := S377.call0 c401
            have f__law_rule_here := (qLr (fc (qL (qLr (fc qS (fc (qL qS) (f1 (qL qS)))))) (fc (qL (qLr (fc qS (fc (qL qS) (f1 (qL qS)))))) (fc (qO qI) (fc qB (fc (qO qI) (f1 qB))))))).mono c401.le f__law_rule_here
            have f17 := (qO qI).mono c401.le f17
            have f362 := (q2 (qO qI) (qL qS)).mono c401.le f362
            have f139 := (qL (q2 (qO qI) (qL qS))).mono c401.le f139
            have r335 := Row.mono c401.le r335
            have w366 := w366.call0 c401
            have r143 := Row.mono c401.le r143
            have w367 := w367.call0 c401
            refine if_b e364 (fun b404 e364 => ?_) (fun b404 e364 => ?_)
            · skip
              obtain ⟨g405, e364⟩ := gd_some e364
              refine rd_drop ?_
              refine rd_bm ?_
              refine rd_v rfl ?_
              refine rd_ty w367.ty ?_
              refine rd_cons ?_
              refine rd_v rfl ?_
              refine rd_nil ?_
              refine ap S403 w367 r143 g405 (fun H406 c407 w408 => ?_)
              have r409 := r143.snoc (show (q2 (qO qI) (qL qS)).r K F399 _ (t1, ((t337).2 ++ [a__law_thing])) from f362)
              have S410 := S403.call1 c407 w367
              have f__law_rule_here := (qLr (fc (qL (qLr (fc qS (fc (qL qS) (f1 (qL qS)))))) (fc (qL (qLr (fc qS (fc (qL qS) (f1 (qL qS)))))) (fc (qO qI) (fc qB (fc (qO qI) (f1 qB))))))).mono c407.le f__law_rule_here
              have f17 := (qO qI).mono c407.le f17
              have f362 := (q2 (qO qI) (qL qS)).mono c407.le f362
              have f139 := (qL (q2 (qO qI) (qL qS))).mono c407.le f139
              have r335 := Row.mono c407.le r335
              have w366 := w366.call c407 (by intro z; exact ne35 z)
              have r409 := Row.mono c407.le r409
              cases e364
              exact ⟨F399, _, _, rfl, S410, w366, r335, w408, r409⟩
            · skip
              obtain ⟨g411, e364⟩ := gd_some e364
              refine rd_drop ?_
              refine rd_bm ?_
              refine rd_v rfl ?_
              refine rd_ty w366.ty ?_
              refine rd_cons ?_
              refine rd_v rfl ?_
              refine rd_nil ?_
              refine ap S403 w366 r335 g411 (fun H412 c413 w414 => ?_)
              have r415 := r335.snoc (show (q2 (qO qI) (qL qS)).r K F399 _ (t1, ((t337).2 ++ [a__law_thing])) from f362)
              have S416 := S403.call1 c413 w366
              have f__law_rule_here := (qLr (fc (qL (qLr (fc qS (fc (qL qS) (f1 (qL qS)))))) (fc (qL (qLr (fc qS (fc (qL qS) (f1 (qL qS)))))) (fc (qO qI) (fc qB (fc (qO qI) (f1 qB))))))).mono c413.le f__law_rule_here
              have f17 := (qO qI).mono c413.le f17
              have f362 := (q2 (qO qI) (qL qS)).mono c413.le f362
              have f139 := (qL (q2 (qO qI) (qL qS))).mono c413.le f139
              have r415 := Row.mono c413.le r415
              have r143 := Row.mono c413.le r143
              have w367 := w367.call c413 (by intro z; exact (Ne.symm ne35) z)
              cases e364
              exact ⟨F399, _, _, rfl, S416, w414, r415, w367, r143⟩
          · skip
            rintro σ418 H417 ⟨F419, v421, v422, rfl, S420, w423, r424, w425, r426⟩
            have S427 := S361.call S420 (by
                rintro a (rfl | rfl)
                · exact w334.mine.symm
                · exact w146.mine.symm)
            have f__law_rule_here := (qLr (fc (qL (qLr (fc qS (fc (qL qS) (f1 (qL qS)))))) (fc (qL (qLr (fc qS (fc (qL qS) (f1 (qL qS)))))) (fc (qO qI) (fc qB (fc (qO qI) (f1 qB))))))).mono S420.le f__law_rule_here
            have f17 := (qO qI).mono S420.le f17
            have f362 := (q2 (qO qI) (qL qS)).mono S420.le f362
            have f139 := (qL (q2 (qO qI) (qL qS))).mono S420.le f139
            have w428 : Ow (fun a => a = p__law_held) H0 _ _ _ _ := ⟨w423.fr, w423.at_, w334.mine⟩
            have w429 : Ow (fun a => a = p__law_held) H0 _ _ _ _ := ⟨w425.fr, w425.at_, w146.mine⟩
            obtain ⟨F430, S431, le432, f433, _, eq434⟩ := fz S427 w429 z36 r426
            have f__law_rule_here := (qLr (fc (qL (qLr (fc qS (fc (qL qS) (f1 (qL qS)))))) (fc (qL (qLr (fc qS (fc (qL qS) (f1 (qL qS)))))) (fc (qO qI) (fc qB (fc (qO qI) (f1 qB))))))).mono le432 f__law_rule_here
            have f17 := (qO qI).mono le432 f17
            have f362 := (q2 (qO qI) (qL qS)).mono le432 f362
            have f139 := (qL (q2 (qO qI) (qL qS))).mono le432 f139
            have r424 := Row.mono le432 r424
            have w428 := w428.fzO ne35 eq434
            cases hm
            refine rd_ret ?_
            refine rd_v rfl ?_
            exact hQ _ _ _ _ S431 w428 r424 f433
def sp_Gluer_many (K : PySem.W.Frag) : Sp := fun vs H Q _ => ∃ (F : Hp) (p_self : Addr) (dx : Addr) (u_rule : V) (q_opened : Addr) (vs_opened : List V) (a_self : ((List Pat × List Pat × List (Str × Th)) × (List ((Option Int) × (List Str))) × Int)) (r : Int), vs = [.ref p_self] ∧ Same F H ∧ Ow (fun a => a = p_self ∨ a = q_opened) H F H p_self (.ins (He.ga K "Gluer") dx [("rule", u_rule), ("opened", V.ref q_opened), ("given", (V.int (a_self.2.2)))]) ∧ qRule.r K F u_rule a_self.1 ∧ Ow (fun a => a = p_self ∨ a = q_opened) H F H q_opened (.lst vs_opened) ∧ Row (q2 (qO qI) (qL qS)) K F vs_opened a_self.2.1 ∧ q_opened ≠ p_self ∧ m_Gluer_many a_self = some r ∧ ∀ v F' H', Sx P0 F H F' H' → qI.r K F' v r → Q v H'
theorem sc_Gluer_many : FnScope ["self"] ["self"] (defScope s_Gluer_many) := ⟨rfl, rfl, rfl, by decide +kernel, rfl, by decide +kernel, by decide +kernel⟩
theorem bn_Gluer_many (T : Tx K mg) : Binds K (fdG K "Gluer" "many") ["self"] [] := FunD.bindsN T.pr_Gluer_many.F fun _ _ _ _ _ _ us hl => match us, hl with | [_], _ => rfl
theorem ok_Gluer_many (T : Tx K mg) : FnOk P w K mg base CX0 1 (geA K "Gluer" "many") (fdG K "Gluer" "many") ["self"] (sp_Gluer_many K) := by
  refine FunD.ok T.pr_Gluer_many.F sc_Gluer_many (fun vs H0 Q E h => ?_) (fun cdv A outer s H0 vs Q E hr h => ?_)
  · obtain ⟨_, _, _, _, _, _, _, _, rfl, _⟩ := h
    rfl
  · obtain ⟨F0, p_self, dx, u_rule, q_opened, vs_opened, a_self, r, rfl, hE, w_self, f_rule, w_opened, r_opened, n_opened, hm, hQ⟩ := h
    refine ⟨_, PSs.nox ((pss_one (ps_ret (pe_fldK (pv 0) rfl)))), ?_⟩
    have S : Sx P0 F0 H0 F0 H0 := Sx.refl0 hE
    unfold m_Gluer_many at hm
    cases hm
    refine rd_ret ?_
    refine rd_fld ?_
    refine rd_v rfl ?_
    refine fd_at w_self.at_ T.c_Gluer T.na_Gluer_given (by rfl) ?_
    exact hQ _ _ _ S rfl
def sp_Gluer_finish (K : PySem.W.Frag) : Sp := fun vs H Q _ => ∃ (F : Hp) (p_self : Addr) (dx : Addr) (u_rule : V) (q_opened : Addr) (vs_opened : List V) (a_self : ((List Pat × List Pat × List (Str × Th)) × (List ((Option Int) × (List Str))) × Int)) (r : ((List ((Option Int) × (List Str))) × ((List ((Option Int) × (List Str))) × Int))), vs = [.ref p_self] ∧ Same F H ∧ Ow (fun a => a = p_self ∨ a = q_opened) H F H p_self (.ins (He.ga K "Gluer") dx [("rule", u_rule), ("opened", V.ref q_opened), ("given", (V.int (a_self.2.2)))]) ∧ qRule.r K F u_rule a_self.1 ∧ Ow (fun a => a = p_self ∨ a = q_opened) H F H q_opened (.lst vs_opened) ∧ Row (q2 (qO qI) (qL qS)) K F vs_opened a_self.2.1 ∧ q_opened ≠ p_self ∧ m_Gluer_finish a_self = some r ∧ ∀ (p : Addr) (us : List V) (F' H' : Hp) (q'_opened : Addr) (vs'_opened : List V), Sx (fun a => a = p_self ∨ a = q_opened) F H F' H' → Ow (fun a => a = p_self ∨ a = q_opened) H F' H' p_self (.ins (He.ga K "Gluer") dx [("rule", u_rule), ("opened", V.ref q'_opened), ("given", (V.int (r.2.2)))]) → Ow (fun a => a = p_self ∨ a = q_opened) H F' H' q'_opened (.lst vs'_opened) → Row (q2 (qO qI) (qL qS)) K F' vs'_opened r.2.1 → q'_opened ≠ p_self → Ow (fun a => a = p_self ∨ a = q_opened) H F' H' p (.lst us) → Row (q2 (qO qI) (qL qS)) K F' us r.1 → p ≠ p_self → p ≠ q'_opened → Q (.ref p) H'
theorem sc_Gluer_finish : FnScope ["self", "told"] ["self"] (defScope s_Gluer_finish) := ⟨rfl, rfl, rfl, by decide +kernel, rfl, by decide +kernel, by decide +kernel⟩
theorem bn_Gluer_finish (T : Tx K mg) : Binds K (fdOf K ("Gluer", some "finish")) ["self"] [] := FunD.bindsN T.F_Gluer_finish fun _ _ _ _ _ _ us hl => match us, hl with | [_], _ => rfl
theorem ok_Gluer_finish (T : Tx K mg) : FnOk P w K mg base CX0 1 (He.fAd K ("Gluer", some "finish")) (fdOf K ("Gluer", some "finish")) ["self"] (sp_Gluer_finish K) := by
  refine FunD.ok T.F_Gluer_finish sc_Gluer_finish (fun vs H0 Q E h => ?_) (fun cdv A outer s H0 vs Q E hr h => ?_)
  · obtain ⟨_, _, _, _, _, _, _, _, rfl, _⟩ := h
    rfl
  · obtain ⟨F0, p_self, dx, u_rule, q_opened, vs_opened, a_self, r, rfl, hE, w_self, f_rule, w_opened, r_opened, n_opened, hm, hQ⟩ := h
    refine ⟨_, PSs.nox ((pss_cons (ps_set (i := 1) sc_Gluer_finish.nd rfl (by first | exact Or.inl rfl | exact Or.inr rfl) (pe_fldK (pv 0) rfl)) (pss_cons (ps_fld (pv 0) (pe_lst pa_nil) rfl) (pss_cons (ps_fldaug (pv 0) (pe_callB (r := rLenQ K) cr_lenQ (by rfl) T.n_len (by decide +kernel) (pa_cons (pv 1) pa_nil)) in_add) (pss_one (ps_ret (pv 1))))))), ?_⟩
    have S : Sx (fun a => a = p_self ∨ a = q_opened) F0 H0 F0 H0 := Sx.refl hE (by
        rintro a (rfl | rfl)
        · rw [w_self.at_]; exact (fun h => nomatch h)
        · rw [w_opened.at_]; exact (fun h => nomatch h))
    unfold m_Gluer_finish at hm
    refine rd_seq ?_
    refine rd_asg ?_
    refine rd_fld ?_
    refine rd_v rfl ?_
    refine fd_at w_self.at_ T.c_Gluer T.na_Gluer_opened (by rfl) ?_
    refine rd_gn ?_
    refine rd_seq ?_
    refine rd_sfld ?_
    refine rd_lst ?_
    refine rd_nil ?_
    refine rd_lK rfl ?_
    refine al S (fun p1 H2 np3 c4 w5 => ?_)
    have r6 : Row (q2 (qO qI) (qL qS)) K F0 [] ([] : List ((Option Int) × (List Str))) := .nil
    have ne7 : p_self ≠ p1 := w_self.ne np3
    have ne8 : q_opened ≠ p1 := w_opened.ne np3
    have z9 := S.free0 np3
    have S10 := S.call0 c4
    have f_rule := qRule.mono c4.le f_rule
    have w_self := w_self.call0 c4
    have r_opened := Row.mono c4.le r_opened
    have w_opened := w_opened.call0 c4
    refine rd_v rfl ?_
    refine fset (fs' := [("rule", u_rule), ("opened", (V.ref p1)), ("given", (V.int (a_self.2.2)))]) S10 w_self T.c_Gluer T.na_Gluer_opened (by rfl) (by rfl) (fun H11 c12 w13 => ?_)
    have S14 := S10.call1 c12 w_self
    have f_rule := qRule.mono c12.le f_rule
    have r_opened := Row.mono c12.le r_opened
    have w_opened := w_opened.call c12 (by intro z; exact n_opened z)
    have r6 := Row.mono c12.le r6
    have w5 := w5.call c12 (by intro z; exact (Ne.symm ne7) z)
    refine rd_seq ?_
    refine rd_faug ?_
    refine rd_v rfl ?_
    refine fa_at w13.at_ T.c_Gluer T.na_Gluer_given (by rfl) ?_
    refine rd_cb ?_
    refine rd_cons ?_
    refine rd_v rfl ?_
    refine rd_nil ?_
    refine rd_lenQ (w_opened.l r_opened).r.q ?_
    refine fa_set (fs' := [("rule", u_rule), ("opened", (V.ref p1)), ("given", (V.int ((a_self.2.2 + ((a_self.2.1).length : Int)))))]) S14 w13 (by rfl) (by rfl) (fun H15 c16 w17 => ?_)
    have S18 := S14.call1 c16 w13
    have f_rule := qRule.mono c16.le f_rule
    have r_opened := Row.mono c16.le r_opened
    have w_opened := w_opened.call c16 (by intro z; exact n_opened z)
    have r6 := Row.mono c16.le r6
    have w5 := w5.call c16 (by intro z; exact (Ne.symm ne7) z)
    cases hm
    refine rd_ret ?_
    refine rd_v rfl ?_
    exact hQ _ _ _ _ _ _ S18 w17 w5 r6 (Ne.symm ne7) w_opened r_opened n_opened ne8
def sp_Gluer_waiting (K : PySem.W.Frag) : Sp := fun vs H Q _ => ∃ (F : Hp) (p_self : Addr) (dx : Addr) (u_rule : V) (q_opened : Addr) (vs_opened : List V) (a_self : ((List Pat × List Pat × List (Str × Th)) × (List ((Option Int) × (List Str))) × Int)) (r : (List ((Option Int) × (List Str)))), vs = [.ref p_self] ∧ Same F H ∧ Ow (fun a => a = p_self ∨ a = q_opened) H F H p_self (.ins (He.ga K "Gluer") dx [("rule", u_rule), ("opened", V.ref q_opened), ("given", (V.int (a_self.2.2)))]) ∧ qRule.r K F u_rule a_self.1 ∧ Ow (fun a => a = p_self ∨ a = q_opened) H F H q_opened (.lst vs_opened) ∧ Row (q2 (qO qI) (qL qS)) K F vs_opened a_self.2.1 ∧ q_opened ≠ p_self ∧ m_Gluer_waiting a_self = some r ∧ ∀ p us F' H', H p = none → Sx P0 F H F' H' → Ow (fun a => a = p) H F' H' p (.lst us) → Row (q2 (qO qI) (qL qS)) K F' us r → Q (.ref p) H'
theorem sc_Gluer_waiting : FnScope ["self", "tag", "things"] ["self"] (defScope s_Gluer_waiting) := ⟨rfl, rfl, rfl, by decide +kernel, rfl, by decide +kernel, by decide +kernel⟩
theorem bn_Gluer_waiting (T : Tx K mg) : Binds K (fdOf K ("Gluer", some "waiting")) ["self"] [] := FunD.bindsN T.F_Gluer_waiting fun _ _ _ _ _ _ us hl => match us, hl with | [_], _ => rfl
theorem ok_Gluer_waiting (T : Tx K mg) : FnOk P w K mg base CX0 1 (He.fAd K ("Gluer", some "waiting")) (fdOf K ("Gluer", some "waiting")) ["self"] (sp_Gluer_waiting K) := by
  refine FunD.ok T.F_Gluer_waiting sc_Gluer_waiting (fun vs H0 Q E h => ?_) (fun cdv A outer s H0 vs Q E hr h => ?_)
  · obtain ⟨_, _, _, _, _, _, _, _, rfl, _⟩ := h
    rfl
  · obtain ⟨F0, p_self, dx, u_rule, q_opened, vs_opened, a_self, r, rfl, hE, w_self, f_rule, w_opened, r_opened, n_opened, hm, hQ⟩ := h
    refine ⟨_, PSs.nox ((pss_one (ps_ret (pe_lc (own := [("tag", 1), ("things", 2)]) (tt := tYes) rfl sc_Gluer_waiting.nd (pi_listK (pe_fldK (pv 0) rfl)) (blkOk_by (N := ["self", "tag", "things"]) (sc := defScope s_Gluer_waiting) (by decide +kernel)) (fun _ _ _ _ _ => pg_tupK (n := 2) rfl (pgs_cons (pg_name (i := 1) sc_Gluer_waiting.nd rfl (Or.inl rfl)) (pgs_cons (pg_name (i := 2) sc_Gluer_waiting.nd rfl (Or.inl rfl)) pgs_nil))) (fun _ _ _ _ _ => pts_nil) (fun _ _ _ _ _ => (pe_tup (pa_cons (pv 1) (pa_cons (pe_callTy (r := rListQ K) cr_listQ (by rfl) T.n_list (by decide +kernel) (pa_cons (pv 2) pa_nil)) pa_nil)))))))), ?_⟩
    have S : Sx P0 F0 H0 F0 H0 := Sx.refl0 hE
    unfold m_Gluer_waiting at hm
    refine rd_ret ?_
    refine rd_lc ?_
    refine rd_iL ?_
    refine rd_fld ?_
    refine rd_v rfl ?_
    refine fd_at w_self.at_ T.c_Gluer T.na_Gluer_opened (by rfl) ?_
    refine rd_wLO w_opened (fun hq1 => ?_)
    obtain ⟨g2, hm⟩ := gd_some hm
    obtain ⟨t3, e4, hm⟩ := bd_some hm
    refine rd_comp (B := (q2 (qO qI) (qL qS))) feedsL (typedRow r_opened) e4 g2 (Pc := P0) (fun _ z => z.elim) S.sub (fun (s5 : Unit) F H => True) ?_ ?_ ?_ ?_ ?_ ?_
    · intro _ _ _ S6 _
      exact (sx_lst S6 w_opened)
    · trivial
    · intros; trivial
    · intros; trivial
    · skip
      intro x7 v8 s9 o10 F11 H12 d13 acc14 f15 S16 w17 w18 n19 hm20 E21 N22 hN23 hE24
      have f_rule := qRule.mono S16.le f_rule
      have w_self := w_self.call0 S16
      have r_opened := Row.mono S16.le r_opened
      have w_opened := w_opened.call0 S16
      have S25 := Sx.refl0 S16.sub
      unfold m_Gluer_waiting_b1 at hm20
      have f15 := (q2 (qO qI) (qL qS)).mono S16.le f15
      refine rd_gun2 S25 f15 (fun u26 u27 f28 f29 => ?_)
      have f28 : (qO qI).r K F11 u26 (x7).1 := f28
      have f29 : (qL qS).r K F11 u27 (x7).2 := f29
      refine rd_gc ?_
      refine rd_gn ?_
      refine rd_gc ?_
      refine rd_gn ?_
      refine rd_gl ?_
      refine rd_wp rfl ?_
      refine rd_yes ?_
      refine if_tt ?_
      refine rd_tup ?_
      refine rd_cons ?_
      refine rd_v rfl ?_
      refine rd_cons ?_
      refine rd_cb ?_
      refine rd_cons ?_
      refine rd_v rfl ?_
      refine rd_nil ?_
      refine rd_listQ (S25.l f29).r.q ?_
      refine alL' S25 (fun v30 F31 H32 c33 f34 => ?_)
      have S35 := S25.call0 c33
      have f28 := (qO qI).mono c33.le f28
      have f29 := (qL qS).mono c33.le f29
      have f_rule := qRule.mono c33.le f_rule
      have w_self := w_self.call0 c33
      have r_opened := Row.mono c33.le r_opened
      have w_opened := w_opened.call0 c33
      refine rd_nil ?_
      refine rd_uK rfl ?_
      refine alF S35 (fun p36 F37 H38 c39 h40 => ?_)
      have S41 := S35.call0 c39
      have f28 := (qO qI).mono c39.le f28
      have f29 := (qL qS).mono c39.le f29
      have f34 := (qL qS).mono c39.le f34
      have f_rule := qRule.mono c39.le f_rule
      have w_self := w_self.call0 c39
      have r_opened := Row.mono c39.le r_opened
      have w_opened := w_opened.call0 c39
      have f42 : (q2 (qO qI) (qL qS)).r K F37 (.ref p36) ((x7).1, (x7).2) := ⟨p36, _, _, rfl, .inl (.inl h40), f28, f34⟩
      cases hm20
      exact hN23 _ _ _ _ rfl S41 f42 trivial
    intro p43 us44 F45 H46 n47 c48 w49 w50 r51
    have z52 := S.free0 n47
    have ne53 : p_self ≠ p43 := w_self.ne n47
    have ne54 : q_opened ≠ p43 := w_opened.ne n47
    have S55 := S.call0 c48
    have f_rule := qRule.mono c48.le f_rule
    have w_self := w_self.call0 c48
    have r_opened := Row.mono c48.le r_opened
    have w_opened := w_opened.call0 c48
    have w56 : Ow P0 H0 _ _ _ _ := ⟨w50.fr, w50.at_, .inl z52⟩
    cases hm
    exact hQ _ _ _ _ z52 S55 ⟨w56.fr, w56.at_, .inr rfl⟩ r51
def sp_law_right (K : PySem.W.Frag) : Sp := fun vs H Q _ => ∃ (F : Hp) (v__law_rule_here : V) (a__law_rule_here : ((List (Str × (List Str) × (List Str))) × (List (Str × (List Str) × (List Str))) × (Option Int) × Bool × (Option Int) × Bool)) (v__law_rows : V) (a__law_rows : (List (Int × Str))) (r : Bool), vs = [v__law_rule_here, v__law_rows] ∧ Same F H ∧ (qLr (fc (qL (qLr (fc qS (fc (qL qS) (f1 (qL qS)))))) (fc (qL (qLr (fc qS (fc (qL qS) (f1 (qL qS)))))) (fc (qO qI) (fc qB (fc (qO qI) (f1 qB))))))).r K F v__law_rule_here a__law_rule_here ∧ (qL (q2 qI qS)).r K F v__law_rows a__law_rows ∧ m_law_right a__law_rule_here a__law_rows = some r ∧ ∀ v F' H', Sx P0 F H F' H' → qB.r K F' v r → Q v H'
theorem sc_law_right : FnScope ["_law_rule_here", "_law_rows", "_law_gluer", "_law_held", "_law_given", "_law_tag", "_law_line_here", "_law_due", "_law_told"] ["_law_rule_here", "_law_rows"] (defScope s_law_right) := ⟨rfl, rfl, rfl, by decide +kernel, rfl, by decide +kernel, by decide +kernel⟩
theorem bn_law_right (T : Tx K mg) : Binds K (fdOf K ("_law_right", none)) ["_law_rule_here", "_law_rows"] [] := FunD.bindsN T.F_law_right fun _ _ _ _ _ _ us hl => match us, hl with | [_, _], _ => rfl
theorem ok_law_right (T : Tx K mg) : FnOk P w K mg base CX0 11 (He.ga K "_law_right") (fdOf K ("_law_right", none)) ["_law_rule_here", "_law_rows"] (sp_law_right K) := by
  refine FunD.ok T.F_law_right sc_law_right (fun vs H0 Q E h => ?_) (fun cdv A outer s H0 vs Q E hr h => ?_)
  · obtain ⟨_, _, _, _, _, _, rfl, _⟩ := h
    rfl
  · obtain ⟨F0, v__law_rule_here, a__law_rule_here, v__law_rows, a__law_rows, r, rfl, hE, f__law_rule_here, f__law_rows, hm, hQ⟩ := h
    refine ⟨_, PSs.nox ((pss_cons (ps_set (i := 2) sc_law_right.nd rfl (by first | exact Or.inl rfl | exact Or.inr rfl) (pe_make T.mk_Gluer (ok_Gluer___init__ T) (hr.mono (by decide)) (by rfl) T.gc_Gluer (bn_Gluer___init__ T) .nil pass0 (pa_cons (pe_call (ok_law_ruled T) (hr.mono (by decide)) (by rfl) T.g_law_ruled T.F_law_ruled.kp (bn_law_ruled T) .nil pass0 (pa_cons (pv 0) pa_nil)) pa_nil))) (pss_cons (ps_set (i := 3) sc_law_right.nd rfl (by first | exact Or.inl rfl | exact Or.inr rfl) (pe_lst pa_nil)) (pss_cons (ps_set (i := 4) sc_law_right.nd rfl (by first | exact Or.inl rfl | exact Or.inr rfl) pe_int) (pss_cons (ps_for PassesOwn.never rfl (pi_listK (pv 1)) (pg_tupK (n := 2) rfl (pgs_cons (pg_name (i := 5) sc_law_right.nd rfl (by first | exact Or.inl rfl | exact Or.inr rfl)) (pgs_cons (pg_name (i := 6) sc_law_right.nd rfl (by first | exact Or.inl rfl | exact Or.inr rfl)) pgs_nil))) (pss_cons (ps_set (i := 7) sc_law_right.nd rfl (by first | exact Or.inl rfl | exact Or.inr rfl) (pe_call (ok_law_fed T) (hr.mono (by decide)) (by rfl) T.g_law_fed T.F_law_fed.kp (bn_law_fed T) .nil pass0 (pa_cons (pv 0) (pa_cons (pv 3) (pa_cons (pv 6) (pa_cons (pv 5) (pa_cons (pv 6) pa_nil))))))) (pss_cons (ps_set (i := 8) sc_law_right.nd rfl (by first | exact Or.inl rfl | exact Or.inr rfl) (pe_callOK (pv 2) T.me_Gluer___call__ (fn_in T.F_Gluer___call__) (ok_Gluer___call__ T) (hr.mono (by decide)) (bn_Gluer___call__ T) .nil pass0 (pa_cons (pv 6) (pa_cons (pv 5) pa_nil)))) (pss_cons (ps_set (i := 4) sc_law_right.nd rfl (by first | exact Or.inl rfl | exact Or.inr rfl) (pe_op op_add (pv 4) (pe_callB (r := rLenQ K) cr_lenQ (by rfl) T.n_len (by decide +kernel) (pa_cons (pv 7) pa_nil)))) (pss_cons (ps_if (PW.pt (pw_or (pt_not (pt_val (pe_callB (r := rIsi K) call_isi (by rfl) T.n_isinstance (by decide +kernel) (pa_cons (pv 8) (pa_cons (pe_bltn (v := V.ty "list") (by rfl) T.n_list (by decide +kernel) rfl) pa_nil))))) (pw_or (pt_cmpR (r := rNeD K) (op_neD hr.units) (pv 8) (pv 7) (nomark _)) (pw_or (pt_cmpR (r := rNeD K) (op_neD hr.units) (pe_meth0 (pv 2) T.c_Gluer T.me_Gluer_waiting (ok_Gluer_waiting T) (hr.mono (by decide)) (bn_Gluer_waiting T) .nil pass0) (pv 3) (nomark _)) (pw_or1 (pt_cmpR op_neI (pe_prop (pv 2) T.c_Gluer T.pr_Gluer_many.p (ok_Gluer_many T) (hr.mono (by decide)) (bn_Gluer_many T) .nil pass0 rfl) (pv 4) (nomark _))))))) (pss_one (ps_ret pe_bl)) pss_nil) (pss_one (ps_if (PW.pt (pw_and (pt_cmpR op_gt (pe_ix (r := rIxL K) ix_list (pv 0) pe_int (fun _ _ => rfl)) pe_int (nomark _)) (pw_and1 (pt_cmpR op_gt (pe_callB (r := rLenQ K) cr_lenQ (by rfl) T.n_len (by decide +kernel) (pa_cons (pe_meth0 (pv 2) T.c_Gluer T.me_Gluer_waiting (ok_Gluer_waiting T) (hr.mono (by decide)) (bn_Gluer_waiting T) .nil pass0) pa_nil)) (pe_ix (r := rIxL K) ix_list (pv 0) pe_int (fun _ _ => rfl)) (nomark _))))) (pss_one (ps_ret pe_bl)) pss_nil))))))) (pss_one (ps_ret (pe_and (pe_cmpR (r := rEqD K) (op_eqD hr.units) (pe_meth0 (pv 2) T.c_Gluer T.me_Gluer_finish (ok_Gluer_finish T) (hr.mono (by decide)) (bn_Gluer_finish T) .nil pass0) (pv 3) (nomark _)) (pe_one (pe_cmpR (r := rEqD K) (op_eqD hr.units) (pe_meth0 (pv 2) T.c_Gluer T.me_Gluer_waiting (ok_Gluer_waiting T) (hr.mono (by decide)) (bn_Gluer_waiting T) .nil pass0) (pe_lst pa_nil) (nomark _))))))))))), ?_⟩
    have S : Sx P0 F0 H0 F0 H0 := Sx.refl0 hE
    unfold m_law_right at hm
    obtain ⟨t1, e2, hm⟩ := bd_some hm
    refine rd_seq ?_
    refine rd_asg ?_
    refine rd_make ?_
    refine rd_cons ?_
    refine rd_call ?_
    refine rd_cons ?_
    refine rd_v rfl ?_
    refine rd_nil ?_
    refine ⟨F0, _, _, t1, rfl, S.sub, f__law_rule_here, e2, fun v6 F3 H4 c5 f7 => ?_⟩
    have S8 := S.call0 c5
    have f__law_rule_here := (qLr (fc (qL (qLr (fc qS (fc (qL qS) (f1 (qL qS)))))) (fc (qL (qLr (fc qS (fc (qL qS) (f1 (qL qS)))))) (fc (qO qI) (fc qB (fc (qO qI) (f1 qB))))))).mono c5.le f__law_rule_here
    have f__law_rows := (qL (q2 qI qS)).mono c5.le f__law_rows
    obtain ⟨t9, e10, hm⟩ := bd_some hm
    refine rd_nil ?_
    refine new_Gluer S8 f7 e10 (fun g11 dx12 u18 q20 us21 F13 H14 hn15 c16 w17 f19 hn22 w23 r24 ne25 => ?_)
    have z26 := S8.free0 hn15
    have z27 := S8.free0 hn22
    have S28 := S8.call0 c16
    have f__law_rule_here := (qLr (fc (qL (qLr (fc qS (fc (qL qS) (f1 (qL qS)))))) (fc (qL (qLr (fc qS (fc (qL qS) (f1 (qL qS)))))) (fc (qO qI) (fc qB (fc (qO qI) (f1 qB))))))).mono c16.le f__law_rule_here
    have f__law_rows := (qL (q2 qI qS)).mono c16.le f__law_rows
    have w29 : Ow P0 H0 _ _ _ _ := ⟨w17.fr, w17.at_, .inl z26⟩
    have w30 : Ow P0 H0 _ _ _ _ := ⟨w23.fr, w23.at_, .inl z27⟩
    refine rd_gn ?_
    refine rd_seq ?_
    refine rd_asg ?_
    refine rd_lst ?_
    refine rd_nil ?_
    refine rd_lK rfl ?_
    refine al S28 (fun p31 H32 np33 c34 w35 => ?_)
    have r36 : Row (q2 (qO qI) (qL qS)) K F13 [] ([] : List ((Option Int) × (List Str))) := .nil
    have ne37 : g11 ≠ p31 := w29.ne np33
    have ne38 : q20 ≠ p31 := w30.ne np33
    have z39 := S28.free0 np33
    have S40 := S28.call0 c34
    have f__law_rule_here := (qLr (fc (qL (qLr (fc qS (fc (qL qS) (f1 (qL qS)))))) (fc (qL (qLr (fc qS (fc (qL qS) (f1 (qL qS)))))) (fc (qO qI) (fc qB (fc (qO qI) (f1 qB))))))).mono c34.le f__law_rule_here
    have f__law_rows := (qL (q2 qI qS)).mono c34.le f__law_rows
    have f19 := qRule.mono c34.le f19
    have w29 := w29.call0 c34
    have r24 := Row.mono c34.le r24
    have w30 := w30.call0 c34
    refine rd_gn ?_
    refine rd_seq ?_
    refine rd_asg ?_
    refine rd_c ?_
    refine rd_gn ?_
    refine rd_seq ?_
    refine rd_for ?_
    refine rd_iL ?_
    refine rd_v rfl ?_
    refine rd_wLF S40 (f__law_rows) (fun p41 vs42 hq43 row44 => ?_)
    obtain ⟨t45, e46, hm⟩ := bd_some hm
    refine rd_forC feedsL (typedRow row44) e46 (fun (s47 : ((List ((Option Int) × (List Str))) × ((List ((Option Int) × (List Str))) × Int) × Int)) σ H => ∃ (F : Hp) (o5 : Option V) (o6 : Option V) (o7 : Option V) (o8 : Option V) (q1_1 : Addr) (vs1_1 : List V) (vs0 : List V), σ = [some v__law_rule_here, some v__law_rows, some (V.ref g11), some (V.ref p31), some (V.int (s47.2.2)), o5, o6, o7, o8] ∧ Sx (fun a => a = p31 ∨ a = g11 ∨ a = q20) F13 H32 F H ∧ Ow (fun a => a = p31 ∨ a = g11 ∨ a = q20) H32 F H g11 (.ins (He.ga K "Gluer") dx12 [("rule", u18), ("opened", V.ref q1_1), ("given", (V.int (s47.2.1.2)))]) ∧ Ow (fun a => a = p31 ∨ a = g11 ∨ a = q20) H32 F H q1_1 (.lst vs1_1) ∧ Row (q2 (qO qI) (qL qS)) K F vs1_1 s47.2.1.1 ∧ q1_1 ≠ g11 ∧ p31 ≠ q1_1 ∧ Ow (fun a => a = p31 ∨ a = g11 ∨ a = q20) H32 F H p31 (.lst vs0) ∧ Row (q2 (qO qI) (qL qS)) K F vs0 s47.1) ?_ ?_ ?_ ?_
    · rintro _ _ _ ⟨_, _, _, _, _, _, _, _, _, S48, _, _, _, _, _, _, _⟩
      exact (Same.seq S48.sub (Same.seq S48.le hq43))
    · skip
      have S49 : Sx (fun a => a = p31 ∨ a = g11 ∨ a = q20) _ _ _ _ := Sx.refl S40.sub (by
          rintro a (rfl | rfl | rfl)
          · rw [w35.at_]; exact (fun h => nomatch h)
          · rw [w29.at_]; exact (fun h => nomatch h)
          · rw [w30.at_]; exact (fun h => nomatch h))
      have w50 : Ow (fun a => a = p31 ∨ a = g11 ∨ a = q20) H32 _ _ _ _ := ⟨w35.fr, w35.at_, .inr (Or.inl rfl)⟩
      have w51 : Ow (fun a => a = p31 ∨ a = g11 ∨ a = q20) H32 _ _ _ _ := ⟨w29.fr, w29.at_, .inr (Or.inr (Or.inl rfl))⟩
      have w52 : Ow (fun a => a = p31 ∨ a = g11 ∨ a = q20) H32 _ _ _ _ := ⟨w30.fr, w30.at_, .inr (Or.inr (Or.inr (rfl)))⟩
      exact ⟨F13, _, _, _, _, _, _, _, rfl, S49, w51, w52, r24, ne25, (Ne.symm ne38), w50, r36⟩
    · skip
      rintro x53 v54 s55 c59 σ56 H57 f58 ⟨F60, o62, o63, o64, o65, q66, v67, v68, rfl, S61, r69, r70, r71, r72, r73, w74, r75⟩ hm78 hbk76 hrt77
      have f__law_rule_here := (qLr (fc (qL (qLr (fc qS (fc (qL qS) (f1 (qL qS)))))) (fc (qL (qLr (fc qS (fc (qL qS) (f1 (qL qS)))))) (fc (qO qI) (fc qB (fc (qO qI) (f1 qB))))))).mono S61.le f__law_rule_here
      have f__law_rows := (qL (q2 qI qS)).mono S61.le f__law_rows
      have f19 := qRule.mono S61.le f19
      unfold m_law_right_b1 at hm78
      have f58 := (q2 qI qS).mono S61.le f58
      refine rd_gun2 S61 f58 (fun u79 u80 f81 f82 => ?_)
      cases (show u79 = (V.int ((x53).1)) from f81)
      cases (show u80 = (V.str ((x53).2)) from f82)
      have f83 : (qO qI).r K F60 (V.int ((x53).1)) (some (x53).1) := (show (qO qI).r K F60 (V.int ((x53).1)) (some (x53).1) from rfl)
      obtain ⟨t84, e85, hm78⟩ := bd_some hm78
      refine rd_gc ?_
      refine rd_gn ?_
      refine rd_gc ?_
      refine rd_gn ?_
      refine rd_gl ?_
      refine rd_seq ?_
      refine rd_asg ?_
      refine rd_call ?_
      refine rd_cons ?_
      refine rd_v rfl ?_
      refine rd_cons ?_
      refine rd_v rfl ?_
      refine rd_cons ?_
      refine rd_v rfl ?_
      refine rd_cons ?_
      refine rd_v rfl ?_
      refine rd_cons ?_
      refine rd_v rfl ?_
      refine rd_nil ?_
      refine ⟨F60, _, _, _, _, (s55.1), _, _, _, _, t84, rfl, S61.sub, f__law_rule_here, w74.arg, r75, f83, e85, fun v89 F86 H87 us91 c88 w92 r93 f90 => ?_⟩
      have S94 := S61.call1 c88 w74
      have f__law_rule_here := (qLr (fc (qL (qLr (fc qS (fc (qL qS) (f1 (qL qS)))))) (fc (qL (qLr (fc qS (fc (qL qS) (f1 (qL qS)))))) (fc (qO qI) (fc qB (fc (qO qI) (f1 qB))))))).mono c88.le f__law_rule_here
      have f__law_rows := (qL (q2 qI qS)).mono c88.le f__law_rows
      have f19 := qRule.mono c88.le f19
      have r69 := r69.call c88 (by intro z; exact ne37 z)
      have r71 := Row.mono c88.le r71
      have r70 := r70.call c88 (by intro z; exact (Ne.symm r73) z)
      have w95 := w74.back w92
      have f96 : (qO qI).r K F86 (V.int ((x53).1)) (some (x53).1) := (show (qO qI).r K F86 (V.int ((x53).1)) (some (x53).1) from rfl)
      obtain ⟨t97, e98, hm78⟩ := bd_some hm78
      refine rd_gn ?_
      refine rd_seq ?_
      refine rd_asg ?_
      refine rd_callO ?_
      refine rd_v rfl ?_
      refine co_at ?_
      refine rd_cons ?_
      refine rd_v rfl ?_
      refine rd_cons ?_
      refine rd_v rfl ?_
      refine rd_nil ?_
      refine co_in r69.at_ ?_
      refine ⟨F86, _, _, _, _, _, ((t9.1, s55.2.1.1, s55.2.1.2)), _, _, _, t97, rfl, S94.sub, ⟨r69.fr, r69.at_, .inr (Or.inl rfl)⟩, f19, ⟨r70.fr, r70.at_, .inr (Or.inr (rfl))⟩, r71, r72, f96, e98, fun p102 us103 F99 H100 q109 vs110 c101 w108 w111 r112 ne113 w104 r105 ne106 ne114 np107 => ?_⟩
      have ne115 : p31 ≠ p102 := w104.mine.elim (fun h => w95.ne h) (by rintro (rfl | rfl); exact (Ne.symm ne37); exact r73)
      have z116 := S94.free0 np107
      have ne117 : p31 ≠ q109 := w111.mine.elim (fun h => w95.ne h) (by rintro (rfl | rfl); exact (Ne.symm ne37); exact r73)
      have S118 := S94.call c101 (by
          rintro a (rfl | rfl)
          · exact r69.mine.symm
          · exact r70.mine.symm)
      have f__law_rule_here := (qLr (fc (qL (qLr (fc qS (fc (qL qS) (f1 (qL qS)))))) (fc (qL (qLr (fc qS (fc (qL qS) (f1 (qL qS)))))) (fc (qO qI) (fc qB (fc (qO qI) (f1 qB))))))).mono c101.le f__law_rule_here
      have f__law_rows := (qL (q2 qI qS)).mono c101.le f__law_rows
      have f90 := (qL (q2 (qO qI) (qL qS))).mono c101.le f90
      have f19 := qRule.mono c101.le f19
      have w119 : Ow (fun a => a = p31 ∨ a = g11 ∨ a = q20) H32 _ _ _ _ := ⟨w108.fr, w108.at_, r69.mine⟩
      have r93 := Row.mono c101.le r93
      have w95 := w95.call c101 (by
          rintro (z | z)
          · exact (Ne.symm ne37) z
          · exact r73 z)
      have w120 : Ow (fun a => a = p31 ∨ a = g11 ∨ a = q20) H32 _ _ _ _ := ⟨w111.fr, w111.at_, w111.mine.elim (fun z => .inl (S94.free0 z)) (by rintro (rfl | rfl) ; exact r69.mine; exact r70.mine)⟩
      have w121 : Ow (fun a => a = p31 ∨ a = g11 ∨ a = q20) H32 _ _ _ _ := ⟨w104.fr, w104.at_, w104.mine.elim (fun z => .inl (S94.free0 z)) (by rintro (rfl | rfl) ; exact r69.mine; exact r70.mine)⟩
      obtain ⟨F122, S123, le124, f125, _, eq126⟩ := fz S118 w121 z116 r105
      have f__law_rule_here := (qLr (fc (qL (qLr (fc qS (fc (qL qS) (f1 (qL qS)))))) (fc (qL (qLr (fc qS (fc (qL qS) (f1 (qL qS)))))) (fc (qO qI) (fc qB (fc (qO qI) (f1 qB))))))).mono le124 f__law_rule_here
      have f__law_rows := (qL (q2 qI qS)).mono le124 f__law_rows
      have f90 := (qL (q2 (qO qI) (qL qS))).mono le124 f90
      have f19 := qRule.mono le124 f19
      have w119 := w119.fzO (Ne.symm ne106) eq126
      have r93 := Row.mono le124 r93
      have w95 := w95.fzO ne115 eq126
      have r112 := Row.mono le124 r112
      have w120 := w120.fzO (Ne.symm ne114) eq126
      obtain ⟨g127, hm78⟩ := gd_some hm78
      obtain ⟨g128, hm78⟩ := gd_some hm78
      obtain ⟨t180, e181, hm78⟩ := bd_some hm78
      refine rd_gn ?_
      refine rd_seq ?_
      refine rd_asg ?_
      refine rd_op ?_
      refine rd_v rfl ?_
      refine rd_cb ?_
      refine rd_cons ?_
      refine rd_v rfl ?_
      refine rd_nil ?_
      refine rd_lenQ (S123.l f90).r.q ?_
      refine rd_I0 ?_
      refine rd_gn ?_
      refine rd_seq ?_
      refine rd_ifS ?_
      refine rd_or ?_
      refine rd_not ?_
      refine rd_tB ?_
      refine rd_cb ?_
      refine rd_cons ?_
      refine rd_v rfl ?_
      refine rd_cons ?_
      refine rd_c ?_
      refine rd_nil ?_
      refine rd_isi (b := true) (tx_list (S123.l f125).r) (by decide +kernel) ?_
      refine rd_b ?_
      refine if_ff ?_
      refine rd_or ?_
      refine rd_test ?_
      refine rd_op ?_
      refine rd_v rfl ?_
      refine rd_v rfl ?_
      refine rd_neD (D := (dL (d2 (dO dI) (dL dS)))) (S123.d (dL (d2 (dO dI) (dL dS))) f125) (S123.d (dL (d2 (dO dI) (dL dS))) f90) g127 g128 ?_
      refine rd_b ?_
      refine or_j (fun c H' => c = t180 ∧ ∃ F', Sx P0 F122 H100 F' H') ?_ ?_ ?_
      · intro b182 Q183 q184
        have e181 := if_f e181 b182
        have S185 := Sx.refl0 S123.sub
        refine rd_or ?_
        refine rd_test ?_
        refine rd_op ?_
        refine rd_meth ?_
        refine rd_v rfl ?_
        refine mt_at w119.at_ (by rfl) ?_
        obtain ⟨t186, e187, e181⟩ := bd_some e181
        refine rd_nil ?_
        refine ⟨F122, _, _, _, _, _, ((t9.1, t97.2.1, t97.2.2)), t186, rfl, S185.sub, ⟨w119.fr, w119.at_, .inr (Or.inl rfl)⟩, f19, ⟨w120.fr, w120.at_, .inr (Or.inr (rfl))⟩, r112, ne113, e187, fun p191 us192 F188 H189 np193 c190 w194 r195 => ?_⟩
        have ne196 : g11 ≠ p191 := w119.ne np193
        have ne197 : p31 ≠ p191 := w95.ne np193
        have ne198 : q109 ≠ p191 := w120.ne np193
        have z199 := S185.free0 np193
        have S200 := S185.call0 c190
        have f__law_rule_here := (qLr (fc (qL (qLr (fc qS (fc (qL qS) (f1 (qL qS)))))) (fc (qL (qLr (fc qS (fc (qL qS) (f1 (qL qS)))))) (fc (qO qI) (fc qB (fc (qO qI) (f1 qB))))))).mono c190.le f__law_rule_here
        have f__law_rows := (qL (q2 qI qS)).mono c190.le f__law_rows
        have f90 := (qL (q2 (qO qI) (qL qS))).mono c190.le f90
        have f125 := (qL (q2 (qO qI) (qL qS))).mono c190.le f125
        have f19 := qRule.mono c190.le f19
        have w119 := w119.call0 c190
        have r93 := Row.mono c190.le r93
        have w95 := w95.call0 c190
        have r112 := Row.mono c190.le r112
        have w120 := w120.call0 c190
        have w201 : Ow P0 H100 _ _ _ _ := ⟨w194.fr, w194.at_, .inl z199⟩
        obtain ⟨F202, S203, le204, f205, _, eq206⟩ := fz S200 w201 z199 r195
        have f__law_rule_here := (qLr (fc (qL (qLr (fc qS (fc (qL qS) (f1 (qL qS)))))) (fc (qL (qLr (fc qS (fc (qL qS) (f1 (qL qS)))))) (fc (qO qI) (fc qB (fc (qO qI) (f1 qB))))))).mono le204 f__law_rule_here
        have f__law_rows := (qL (q2 qI qS)).mono le204 f__law_rows
        have f90 := (qL (q2 (qO qI) (qL qS))).mono le204 f90
        have f125 := (qL (q2 (qO qI) (qL qS))).mono le204 f125
        have f19 := qRule.mono le204 f19
        have w119 := w119.fzO ne196 eq206
        have r93 := Row.mono le204 r93
        have w95 := w95.fzO ne197 eq206
        have r112 := Row.mono le204 r112
        have w120 := w120.fzO ne198 eq206
        obtain ⟨g207, e181⟩ := gd_some e181
        obtain ⟨g208, e181⟩ := gd_some e181
        obtain ⟨t217, e218, e181⟩ := bd_some e181
        refine rd_v rfl ?_
        refine rd_neD (D := (dL (d2 (dO dI) (dL dS)))) (S203.d (dL (d2 (dO dI) (dL dS))) f205) (w95.dS S203.sub (d2 (dO dI) (dL dS)) r93) g207 g208 ?_
        refine rd_b ?_
        refine or_j (fun c H' => c = t217 ∧ ∃ F', Sx P0 F202 H189 F' H') ?_ ?_ ?_
        · intro b219 Q220 q221
          have e218 := if_f e218 b219
          have S222 := Sx.refl0 S203.sub
          refine rd_test ?_
          refine rd_op ?_
          refine rd_prop ?_
          refine rd_v rfl ?_
          refine pr_at w119.at_ ?_
          obtain ⟨t223, e224, e218⟩ := bd_some e218
          refine ⟨F202, _, _, _, _, _, ((t9.1, t97.2.1, t97.2.2)), t223, rfl, S222.sub, ⟨w119.fr, w119.at_, .inr (Or.inl rfl)⟩, f19, ⟨w120.fr, w120.at_, .inr (Or.inr (rfl))⟩, r112, ne113, e224, fun v228 F225 H226 c227 f229 => ?_⟩
          have S230 := S222.call0 c227
          have f__law_rule_here := (qLr (fc (qL (qLr (fc qS (fc (qL qS) (f1 (qL qS)))))) (fc (qL (qLr (fc qS (fc (qL qS) (f1 (qL qS)))))) (fc (qO qI) (fc qB (fc (qO qI) (f1 qB))))))).mono c227.le f__law_rule_here
          have f__law_rows := (qL (q2 qI qS)).mono c227.le f__law_rows
          have f90 := (qL (q2 (qO qI) (qL qS))).mono c227.le f90
          have f125 := (qL (q2 (qO qI) (qL qS))).mono c227.le f125
          have f19 := qRule.mono c227.le f19
          have w119 := w119.call0 c227
          have r93 := Row.mono c227.le r93
          have w95 := w95.call0 c227
          have r112 := Row.mono c227.le r112
          have w120 := w120.call0 c227
          cases (show v228 = (V.int (t223)) from f229)
          cases e218
          refine rd_v rfl ?_
          refine rd_I0 ?_
          refine rd_b ?_
          exact q221 _ _ ⟨rfl, F225, S230⟩
        · intro b219
          have e218 := if_t e218 b219
          cases e218
          have S231 := Sx.refl0 S203.sub
          exact ⟨rfl, F202, S231⟩
        rintro b235 H233 ⟨rfl, F232, c234⟩
        have S236 := S203.call0 c234
        have f__law_rule_here := (qLr (fc (qL (qLr (fc qS (fc (qL qS) (f1 (qL qS)))))) (fc (qL (qLr (fc qS (fc (qL qS) (f1 (qL qS)))))) (fc (qO qI) (fc qB (fc (qO qI) (f1 qB))))))).mono c234.le f__law_rule_here
        have f__law_rows := (qL (q2 qI qS)).mono c234.le f__law_rows
        have f90 := (qL (q2 (qO qI) (qL qS))).mono c234.le f90
        have f125 := (qL (q2 (qO qI) (qL qS))).mono c234.le f125
        have f19 := qRule.mono c234.le f19
        have w119 := w119.call0 c234
        have r93 := Row.mono c234.le r93
        have w95 := w95.call0 c234
        have r112 := Row.mono c234.le r112
        have w120 := w120.call0 c234
        cases e181
        exact q184 _ _ ⟨rfl, F232, S236⟩
      · intro b182
        have e181 := if_t e181 b182
        cases e181
        have S237 := Sx.refl0 S123.sub
        exact ⟨rfl, F122, S237⟩
      rintro b241 H239 ⟨rfl, F238, c240⟩
      have S242 := S123.call0 c240
      have f__law_rule_here := (qLr (fc (qL (qLr (fc qS (fc (qL qS) (f1 (qL qS)))))) (fc (qL (qLr (fc qS (fc (qL qS) (f1 (qL qS)))))) (fc (qO qI) (fc qB (fc (qO qI) (f1 qB))))))).mono c240.le f__law_rule_here
      have f__law_rows := (qL (q2 qI qS)).mono c240.le f__law_rows
      have f90 := (qL (q2 (qO qI) (qL qS))).mono c240.le f90
      have f125 := (qL (q2 (qO qI) (qL qS))).mono c240.le f125
      have f19 := qRule.mono c240.le f19
      have w119 := w119.call0 c240
      have r93 := Row.mono c240.le r93
      have w95 := w95.call0 c240
      have r112 := Row.mono c240.le r112
      have w120 := w120.call0 c240
      refine if_b hm78 (fun b243 hm78 => ?_) (fun b243 hm78 => ?_)
      · skip
        cases hm78
        have e244 := hrt77 _ rfl
        subst e244
        have hm := aft_rt hm
        have S245 := S40.call S242 (by
            rintro a (rfl | rfl | rfl)
            · exact w35.mine.symm
            · exact w29.mine.symm
            · exact w30.mine.symm)
        have w246 : Ow P0 H0 _ _ _ _ := ⟨w119.fr, w119.at_, w29.mine⟩
        have w247 : Ow P0 H0 _ _ _ _ := ⟨w95.fr, w95.at_, w35.mine⟩
        have w248 : Ow P0 H0 _ _ _ _ := ⟨w120.fr, w120.at_, w120.mine.elim (fun z => .inl (S40.free0 z)) (by rintro (rfl | rfl | rfl) ; exact w35.mine; exact w29.mine; exact w30.mine)⟩
        cases hm
        refine rd_ret ?_
        refine rd_c ?_
        exact hQ _ _ _ S245 rfl
      · skip
        refine rd_next ?_
        refine rd_ifS ?_
        refine rd_and ?_
        refine rd_test ?_
        refine rd_op ?_
        refine rd_op ?_
        refine rd_v rfl ?_
        refine rd_c ?_
        refine rd_xLr (i := 4) S242 f__law_rule_here (raS (raS (raS (raS ra0)))) (fun _ _ _ _ r => by obtain ⟨u0, s_u0, rfl, _, u1, s_u1, rfl, _, u2, s_u2, rfl, _, u3, s_u3, rfl, _, u4, s_u4, rfl, _, u5, rfl, _⟩ := r; exact Nat.le_of_ble_eq_true rfl) (fun u249 f250 => ?_)
        have f250 : (qO qI).r K F238 u249 (a__law_rule_here).2.2.2.2.1 := f250
        obtain ⟨t251, e252, hm78⟩ := bd_some hm78
        have f253 := qO_some f250 e252
        cases (show u249 = (V.int (t251)) from f253)
        obtain ⟨t280, e281, hm78⟩ := bd_some hm78
        refine rd_c ?_
        refine rd_I0 ?_
        refine rd_b ?_
        refine and_j (fun c H' => c = t280 ∧ ∃ F', Sx P0 F238 H239 F' H') ?_ ?_ ?_
        · intro b282 Q283 q284
          have e281 := if_t e281 b282
          have S285 := Sx.refl0 S242.sub
          refine rd_test ?_
          refine rd_op ?_
          refine rd_cb ?_
          refine rd_cons ?_
          refine rd_meth ?_
          refine rd_v rfl ?_
          refine mt_at w119.at_ (by rfl) ?_
          obtain ⟨t286, e287, e281⟩ := bd_some e281
          refine rd_nil ?_
          refine ⟨F238, _, _, _, _, _, ((t9.1, t97.2.1, t97.2.2)), t286, rfl, S285.sub, ⟨w119.fr, w119.at_, .inr (Or.inl rfl)⟩, f19, ⟨w120.fr, w120.at_, .inr (Or.inr (rfl))⟩, r112, ne113, e287, fun p291 us292 F288 H289 np293 c290 w294 r295 => ?_⟩
          have ne296 : g11 ≠ p291 := w119.ne np293
          have ne297 : p31 ≠ p291 := w95.ne np293
          have ne298 : q109 ≠ p291 := w120.ne np293
          have z299 := S285.free0 np293
          have S300 := S285.call0 c290
          have f__law_rule_here := (qLr (fc (qL (qLr (fc qS (fc (qL qS) (f1 (qL qS)))))) (fc (qL (qLr (fc qS (fc (qL qS) (f1 (qL qS)))))) (fc (qO qI) (fc qB (fc (qO qI) (f1 qB))))))).mono c290.le f__law_rule_here
          have f__law_rows := (qL (q2 qI qS)).mono c290.le f__law_rows
          have f90 := (qL (q2 (qO qI) (qL qS))).mono c290.le f90
          have f125 := (qL (q2 (qO qI) (qL qS))).mono c290.le f125
          have f19 := qRule.mono c290.le f19
          have w119 := w119.call0 c290
          have r93 := Row.mono c290.le r93
          have w95 := w95.call0 c290
          have r112 := Row.mono c290.le r112
          have w120 := w120.call0 c290
          have w301 : Ow P0 H239 _ _ _ _ := ⟨w294.fr, w294.at_, .inl z299⟩
          obtain ⟨F302, S303, le304, f305, _, eq306⟩ := fz S300 w301 z299 r295
          have f__law_rule_here := (qLr (fc (qL (qLr (fc qS (fc (qL qS) (f1 (qL qS)))))) (fc (qL (qLr (fc qS (fc (qL qS) (f1 (qL qS)))))) (fc (qO qI) (fc qB (fc (qO qI) (f1 qB))))))).mono le304 f__law_rule_here
          have f__law_rows := (qL (q2 qI qS)).mono le304 f__law_rows
          have f90 := (qL (q2 (qO qI) (qL qS))).mono le304 f90
          have f125 := (qL (q2 (qO qI) (qL qS))).mono le304 f125
          have f19 := qRule.mono le304 f19
          have w119 := w119.fzO ne296 eq306
          have r93 := Row.mono le304 r93
          have w95 := w95.fzO ne297 eq306
          have r112 := Row.mono le304 r112
          have w120 := w120.fzO ne298 eq306
          refine rd_nil ?_
          refine rd_lenQ (S303.l f305).r.q ?_
          refine rd_op ?_
          refine rd_v rfl ?_
          refine rd_c ?_
          refine rd_xLr (i := 4) S303 f__law_rule_here (raS (raS (raS (raS ra0)))) (fun _ _ _ _ r => by obtain ⟨u0, s_u0, rfl, _, u1, s_u1, rfl, _, u2, s_u2, rfl, _, u3, s_u3, rfl, _, u4, s_u4, rfl, _, u5, rfl, _⟩ := r; exact Nat.le_of_ble_eq_true rfl) (fun u307 f308 => ?_)
          have f308 : (qO qI).r K F302 u307 (a__law_rule_here).2.2.2.2.1 := f308
          obtain ⟨t309, e310, e281⟩ := bd_some e281
          have f311 := qO_some f308 e310
          cases (show u307 = (V.int (t309)) from f311)
          cases e281
          refine rd_I0 ?_
          refine rd_b ?_
          exact q284 _ _ ⟨rfl, F302, S303⟩
        · intro b282
          have e281 := if_f e281 b282
          cases e281
          have S312 := Sx.refl0 S242.sub
          exact ⟨rfl, F238, S312⟩
        rintro b316 H314 ⟨rfl, F313, c315⟩
        have S317 := S242.call0 c315
        have f__law_rule_here := (qLr (fc (qL (qLr (fc qS (fc (qL qS) (f1 (qL qS)))))) (fc (qL (qLr (fc qS (fc (qL qS) (f1 (qL qS)))))) (fc (qO qI) (fc qB (fc (qO qI) (f1 qB))))))).mono c315.le f__law_rule_here
        have f__law_rows := (qL (q2 qI qS)).mono c315.le f__law_rows
        have f90 := (qL (q2 (qO qI) (qL qS))).mono c315.le f90
        have f125 := (qL (q2 (qO qI) (qL qS))).mono c315.le f125
        have f19 := qRule.mono c315.le f19
        have w119 := w119.call0 c315
        have r93 := Row.mono c315.le r93
        have w95 := w95.call0 c315
        have r112 := Row.mono c315.le r112
        have w120 := w120.call0 c315
        refine if_b hm78 (fun b318 hm78 => ?_) (fun b318 hm78 => ?_)
        · skip
          cases hm78
          have e319 := hrt77 _ rfl
          subst e319
          have hm := aft_rt hm
          have S320 := S40.call S317 (by
              rintro a (rfl | rfl | rfl)
              · exact w35.mine.symm
              · exact w29.mine.symm
              · exact w30.mine.symm)
          have w321 : Ow P0 H0 _ _ _ _ := ⟨w119.fr, w119.at_, w29.mine⟩
          have w322 : Ow P0 H0 _ _ _ _ := ⟨w95.fr, w95.at_, w35.mine⟩
          have w323 : Ow P0 H0 _ _ _ _ := ⟨w120.fr, w120.at_, w120.mine.elim (fun z => .inl (S40.free0 z)) (by rintro (rfl | rfl | rfl) ; exact w35.mine; exact w29.mine; exact w30.mine)⟩
          cases hm
          refine rd_ret ?_
          refine rd_c ?_
          exact hQ _ _ _ S320 rfl
        · skip
          cases hm78
          refine rd_next ?_
          exact ⟨_, rfl, ⟨F313, _, _, _, _, _, _, _, rfl, S317, w119, w120, r112, ne113, ne117, w95, r93⟩⟩
    · skip
      rintro s326 σ324 H325 e327 ⟨F328, o330, o331, o332, o333, q334, v335, v336, rfl, S329, r337, r338, r339, r340, r341, w342, r343⟩
      subst e327
      have hm := aft_nx hm
      have S344 := S40.call S329 (by
          rintro a (rfl | rfl | rfl)
          · exact w35.mine.symm
          · exact w29.mine.symm
          · exact w30.mine.symm)
      have f__law_rule_here := (qLr (fc (qL (qLr (fc qS (fc (qL qS) (f1 (qL qS)))))) (fc (qL (qLr (fc qS (fc (qL qS) (f1 (qL qS)))))) (fc (qO qI) (fc qB (fc (qO qI) (f1 qB))))))).mono S329.le f__law_rule_here
      have f__law_rows := (qL (q2 qI qS)).mono S329.le f__law_rows
      have f19 := qRule.mono S329.le f19
      have w345 : Ow P0 H0 _ _ _ _ := ⟨r337.fr, r337.at_, w29.mine⟩
      have w346 : Ow P0 H0 _ _ _ _ := ⟨w342.fr, w342.at_, w35.mine⟩
      have w347 : Ow P0 H0 _ _ _ _ := ⟨r338.fr, r338.at_, r338.mine.elim (fun z => .inl (S40.free0 z)) (by rintro (rfl | rfl | rfl) ; exact w35.mine; exact w29.mine; exact w30.mine)⟩
      refine rd_ret ?_
      refine rd_andV ?_
      refine rd_op ?_
      refine rd_meth ?_
      refine rd_v rfl ?_
      refine mt_at w345.at_ (by rfl) ?_
      obtain ⟨t348, e349, hm⟩ := bd_some hm
      refine rd_nil ?_
      refine ⟨F328, _, _, _, _, _, ((t9.1, s326.2.1.1, s326.2.1.2)), t348, rfl, S344.sub, ⟨w345.fr, w345.at_, .inr (Or.inl rfl)⟩, f19, ⟨w347.fr, w347.at_, .inr (Or.inr (rfl))⟩, r339, r340, e349, fun p353 us354 F350 H351 q359 vs360 c352 w358 w361 r362 ne363 w355 r356 ne357 ne364 => ?_⟩
      have ne365 : p31 ≠ p353 := w355.mine.elim (fun h => w346.ne h) (by rintro (rfl | rfl); exact (Ne.symm ne37); exact r341)
      have ne366 : p31 ≠ q359 := w361.mine.elim (fun h => w346.ne h) (by rintro (rfl | rfl); exact (Ne.symm ne37); exact r341)
      have S367 := S344.call c352 (by
          rintro a (rfl | rfl)
          · exact w345.mine.symm
          · exact w347.mine.symm)
      have f__law_rule_here := (qLr (fc (qL (qLr (fc qS (fc (qL qS) (f1 (qL qS)))))) (fc (qL (qLr (fc qS (fc (qL qS) (f1 (qL qS)))))) (fc (qO qI) (fc qB (fc (qO qI) (f1 qB))))))).mono c352.le f__law_rule_here
      have f__law_rows := (qL (q2 qI qS)).mono c352.le f__law_rows
      have f19 := qRule.mono c352.le f19
      have w368 : Ow P0 H0 _ _ _ _ := ⟨w358.fr, w358.at_, w345.mine⟩
      have r343 := Row.mono c352.le r343
      have w346 := w346.call c352 (by
          rintro (z | z)
          · exact (Ne.symm ne37) z
          · exact r341 z)
      have w369 : Ow P0 H0 _ _ _ _ := ⟨w361.fr, w361.at_, w361.mine.elim (fun z => .inl (S344.free0 z)) (by rintro (rfl | rfl) ; exact w345.mine; exact w347.mine)⟩
      have w370 : Ow P0 H0 _ _ _ _ := ⟨w355.fr, w355.at_, w355.mine.elim (fun z => .inl (S344.free0 z)) (by rintro (rfl | rfl) ; exact w345.mine; exact w347.mine)⟩
      obtain ⟨g371, hm⟩ := gd_some hm
      obtain ⟨g372, hm⟩ := gd_some hm
      obtain ⟨t403, e404, hm⟩ := bd_some hm
      refine rd_v rfl ?_
      refine rd_eqD (D := (dL (d2 (dO dI) (dL dS)))) (w370.dS S367.sub (d2 (dO dI) (dL dS)) r356) (w346.dS S367.sub (d2 (dO dI) (dL dS)) r343) g371 g372 ?_
      refine rd_b ?_
      refine andV_j (fun c H' => c = V.bl t403 ∧ ∃ F', Sx P0 F350 H351 F' H') ?_ ?_ ?_
      · intro b405 Q406 q407
        have e404 := if_t e404 b405
        have S408 := Sx.refl0 S367.sub
        refine rd_op ?_
        refine rd_meth ?_
        refine rd_v rfl ?_
        refine mt_at w368.at_ (by rfl) ?_
        obtain ⟨t409, e410, e404⟩ := bd_some e404
        refine rd_nil ?_
        refine ⟨F350, _, _, _, _, _, ((t9.1, t348.2.1, t348.2.2)), t409, rfl, S408.sub, ⟨w368.fr, w368.at_, .inr (Or.inl rfl)⟩, f19, ⟨w369.fr, w369.at_, .inr (Or.inr (rfl))⟩, r362, ne363, e410, fun p414 us415 F411 H412 np416 c413 w417 r418 => ?_⟩
        have ne419 : g11 ≠ p414 := w368.ne np416
        have ne420 : p31 ≠ p414 := w346.ne np416
        have ne421 : q359 ≠ p414 := w369.ne np416
        have ne422 : p353 ≠ p414 := w370.ne np416
        have z423 := S408.free0 np416
        have S424 := S408.call0 c413
        have f__law_rule_here := (qLr (fc (qL (qLr (fc qS (fc (qL qS) (f1 (qL qS)))))) (fc (qL (qLr (fc qS (fc (qL qS) (f1 (qL qS)))))) (fc (qO qI) (fc qB (fc (qO qI) (f1 qB))))))).mono c413.le f__law_rule_here
        have f__law_rows := (qL (q2 qI qS)).mono c413.le f__law_rows
        have f19 := qRule.mono c413.le f19
        have w368 := w368.call0 c413
        have r343 := Row.mono c413.le r343
        have w346 := w346.call0 c413
        have r362 := Row.mono c413.le r362
        have w369 := w369.call0 c413
        have r356 := Row.mono c413.le r356
        have w370 := w370.call0 c413
        have w425 : Ow P0 H351 _ _ _ _ := ⟨w417.fr, w417.at_, .inl z423⟩
        obtain ⟨F426, S427, le428, f429, _, eq430⟩ := fz S424 w425 z423 r418
        have f__law_rule_here := (qLr (fc (qL (qLr (fc qS (fc (qL qS) (f1 (qL qS)))))) (fc (qL (qLr (fc qS (fc (qL qS) (f1 (qL qS)))))) (fc (qO qI) (fc qB (fc (qO qI) (f1 qB))))))).mono le428 f__law_rule_here
        have f__law_rows := (qL (q2 qI qS)).mono le428 f__law_rows
        have f19 := qRule.mono le428 f19
        have w368 := w368.fzO ne419 eq430
        have r343 := Row.mono le428 r343
        have w346 := w346.fzO ne420 eq430
        have r362 := Row.mono le428 r362
        have w369 := w369.fzO ne421 eq430
        have r356 := Row.mono le428 r356
        have w370 := w370.fzO ne422 eq430
        refine rd_lst ?_
        refine rd_nil ?_
        refine rd_lK rfl ?_
        refine alL (K := K) (A := (q2 (qO qI) (qL qS))) (xs := ([] : List ((Option Int) × (List Str)))) S427 .nil (fun v431 F432 H433 c434 f435 => ?_)
        have S436 := S427.call0 c434
        have f__law_rule_here := (qLr (fc (qL (qLr (fc qS (fc (qL qS) (f1 (qL qS)))))) (fc (qL (qLr (fc qS (fc (qL qS) (f1 (qL qS)))))) (fc (qO qI) (fc qB (fc (qO qI) (f1 qB))))))).mono c434.le f__law_rule_here
        have f__law_rows := (qL (q2 qI qS)).mono c434.le f__law_rows
        have f429 := (qL (q2 (qO qI) (qL qS))).mono c434.le f429
        have f19 := qRule.mono c434.le f19
        have w368 := w368.call0 c434
        have r343 := Row.mono c434.le r343
        have w346 := w346.call0 c434
        have r362 := Row.mono c434.le r362
        have w369 := w369.call0 c434
        have r356 := Row.mono c434.le r356
        have w370 := w370.call0 c434
        obtain ⟨g437, e404⟩ := gd_some e404
        obtain ⟨g438, e404⟩ := gd_some e404
        cases e404
        refine rd_eqD (D := (dL (d2 (dO dI) (dL dS)))) (S436.d (dL (d2 (dO dI) (dL dS))) f429) (S436.d (dL (d2 (dO dI) (dL dS))) f435) g437 g438 ?_
        exact q407 _ _ ⟨rfl, F432, S436⟩
      · intro b405
        have e404 := if_f e404 b405
        cases e404
        have S439 := Sx.refl0 S367.sub
        exact ⟨rfl, F350, S439⟩
      rintro b443 H441 ⟨rfl, F440, c442⟩
      have S444 := S367.call0 c442
      have f__law_rule_here := (qLr (fc (qL (qLr (fc qS (fc (qL qS) (f1 (qL qS)))))) (fc (qL (qLr (fc qS (fc (qL qS) (f1 (qL qS)))))) (fc (qO qI) (fc qB (fc (qO qI) (f1 qB))))))).mono c442.le f__law_rule_here
      have f__law_rows := (qL (q2 qI qS)).mono c442.le f__law_rows
      have f19 := qRule.mono c442.le f19
      have w368 := w368.call0 c442
      have r343 := Row.mono c442.le r343
      have w346 := w346.call0 c442
      have r362 := Row.mono c442.le r362
      have w369 := w369.call0 c442
      have r356 := Row.mono c442.le r356
      have w370 := w370.call0 c442
      cases hm
      exact hQ _ _ _ S444 rfl
def sp_law_line (K : PySem.W.Frag) : Sp := fun vs H Q _ => ∃ (F : Hp) (p__law_pool_here : Addr) (a__law_pool_here : Int × Int) (v__law_parts_here : V) (a__law_parts_here : (List Str)) (r : (Str × (Int × Int))), vs = [.ref p__law_pool_here, v__law_parts_here] ∧ Same F H ∧ Ow (fun a => a = p__law_pool_here) H F H p__law_pool_here (.lst [.int a__law_pool_here.1, .int a__law_pool_here.2]) ∧ (qL qS).r K F v__law_parts_here a__law_parts_here ∧ m_law_line a__law_pool_here a__law_parts_here = some r ∧ ∀ v F' H', Sx (fun a => a = p__law_pool_here) F H F' H' → Ow (fun a => a = p__law_pool_here) H F' H' p__law_pool_here (.lst [.int r.2.1, .int r.2.2]) → qS.r K F' v r.1 → Q v H'
theorem sc_law_line : FnScope ["_law_pool_here", "_law_parts_here", "_law_line_here", "_law_part"] ["_law_pool_here", "_law_parts_here"] (defScope s_law_line) := ⟨rfl, rfl, rfl, by decide +kernel, rfl, by decide +kernel, by decide +kernel⟩
theorem bn_law_line (T : Tx K mg) : Binds K (fdOf K ("_law_line", none)) ["_law_pool_here", "_law_parts_here"] [] := FunD.bindsN T.F_law_line fun _ _ _ _ _ _ us hl => match us, hl with | [_, _], _ => rfl
theorem ok_law_line (T : Tx K mg) : FnOk P w K mg base CX0 3 (He.ga K "_law_line") (fdOf K ("_law_line", none)) ["_law_pool_here", "_law_parts_here"] (sp_law_line K) := by
  refine FunD.ok T.F_law_line sc_law_line (fun vs H0 Q E h => ?_) (fun cdv A outer s H0 vs Q E hr h => ?_)
  · obtain ⟨_, _, _, _, _, _, rfl, _⟩ := h
    rfl
  · obtain ⟨F0, p__law_pool_here, a__law_pool_here, v__law_parts_here, a__law_parts_here, r, rfl, hE, w__law_pool_here, f__law_parts_here, hm, hQ⟩ := h
    refine ⟨_, PSs.nox ((pss_cons (ps_set (i := 2) sc_law_line.nd rfl (by first | exact Or.inl rfl | exact Or.inr rfl) pe_str) (pss_cons (ps_for PassesOwn.never rfl (pi_listK (pv 1)) (pg_name (i := 3) sc_law_line.nd rfl (by first | exact Or.inl rfl | exact Or.inr rfl)) (pss_one (ps_if (pt_cmpR op_eqS (pv 3) pe_str (nomark _)) (pss_one (ps_set (i := 2) sc_law_line.nd rfl (by first | exact Or.inl rfl | exact Or.inr rfl) (pe_op op_catS (pv 2) (pe_op op_repS (pe_ix ix_str pe_str (pe_call (ok_law_take T) (hr.mono (by decide)) (by rfl) T.g_law_take T.F_law_take.kp (bn_law_take T) .nil pass0 (pa_cons (pv 0) (pa_cons pe_int pa_nil))) (fun _ _ => rfl)) (pe_op op_add pe_int (pe_call (ok_law_take T) (hr.mono (by decide)) (by rfl) T.g_law_take T.F_law_take.kp (bn_law_take T) .nil pass0 (pa_cons (pv 0) (pa_cons pe_int pa_nil)))))))) (pss_one (ps_if (pt_cmpR op_eqS (pv 3) pe_str (nomark _)) (pss_one (ps_set (i := 2) sc_law_line.nd rfl (by first | exact Or.inl rfl | exact Or.inr rfl) (pe_op op_catS (pv 2) (pe_op op_repS (pe_ix ix_str pe_str (pe_call (ok_law_take T) (hr.mono (by decide)) (by rfl) T.g_law_take T.F_law_take.kp (bn_law_take T) .nil pass0 (pa_cons (pv 0) (pa_cons pe_int pa_nil))) (fun _ _ => rfl)) (pe_op op_add pe_int (pe_call (ok_law_take T) (hr.mono (by decide)) (by rfl) T.g_law_take T.F_law_take.kp (bn_law_take T) .nil pass0 (pa_cons (pv 0) (pa_cons pe_int pa_nil)))))))) (pss_one (ps_if (pt_cmpR op_eqS (pv 3) pe_str (nomark _)) (pss_one (ps_set (i := 2) sc_law_line.nd rfl (by first | exact Or.inl rfl | exact Or.inr rfl) (pe_op op_catS (pv 2) (pe_op op_repS (pe_call (ok_law_text T) (hr.mono (by decide)) (by rfl) T.g_law_text T.F_law_text.kp (bn_law_text T) .nil pass0 (pa_cons (pv 0) pa_nil)) (pe_call (ok_law_take T) (hr.mono (by decide)) (by rfl) T.g_law_take T.F_law_take.kp (bn_law_take T) .nil pass0 (pa_cons (pv 0) (pa_cons pe_int pa_nil))))))) (pss_one (ps_set (i := 2) sc_law_line.nd rfl (by first | exact Or.inl rfl | exact Or.inr rfl) (pe_op op_catS (pv 2) (pv 3))))))))))) (pss_cons (ps_if (pt_cmpR op_eqS (pv 2) pe_str (nomark _)) (pss_one (ps_ret (pe_call (ok_law_text T) (hr.mono (by decide)) (by rfl) T.g_law_text T.F_law_text.kp (bn_law_text T) .nil pass0 (pa_cons (pv 0) pa_nil)))) pss_nil) (pss_one (ps_ret (pv 2))))))), ?_⟩
    have S : Sx (fun a => a = p__law_pool_here) F0 H0 F0 H0 := Sx.refl hE (live1 w__law_pool_here)
    unfold m_law_line at hm
    refine rd_seq ?_
    refine rd_asg ?_
    refine rd_c ?_
    refine rd_gn ?_
    refine rd_seq ?_
    refine rd_for ?_
    refine rd_iL ?_
    refine rd_v rfl ?_
    refine rd_wLF S (f__law_parts_here) (fun p1 vs2 hq3 row4 => ?_)
    obtain ⟨t5, e6, hm⟩ := bd_some hm
    refine rd_forS feedsL (typedRow row4) e6 (fun (s7 : ((Int × Int) × Str)) σ H => ∃ (F : Hp) (o3 : Option V), σ = [some (V.ref p__law_pool_here), some v__law_parts_here, some (V.str (s7.2)), o3] ∧ Sx (fun a => a = p__law_pool_here) F0 H0 F H ∧ Ow (fun a => a = p__law_pool_here) H0 F H p__law_pool_here (.lst [V.int s7.1.1, V.int s7.1.2])) ?_ ?_ ?_ ?_
    · rintro _ _ _ ⟨_, _, _, S8, _⟩
      exact (Same.seq S8.sub (Same.seq S8.le hq3))
    · skip
      have S9 : Sx (fun a => a = p__law_pool_here) _ _ _ _ := Sx.refl S.sub (fun a z => by rw [z, w__law_pool_here.at_]; exact (fun h => nomatch h))
      have w10 : Ow (fun a => a = p__law_pool_here) H0 _ _ _ _ := ⟨w__law_pool_here.fr, w__law_pool_here.at_, .inr (rfl)⟩
      exact ⟨F0, _, rfl, S9, w10⟩
    · skip
      rintro x11 v12 s13 c17 σ14 H15 f16 ⟨F18, o20, rfl, S19, w21⟩ hm24
      have f__law_parts_here := (qL qS).mono S19.le f__law_parts_here
      unfold m_law_line_b1 at hm24
      cases (show v12 = (V.str (x11)) from f16)
      refine rd_gn ?_
      refine rd_ifS ?_
      refine rd_test ?_
      refine rd_op ?_
      refine rd_v rfl ?_
      refine rd_c ?_
      refine rd_S0 ?_
      refine rd_b ?_
      refine if_b hm24 (fun b25 hm24 => ?_) (fun b25 hm24 => ?_)
      · skip
        obtain ⟨t26, e27, hm24⟩ := bd_some hm24
        refine rd_asg ?_
        refine rd_op ?_
        refine rd_v rfl ?_
        refine rd_op ?_
        refine rd_op ?_
        refine rd_c ?_
        refine rd_call ?_
        refine rd_cons ?_
        refine rd_v rfl ?_
        refine rd_cons ?_
        refine rd_c ?_
        refine rd_nil ?_
        refine ⟨F18, _, _, _, t26, rfl, S19.sub, w21.arg, e27, fun v31 F28 H29 c30 w33 f32 => ?_⟩
        have S34 := S19.call1 c30 w21
        have f__law_parts_here := (qL qS).mono c30.le f__law_parts_here
        have w35 := w21.back w33
        cases (show v31 = (V.int (t26.1)) from f32)
        obtain ⟨t36, e37, hm24⟩ := bd_some hm24
        obtain ⟨t38, e39, hm24⟩ := bd_some hm24
        refine rd_ixS e37 ?_
        refine rd_op ?_
        refine rd_c ?_
        refine rd_call ?_
        refine rd_cons ?_
        refine rd_v rfl ?_
        refine rd_cons ?_
        refine rd_c ?_
        refine rd_nil ?_
        refine ⟨F28, _, _, _, t38, rfl, S34.sub, w35.arg, e39, fun v43 F40 H41 c42 w45 f44 => ?_⟩
        have S46 := S34.call1 c42 w35
        have f__law_parts_here := (qL qS).mono c42.le f__law_parts_here
        have w47 := w35.back w45
        cases (show v43 = (V.int (t38.1)) from f44)
        obtain ⟨g48, hm24⟩ := gd_some hm24
        obtain ⟨g49, hm24⟩ := gd_some hm24
        cases hm24
        refine rd_I0 ?_
        refine rd_repS g48 ?_
        refine rd_catS g49 ?_
        refine rd_gn ?_
        exact ⟨F40, _, rfl, S46, w47⟩
      · skip
        refine rd_ifS ?_
        refine rd_test ?_
        refine rd_op ?_
        refine rd_v rfl ?_
        refine rd_c ?_
        refine rd_S0 ?_
        refine rd_b ?_
        refine if_b hm24 (fun b50 hm24 => ?_) (fun b50 hm24 => ?_)
        · skip
          obtain ⟨t51, e52, hm24⟩ := bd_some hm24
          refine rd_asg ?_
          refine rd_op ?_
          refine rd_v rfl ?_
          refine rd_op ?_
          refine rd_op ?_
          refine rd_c ?_
          refine rd_call ?_
          refine rd_cons ?_
          refine rd_v rfl ?_
          refine rd_cons ?_
          refine rd_c ?_
          refine rd_nil ?_
          refine ⟨F18, _, _, _, t51, rfl, S19.sub, w21.arg, e52, fun v56 F53 H54 c55 w58 f57 => ?_⟩
          have S59 := S19.call1 c55 w21
          have f__law_parts_here := (qL qS).mono c55.le f__law_parts_here
          have w60 := w21.back w58
          cases (show v56 = (V.int (t51.1)) from f57)
          obtain ⟨t61, e62, hm24⟩ := bd_some hm24
          obtain ⟨t63, e64, hm24⟩ := bd_some hm24
          refine rd_ixS e62 ?_
          refine rd_op ?_
          refine rd_c ?_
          refine rd_call ?_
          refine rd_cons ?_
          refine rd_v rfl ?_
          refine rd_cons ?_
          refine rd_c ?_
          refine rd_nil ?_
          refine ⟨F53, _, _, _, t63, rfl, S59.sub, w60.arg, e64, fun v68 F65 H66 c67 w70 f69 => ?_⟩
          have S71 := S59.call1 c67 w60
          have f__law_parts_here := (qL qS).mono c67.le f__law_parts_here
          have w72 := w60.back w70
          cases (show v68 = (V.int (t63.1)) from f69)
          obtain ⟨g73, hm24⟩ := gd_some hm24
          obtain ⟨g74, hm24⟩ := gd_some hm24
          cases hm24
          refine rd_I0 ?_
          refine rd_repS g73 ?_
          refine rd_catS g74 ?_
          refine rd_gn ?_
          exact ⟨F65, _, rfl, S71, w72⟩
        · skip
          refine rd_ifS ?_
          refine rd_test ?_
          refine rd_op ?_
          refine rd_v rfl ?_
          refine rd_c ?_
          refine rd_S0 ?_
          refine rd_b ?_
          refine if_b hm24 (fun b75 hm24 => ?_) (fun b75 hm24 => ?_)
          · skip
            obtain ⟨t76, e77, hm24⟩ := bd_some hm24
            refine rd_asg ?_
            refine rd_op ?_
            refine rd_v rfl ?_
            refine rd_op ?_
            refine rd_call ?_
            refine rd_cons ?_
            refine rd_v rfl ?_
            refine rd_nil ?_
            refine ⟨F18, _, _, t76, rfl, S19.sub, w21.arg, e77, fun v81 F78 H79 c80 w83 f82 => ?_⟩
            have S84 := S19.call1 c80 w21
            have f__law_parts_here := (qL qS).mono c80.le f__law_parts_here
            have w85 := w21.back w83
            cases (show v81 = (V.str (t76.1)) from f82)
            obtain ⟨t86, e87, hm24⟩ := bd_some hm24
            refine rd_call ?_
            refine rd_cons ?_
            refine rd_v rfl ?_
            refine rd_cons ?_
            refine rd_c ?_
            refine rd_nil ?_
            refine ⟨F78, _, _, _, t86, rfl, S84.sub, w85.arg, e87, fun v91 F88 H89 c90 w93 f92 => ?_⟩
            have S94 := S84.call1 c90 w85
            have f__law_parts_here := (qL qS).mono c90.le f__law_parts_here
            have w95 := w85.back w93
            cases (show v91 = (V.int (t86.1)) from f92)
            obtain ⟨g96, hm24⟩ := gd_some hm24
            obtain ⟨g97, hm24⟩ := gd_some hm24
            cases hm24
            refine rd_repS g96 ?_
            refine rd_catS g97 ?_
            refine rd_gn ?_
            exact ⟨F88, _, rfl, S94, w95⟩
          · skip
            obtain ⟨g98, hm24⟩ := gd_some hm24
            cases hm24
            refine rd_asg ?_
            refine rd_op ?_
            refine rd_v rfl ?_
            refine rd_v rfl ?_
            refine rd_catS g98 ?_
            refine rd_gn ?_
            exact ⟨F18, _, rfl, S19, w21⟩
    · skip
      rintro σ99 H100 ⟨F101, o103, rfl, S102, w104⟩
      have S105 := S.call1 S102 w__law_pool_here
      have f__law_parts_here := (qL qS).mono S102.le f__law_parts_here
      have w106 : Ow (fun a => a = p__law_pool_here) H0 _ _ _ _ := ⟨w104.fr, w104.at_, w__law_pool_here.mine⟩
      refine rd_seq ?_
      refine rd_ifS ?_
      refine rd_test ?_
      refine rd_op ?_
      refine rd_v rfl ?_
      refine rd_c ?_
      refine rd_S0 ?_
      refine rd_b ?_
      refine if_b hm (fun b107 hm => ?_) (fun b107 hm => ?_)
      · skip
        obtain ⟨t108, e109, hm⟩ := bd_some hm
        refine rd_ret ?_
        refine rd_call ?_
        refine rd_cons ?_
        refine rd_v rfl ?_
        refine rd_nil ?_
        refine ⟨F101, _, _, t108, rfl, S105.sub, w106.arg, e109, fun v113 F110 H111 c112 w115 f114 => ?_⟩
        have S116 := S105.call1 c112 w106
        have f__law_parts_here := (qL qS).mono c112.le f__law_parts_here
        have w117 := w106.back w115
        cases (show v113 = (V.str (t108.1)) from f114)
        cases hm
        exact hQ _ _ _ S116 w117 rfl
      · skip
        cases hm
        refine rd_next ?_
        refine rd_ret ?_
        refine rd_v rfl ?_
        exact hQ _ _ _ S105 w106 rfl
def sp_law_written (K : PySem.W.Frag) : Sp := fun vs H Q _ => ∃ (F : Hp) (p__law_pool_here : Addr) (a__law_pool_here : Int × Int) (v__law_tree_here : V) (a__law_tree_here : (Str × (List Str) × (List Str))) (r : (Str × (Int × Int))), vs = [.ref p__law_pool_here, v__law_tree_here] ∧ Same F H ∧ Ow (fun a => a = p__law_pool_here) H F H p__law_pool_here (.lst [.int a__law_pool_here.1, .int a__law_pool_here.2]) ∧ (qLr (fc qS (fc (qL qS) (f1 (qL qS))))).r K F v__law_tree_here a__law_tree_here ∧ m_law_written a__law_pool_here a__law_tree_here = some r ∧ ∀ v F' H', Sx (fun a => a = p__law_pool_here) F H F' H' → Ow (fun a => a = p__law_pool_here) H F' H' p__law_pool_here (.lst [.int r.2.1, .int r.2.2]) → qS.r K F' v r.1 → Q v H'
theorem sc_law_written : FnScope ["_law_pool_here", "_law_tree_here"] ["_law_pool_here", "_law_tree_here"] (defScope s_law_written) := ⟨rfl, rfl, rfl, by decide +kernel, rfl, by decide +kernel, by decide +kernel⟩
theorem bn_law_written (T : Tx K mg) : Binds K (fdOf K ("_law_written", none)) ["_law_pool_here", "_law_tree_here"] [] := FunD.bindsN T.F_law_written fun _ _ _ _ _ _ us hl => match us, hl with | [_, _], _ => rfl
theorem ok_law_written (T : Tx K mg) : FnOk P w K mg base CX0 4 (He.ga K "_law_written") (fdOf K ("_law_written", none)) ["_law_pool_here", "_law_tree_here"] (sp_law_written K) := by
  refine FunD.ok T.F_law_written sc_law_written (fun vs H0 Q E h => ?_) (fun cdv A outer s H0 vs Q E hr h => ?_)
  · obtain ⟨_, _, _, _, _, _, rfl, _⟩ := h
    rfl
  · obtain ⟨F0, p__law_pool_here, a__law_pool_here, v__law_tree_here, a__law_tree_here, r, rfl, hE, w__law_pool_here, f__law_tree_here, hm, hQ⟩ := h
    refine ⟨_, PSs.nox ((pss_cons (ps_if (PW.pt (pw_and (pt_cmpR op_eqS (pe_ix (r := rIxL K) ix_list (pv 1) pe_int (fun _ _ => rfl)) pe_str (nomark _)) (pw_and1 (pt_cmpR op_eqI (pe_call (ok_law_take T) (hr.mono (by decide)) (by rfl) T.g_law_take T.F_law_take.kp (bn_law_take T) .nil pass0 (pa_cons (pv 0) (pa_cons pe_int pa_nil))) pe_int (nomark _))))) (pss_one (ps_ret (pe_call (ok_law_line T) (hr.mono (by decide)) (by rfl) T.g_law_line T.F_law_line.kp (bn_law_line T) .nil pass0 (pa_cons (pv 0) (pa_cons (pe_ix (r := rIxL K) ix_list (pv 1) pe_int (fun _ _ => rfl)) pa_nil))))) pss_nil) (pss_cons (ps_if (PW.pt (pw_and (pt_cmpR op_eqS (pe_ix (r := rIxL K) ix_list (pv 1) pe_int (fun _ _ => rfl)) pe_str (nomark _)) (pw_and1 (pt_cmpR op_eqI (pe_callB (r := rLenQ K) cr_lenQ (by rfl) T.n_len (by decide +kernel) (pa_cons (pe_ix (r := rIxL K) ix_list (pv 1) pe_int (fun _ _ => rfl)) pa_nil)) pe_int (nomark _))))) (pss_one (ps_ret (pe_op op_catS (pe_op op_catS (pe_ix (r := rIxL K) ix_list (pe_ix (r := rIxL K) ix_list (pv 1) pe_int (fun _ _ => rfl)) pe_int (fun _ _ => rfl)) (pe_op op_repS (pe_call (ok_law_text T) (hr.mono (by decide)) (by rfl) T.g_law_text T.F_law_text.kp (bn_law_text T) .nil pass0 (pa_cons (pv 0) pa_nil)) (pe_call (ok_law_take T) (hr.mono (by decide)) (by rfl) T.g_law_take T.F_law_take.kp (bn_law_take T) .nil pass0 (pa_cons (pv 0) (pa_cons pe_int pa_nil))))) (pe_ix (r := rIxL K) ix_list (pe_ix (r := rIxL K) ix_list (pv 1) pe_int (fun _ _ => rfl)) pe_int (fun _ _ => rfl))))) pss_nil) (pss_one (ps_ret (pe_call (ok_law_line T) (hr.mono (by decide)) (by rfl) T.g_law_line T.F_law_line.kp (bn_law_line T) .nil pass0 (pa_cons (pv 0) (pa_cons (pe_ix (r := rIxL K) ix_list (pv 1) pe_int (fun _ _ => rfl)) pa_nil)))))))), ?_⟩
    have S : Sx (fun a => a = p__law_pool_here) F0 H0 F0 H0 := Sx.refl hE (live1 w__law_pool_here)
    unfold m_law_written at hm
    refine rd_seq ?_
    refine rd_ifS ?_
    refine rd_and ?_
    refine rd_test ?_
    refine rd_op ?_
    refine rd_op ?_
    refine rd_v rfl ?_
    refine rd_c ?_
    refine rd_xLr (i := 0) S f__law_tree_here ra0 (fun _ _ _ _ r => by obtain ⟨u0, s_u0, rfl, _, u1, s_u1, rfl, _, u2, rfl, _⟩ := r; exact Nat.le_of_ble_eq_true rfl) (fun u1 f2 => ?_)
    cases (show u1 = (V.str ((a__law_tree_here).1)) from f2)
    obtain ⟨t13, e14, hm⟩ := bd_some hm
    refine rd_c ?_
    refine rd_S0 ?_
    refine rd_b ?_
    refine and_j (fun c H' => c = t13.1 ∧ ∃ F', Sx (fun a => a = p__law_pool_here) F0 H0 F' H' ∧ Ow (fun a => a = p__law_pool_here) H0 F' H' p__law_pool_here (.lst [V.int t13.2.1, V.int t13.2.2])) ?_ ?_ ?_
    · intro b15 Q16 q17
      have e14 := if_t e14 b15
      have S18 : Sx (fun a => a = p__law_pool_here) _ _ _ _ := Sx.refl S.sub (fun a z => by rw [z, w__law_pool_here.at_]; exact (fun h => nomatch h))
      have w19 : Ow (fun a => a = p__law_pool_here) H0 _ _ _ _ := ⟨w__law_pool_here.fr, w__law_pool_here.at_, .inr (rfl)⟩
      obtain ⟨t20, e21, e14⟩ := bd_some e14
      refine rd_test ?_
      refine rd_op ?_
      refine rd_call ?_
      refine rd_cons ?_
      refine rd_v rfl ?_
      refine rd_cons ?_
      refine rd_c ?_
      refine rd_nil ?_
      refine ⟨F0, _, _, _, t20, rfl, S18.sub, w19.arg, e21, fun v25 F22 H23 c24 w27 f26 => ?_⟩
      have S28 := S18.call1 c24 w19
      have f__law_tree_here := (qLr (fc qS (fc (qL qS) (f1 (qL qS))))).mono c24.le f__law_tree_here
      have w29 := w19.back w27
      cases (show v25 = (V.int (t20.1)) from f26)
      cases e14
      refine rd_c ?_
      refine rd_I0 ?_
      refine rd_b ?_
      exact q17 _ _ ⟨rfl, F22, S28, w29⟩
    · intro b15
      have e14 := if_f e14 b15
      cases e14
      have S30 : Sx (fun a => a = p__law_pool_here) _ _ _ _ := Sx.refl S.sub (fun a z => by rw [z, w__law_pool_here.at_]; exact (fun h => nomatch h))
      have w31 : Ow (fun a => a = p__law_pool_here) H0 _ _ _ _ := ⟨w__law_pool_here.fr, w__law_pool_here.at_, .inr (rfl)⟩
      exact ⟨rfl, F0, S30, w31⟩
    rintro b35 H33 ⟨rfl, F32, c34, w36⟩
    have S37 := S.call1 c34 w__law_pool_here
    have f__law_tree_here := (qLr (fc qS (fc (qL qS) (f1 (qL qS))))).mono c34.le f__law_tree_here
    have w38 : Ow (fun a => a = p__law_pool_here) H0 _ _ _ _ := ⟨w36.fr, w36.at_, w__law_pool_here.mine⟩
    refine if_b hm (fun b39 hm => ?_) (fun b39 hm => ?_)
    · skip
      refine rd_ret ?_
      refine rd_call ?_
      refine rd_cons ?_
      refine rd_v rfl ?_
      refine rd_cons ?_
      refine rd_op ?_
      refine rd_v rfl ?_
      refine rd_c ?_
      refine rd_xLr (i := 2) S37 f__law_tree_here (raS (raS ra1)) (fun _ _ _ _ r => by obtain ⟨u0, s_u0, rfl, _, u1, s_u1, rfl, _, u2, rfl, _⟩ := r; exact Nat.le_of_ble_eq_true rfl) (fun u40 f41 => ?_)
      have f41 : (qL qS).r K F32 u40 (a__law_tree_here).2.2 := f41
      obtain ⟨t42, e43, hm⟩ := bd_some hm
      refine rd_nil ?_
      refine ⟨F32, _, _, _, _, t42, rfl, S37.sub, w38.arg, f41, e43, fun v47 F44 H45 c46 w49 f48 => ?_⟩
      have S50 := S37.call1 c46 w38
      have f__law_tree_here := (qLr (fc qS (fc (qL qS) (f1 (qL qS))))).mono c46.le f__law_tree_here
      have w51 := w38.back w49
      cases (show v47 = (V.str (t42.1)) from f48)
      cases hm
      exact hQ _ _ _ S50 w51 rfl
    · skip
      refine rd_next ?_
      refine rd_seq ?_
      refine rd_ifS ?_
      refine rd_and ?_
      refine rd_test ?_
      refine rd_op ?_
      refine rd_op ?_
      refine rd_v rfl ?_
      refine rd_c ?_
      refine rd_xLr (i := 0) S37 f__law_tree_here ra0 (fun _ _ _ _ r => by obtain ⟨u0, s_u0, rfl, _, u1, s_u1, rfl, _, u2, rfl, _⟩ := r; exact Nat.le_of_ble_eq_true rfl) (fun u52 f53 => ?_)
      cases (show u52 = (V.str ((a__law_tree_here).1)) from f53)
      obtain ⟨t56, e57, hm⟩ := bd_some hm
      refine rd_c ?_
      refine rd_S0 ?_
      refine rd_b ?_
      refine and_j (fun c H' => c = t56 ∧ ∃ F', Sx P0 F32 H33 F' H') ?_ ?_ ?_
      · intro b58 Q59 q60
        have e57 := if_t e57 b58
        have S61 := Sx.refl0 S37.sub
        refine rd_test ?_
        refine rd_op ?_
        refine rd_cb ?_
        refine rd_cons ?_
        refine rd_op ?_
        refine rd_v rfl ?_
        refine rd_c ?_
        refine rd_xLr (i := 2) S61 f__law_tree_here (raS (raS ra1)) (fun _ _ _ _ r => by obtain ⟨u0, s_u0, rfl, _, u1, s_u1, rfl, _, u2, rfl, _⟩ := r; exact Nat.le_of_ble_eq_true rfl) (fun u62 f63 => ?_)
        have f63 : (qL qS).r K F32 u62 (a__law_tree_here).2.2 := f63
        cases e57
        refine rd_nil ?_
        refine rd_lenQ (S61.l f63).r.q ?_
        refine rd_c ?_
        refine rd_I0 ?_
        refine rd_b ?_
        exact q60 _ _ ⟨rfl, F32, S61⟩
      · intro b58
        have e57 := if_f e57 b58
        cases e57
        have S64 := Sx.refl0 S37.sub
        exact ⟨rfl, F32, S64⟩
      rintro b68 H66 ⟨rfl, F65, c67⟩
      have S69 := S37.call0 c67
      have f__law_tree_here := (qLr (fc qS (fc (qL qS) (f1 (qL qS))))).mono c67.le f__law_tree_here
      have w38 := w38.call0 c67
      refine if_b hm (fun b70 hm => ?_) (fun b70 hm => ?_)
      · skip
        refine rd_ret ?_
        refine rd_op ?_
        refine rd_op ?_
        refine rd_op ?_
        refine rd_op ?_
        refine rd_v rfl ?_
        refine rd_c ?_
        refine rd_xLr (i := 1) S69 f__law_tree_here (raS ra0) (fun _ _ _ _ r => by obtain ⟨u0, s_u0, rfl, _, u1, s_u1, rfl, _, u2, rfl, _⟩ := r; exact Nat.le_of_ble_eq_true rfl) (fun u71 f72 => ?_)
        have f72 : (qL qS).r K F65 u71 (a__law_tree_here).2.1 := f72
        obtain ⟨t73, e74, hm⟩ := bd_some hm
        refine rd_c ?_
        refine rd_ixL (S69.l f72).r e74 (fun u75 f76 => ?_)
        cases (show u75 = (V.str (t73)) from f76)
        obtain ⟨t77, e78, hm⟩ := bd_some hm
        refine rd_op ?_
        refine rd_call ?_
        refine rd_cons ?_
        refine rd_v rfl ?_
        refine rd_nil ?_
        refine ⟨F65, _, _, t77, rfl, S69.sub, w38.arg, e78, fun v82 F79 H80 c81 w84 f83 => ?_⟩
        have S85 := S69.call1 c81 w38
        have f__law_tree_here := (qLr (fc qS (fc (qL qS) (f1 (qL qS))))).mono c81.le f__law_tree_here
        have w86 := w38.back w84
        cases (show v82 = (V.str (t77.1)) from f83)
        obtain ⟨t87, e88, hm⟩ := bd_some hm
        refine rd_call ?_
        refine rd_cons ?_
        refine rd_v rfl ?_
        refine rd_cons ?_
        refine rd_c ?_
        refine rd_nil ?_
        refine ⟨F79, _, _, _, t87, rfl, S85.sub, w86.arg, e88, fun v92 F89 H90 c91 w94 f93 => ?_⟩
        have S95 := S85.call1 c91 w86
        have f__law_tree_here := (qLr (fc qS (fc (qL qS) (f1 (qL qS))))).mono c91.le f__law_tree_here
        have w96 := w86.back w94
        cases (show v92 = (V.int (t87.1)) from f93)
        obtain ⟨g97, hm⟩ := gd_some hm
        obtain ⟨g98, hm⟩ := gd_some hm
        refine rd_repS g97 ?_
        refine rd_catS g98 ?_
        refine rd_op ?_
        refine rd_op ?_
        refine rd_v rfl ?_
        refine rd_c ?_
        refine rd_xLr (i := 2) S95 f__law_tree_here (raS (raS ra1)) (fun _ _ _ _ r => by obtain ⟨u0, s_u0, rfl, _, u1, s_u1, rfl, _, u2, rfl, _⟩ := r; exact Nat.le_of_ble_eq_true rfl) (fun u99 f100 => ?_)
        have f100 : (qL qS).r K F89 u99 (a__law_tree_here).2.2 := f100
        obtain ⟨t101, e102, hm⟩ := bd_some hm
        refine rd_c ?_
        refine rd_ixL (S95.l f100).r e102 (fun u103 f104 => ?_)
        cases (show u103 = (V.str (t101)) from f104)
        obtain ⟨g105, hm⟩ := gd_some hm
        cases hm
        refine rd_catS g105 ?_
        exact hQ _ _ _ S95 w96 rfl
      · skip
        refine rd_next ?_
        refine rd_ret ?_
        refine rd_call ?_
        refine rd_cons ?_
        refine rd_v rfl ?_
        refine rd_cons ?_
        refine rd_op ?_
        refine rd_v rfl ?_
        refine rd_c ?_
        refine rd_xLr (i := 1) S69 f__law_tree_here (raS ra0) (fun _ _ _ _ r => by obtain ⟨u0, s_u0, rfl, _, u1, s_u1, rfl, _, u2, rfl, _⟩ := r; exact Nat.le_of_ble_eq_true rfl) (fun u106 f107 => ?_)
        have f107 : (qL qS).r K F65 u106 (a__law_tree_here).2.1 := f107
        obtain ⟨t108, e109, hm⟩ := bd_some hm
        refine rd_nil ?_
        refine ⟨F65, _, _, _, _, t108, rfl, S69.sub, w38.arg, f107, e109, fun v113 F110 H111 c112 w115 f114 => ?_⟩
        have S116 := S69.call1 c112 w38
        have f__law_tree_here := (qLr (fc qS (fc (qL qS) (f1 (qL qS))))).mono c112.le f__law_tree_here
        have w117 := w38.back w115
        cases (show v113 = (V.str (t108.1)) from f114)
        cases hm
        exact hQ _ _ _ S116 w117 rfl
def sp_law_row (K : PySem.W.Frag) : Sp := fun vs H Q _ => ∃ (F : Hp) (p__law_pool_here : Addr) (a__law_pool_here : Int × Int) (v__law_rule_here : V) (a__law_rule_here : ((List (Str × (List Str) × (List Str))) × (List (Str × (List Str) × (List Str))) × (Option Int) × Bool × (Option Int) × Bool)) (r : (Str × (Int × Int))), vs = [.ref p__law_pool_here, v__law_rule_here] ∧ Same F H ∧ Ow (fun a => a = p__law_pool_here) H F H p__law_pool_here (.lst [.int a__law_pool_here.1, .int a__law_pool_here.2]) ∧ (qLr (fc (qL (qLr (fc qS (fc (qL qS) (f1 (qL qS)))))) (fc (qL (qLr (fc qS (fc (qL qS) (f1 (qL qS)))))) (fc (qO qI) (fc qB (fc (qO qI) (f1 qB))))))).r K F v__law_rule_here a__law_rule_here ∧ m_law_row a__law_pool_here a__law_rule_here = some r ∧ ∀ v F' H', Sx (fun a => a = p__law_pool_here) F H F' H' → Ow (fun a => a = p__law_pool_here) H F' H' p__law_pool_here (.lst [.int r.2.1, .int r.2.2]) → qS.r K F' v r.1 → Q v H'
theorem sc_law_row : FnScope ["_law_pool_here", "_law_rule_here", "_law_trees", "_law_at"] ["_law_pool_here", "_law_rule_here"] (defScope s_law_row) := ⟨rfl, rfl, rfl, by decide +kernel, rfl, by decide +kernel, by decide +kernel⟩
theorem bn_law_row (T : Tx K mg) : Binds K (fdOf K ("_law_row", none)) ["_law_pool_here", "_law_rule_here"] [] := FunD.bindsN T.F_law_row fun _ _ _ _ _ _ us hl => match us, hl with | [_, _], _ => rfl
theorem ok_law_row (T : Tx K mg) : FnOk P w K mg base CX0 5 (He.ga K "_law_row") (fdOf K ("_law_row", none)) ["_law_pool_here", "_law_rule_here"] (sp_law_row K) := by
  refine FunD.ok T.F_law_row sc_law_row (fun vs H0 Q E h => ?_) (fun cdv A outer s H0 vs Q E hr h => ?_)
  · obtain ⟨_, _, _, _, _, _, rfl, _⟩ := h
    rfl
  · obtain ⟨F0, p__law_pool_here, a__law_pool_here, v__law_rule_here, a__law_rule_here, r, rfl, hE, w__law_pool_here, f__law_rule_here, hm, hQ⟩ := h
    refine ⟨_, PSs.nox ((pss_cons (ps_set (i := 2) sc_law_row.nd rfl (by first | exact Or.inl rfl | exact Or.inr rfl) (pe_op op_cat (pe_ix (r := rIxL K) ix_list (pv 1) pe_int (fun _ _ => rfl)) (pe_ix (r := rIxL K) ix_list (pv 1) pe_int (fun _ _ => rfl)))) (pss_cons (ps_set (i := 3) sc_law_row.nd rfl (by first | exact Or.inl rfl | exact Or.inr rfl) (pe_call (ok_law_take T) (hr.mono (by decide)) (by rfl) T.g_law_take T.F_law_take.kp (bn_law_take T) .nil pass0 (pa_cons (pv 0) (pa_cons (pe_op op_add (pe_callB (r := rLenQ K) cr_lenQ (by rfl) T.n_len (by decide +kernel) (pa_cons (pv 2) pa_nil)) pe_int) pa_nil)))) (pss_cons (ps_if (pt_cmpR op_lt (pv 3) (pe_callB (r := rLenQ K) cr_lenQ (by rfl) T.n_len (by decide +kernel) (pa_cons (pv 2) pa_nil)) (nomark _)) (pss_one (ps_ret (pe_call (ok_law_written T) (hr.mono (by decide)) (by rfl) T.g_law_written T.F_law_written.kp (bn_law_written T) .nil pass0 (pa_cons (pv 0) (pa_cons (pe_ix (r := rIxL K) ix_list (pv 2) (pv 3) (fun _ _ => rfl)) pa_nil))))) pss_nil) (pss_one (ps_ret (pe_call (ok_law_line T) (hr.mono (by decide)) (by rfl) T.g_law_line T.F_law_line.kp (bn_law_line T) .nil pass0 (pa_cons (pv 0) (pa_cons (pe_call (ok_law_parts T) (hr.mono (by decide)) (by rfl) T.g_law_parts T.F_law_parts.kp (bn_law_parts T) .nil pass0 (pa_cons (pv 0) pa_nil)) pa_nil))))))))), ?_⟩
    have S : Sx (fun a => a = p__law_pool_here) F0 H0 F0 H0 := Sx.refl hE (live1 w__law_pool_here)
    unfold m_law_row at hm
    refine rd_seq ?_
    refine rd_asg ?_
    refine rd_op ?_
    refine rd_op ?_
    refine rd_v rfl ?_
    refine rd_c ?_
    refine rd_xLr (i := 0) S f__law_rule_here ra0 (fun _ _ _ _ r => by obtain ⟨u0, s_u0, rfl, _, u1, s_u1, rfl, _, u2, s_u2, rfl, _, u3, s_u3, rfl, _, u4, s_u4, rfl, _, u5, rfl, _⟩ := r; exact Nat.le_of_ble_eq_true rfl) (fun u1 f2 => ?_)
    have f2 : (qL (qLr (fc qS (fc (qL qS) (f1 (qL qS)))))).r K F0 u1 (a__law_rule_here).1 := f2
    refine rd_op ?_
    refine rd_v rfl ?_
    refine rd_c ?_
    refine rd_xLr (i := 1) S f__law_rule_here (raS ra0) (fun _ _ _ _ r => by obtain ⟨u0, s_u0, rfl, _, u1, s_u1, rfl, _, u2, s_u2, rfl, _, u3, s_u3, rfl, _, u4, s_u4, rfl, _, u5, rfl, _⟩ := r; exact Nat.le_of_ble_eq_true rfl) (fun u3 f4 => ?_)
    have f4 : (qL (qLr (fc qS (fc (qL qS) (f1 (qL qS)))))).r K F0 u3 (a__law_rule_here).2.1 := f4
    obtain ⟨g5, hm⟩ := gd_some hm
    refine rd_cat (S.l f2) (S.l f4) g5 ?_
    refine alL' S (fun v6 F7 H8 c9 f10 => ?_)
    have S11 := S.call0 c9
    have f__law_rule_here := (qLr (fc (qL (qLr (fc qS (fc (qL qS) (f1 (qL qS)))))) (fc (qL (qLr (fc qS (fc (qL qS) (f1 (qL qS)))))) (fc (qO qI) (fc qB (fc (qO qI) (f1 qB))))))).mono c9.le f__law_rule_here
    have w__law_pool_here := w__law_pool_here.call0 c9
    obtain ⟨t12, e13, hm⟩ := bd_some hm
    refine rd_gn ?_
    refine rd_seq ?_
    refine rd_asg ?_
    refine rd_call ?_
    refine rd_cons ?_
    refine rd_v rfl ?_
    refine rd_cons ?_
    refine rd_op ?_
    refine rd_cb ?_
    refine rd_cons ?_
    refine rd_v rfl ?_
    refine rd_nil ?_
    refine rd_lenQ (S11.l f10).r.q ?_
    refine rd_c ?_
    refine rd_I0 ?_
    refine rd_nil ?_
    refine ⟨F7, _, _, _, t12, rfl, S11.sub, w__law_pool_here.arg, e13, fun v17 F14 H15 c16 w19 f18 => ?_⟩
    have S20 := S11.call1 c16 w__law_pool_here
    have f__law_rule_here := (qLr (fc (qL (qLr (fc qS (fc (qL qS) (f1 (qL qS)))))) (fc (qL (qLr (fc qS (fc (qL qS) (f1 (qL qS)))))) (fc (qO qI) (fc qB (fc (qO qI) (f1 qB))))))).mono c16.le f__law_rule_here
    have f10 := (qL (qLr (fc qS (fc (qL qS) (f1 (qL qS)))))).mono c16.le f10
    have w21 := w__law_pool_here.back w19
    cases (show v17 = (V.int (t12.1)) from f18)
    refine rd_gn ?_
    refine rd_seq ?_
    refine rd_ifS ?_
    refine rd_test ?_
    refine rd_op ?_
    refine rd_v rfl ?_
    refine rd_cb ?_
    refine rd_cons ?_
    refine rd_v rfl ?_
    refine rd_nil ?_
    refine rd_lenQ (S20.l f10).r.q ?_
    refine rd_I0 ?_
    refine rd_b ?_
    refine if_b hm (fun b22 hm => ?_) (fun b22 hm => ?_)
    · skip
      obtain ⟨t23, e24, hm⟩ := bd_some hm
      refine rd_ret ?_
      refine rd_call ?_
      refine rd_cons ?_
      refine rd_v rfl ?_
      refine rd_cons ?_
      refine rd_op ?_
      refine rd_v rfl ?_
      refine rd_v rfl ?_
      refine rd_ixL (S20.l f10).r e24 (fun u25 f26 => ?_)
      obtain ⟨t27, e28, hm⟩ := bd_some hm
      refine rd_nil ?_
      refine ⟨F14, _, _, _, _, t27, rfl, S20.sub, w21.arg, f26, e28, fun v32 F29 H30 c31 w34 f33 => ?_⟩
      have S35 := S20.call1 c31 w21
      have f__law_rule_here := (qLr (fc (qL (qLr (fc qS (fc (qL qS) (f1 (qL qS)))))) (fc (qL (qLr (fc qS (fc (qL qS) (f1 (qL qS)))))) (fc (qO qI) (fc qB (fc (qO qI) (f1 qB))))))).mono c31.le f__law_rule_here
      have f10 := (qL (qLr (fc qS (fc (qL qS) (f1 (qL qS)))))).mono c31.le f10
      have w36 := w21.back w34
      cases (show v32 = (V.str (t27.1)) from f33)
      cases hm
      exact hQ _ _ _ S35 w36 rfl
    · skip
      obtain ⟨t37, e38, hm⟩ := bd_some hm
      refine rd_next ?_
      refine rd_ret ?_
      refine rd_call ?_
      refine rd_cons ?_
      refine rd_v rfl ?_
      refine rd_cons ?_
      refine rd_call ?_
      refine rd_cons ?_
      refine rd_v rfl ?_
      refine rd_nil ?_
      refine ⟨F14, _, _, t37, rfl, S20.sub, w21.arg, e38, fun v42 F39 H40 c41 w44 f43 => ?_⟩
      have S45 := S20.call1 c41 w21
      have f__law_rule_here := (qLr (fc (qL (qLr (fc qS (fc (qL qS) (f1 (qL qS)))))) (fc (qL (qLr (fc qS (fc (qL qS) (f1 (qL qS)))))) (fc (qO qI) (fc qB (fc (qO qI) (f1 qB))))))).mono c41.le f__law_rule_here
      have f10 := (qL (qLr (fc qS (fc (qL qS) (f1 (qL qS)))))).mono c41.le f10
      have w46 := w21.back w44
      obtain ⟨t47, e48, hm⟩ := bd_some hm
      refine rd_nil ?_
      refine ⟨F39, _, _, _, _, t47, rfl, S45.sub, w46.arg, f43, e48, fun v52 F49 H50 c51 w54 f53 => ?_⟩
      have S55 := S45.call1 c51 w46
      have f__law_rule_here := (qLr (fc (qL (qLr (fc qS (fc (qL qS) (f1 (qL qS)))))) (fc (qL (qLr (fc qS (fc (qL qS) (f1 (qL qS)))))) (fc (qO qI) (fc qB (fc (qO qI) (f1 qB))))))).mono c51.le f__law_rule_here
      have f10 := (qL (qLr (fc qS (fc (qL qS) (f1 (qL qS)))))).mono c51.le f10
      have w56 := w46.back w54
      cases (show v52 = (V.str (t47.1)) from f53)
      cases hm
      exact hQ _ _ _ S55 w56 rfl
def sp_law (K : PySem.W.Frag) : Sp := fun vs H Q _ => ∃ (F : Hp) (v__law_script : V) (a__law_script : List Int) (r : Bool), vs = [v__law_script] ∧ Same F H ∧ qC.r K F v__law_script a__law_script ∧ m_law a__law_script = some r ∧ ∀ v F' H', Sx P0 F H F' H' → qB.r K F' v r → Q v H'
theorem sc_law : FnScope ["_law_script", "_law_pool_here", "_law_rule_here", "_law_rows", "_law_many", "_law_k", "_law_tag"] ["_law_script"] (defScope s_law) := ⟨rfl, rfl, rfl, by decide +kernel, rfl, by decide +kernel, by decide +kernel⟩
theorem bn_law (T : Tx K mg) : Binds K (fdOf K ("law", none)) ["_law_script"] [] := FunD.bindsN T.F_law fun _ _ _ _ _ _ us hl => match us, hl with | [_], _ => rfl
theorem ok_law (T : Tx K mg) : FnOk P w K mg base CX0 12 (He.ga K "law") (fdOf K ("law", none)) ["_law_script"] (sp_law K) := by
  refine FunD.ok T.F_law sc_law (fun vs H0 Q E h => ?_) (fun cdv A outer s H0 vs Q E hr h => ?_)
  · obtain ⟨_, _, _, _, rfl, _⟩ := h
    rfl
  · obtain ⟨F0, v__law_script, a__law_script, r, rfl, hE, f__law_script, hm, hQ⟩ := h
    refine ⟨_, PSs.nox ((pss_cons (ps_set (i := 1) sc_law.nd rfl (by first | exact Or.inl rfl | exact Or.inr rfl) (pe_call (ok_law_pool T) (hr.mono (by decide)) (by rfl) T.g_law_pool T.F_law_pool.kp (bn_law_pool T) .nil pass0 (pa_cons (pv 0) (pa_cons pe_int pa_nil)))) (pss_cons (ps_set (i := 2) sc_law.nd rfl (by first | exact Or.inl rfl | exact Or.inr rfl) (pe_call (ok_law_rule T) (hr.mono (by decide)) (by rfl) T.g_law_rule T.F_law_rule.kp (bn_law_rule T) .nil pass0 (pa_cons (pv 1) pa_nil))) (C8.pss_cut (ps_if (pt_cmpR op_isN' (pe_ix (r := rIxL K) ix_list (pv 2) pe_int (fun _ _ => rfl)) pe_non (nomark _)) (pss_one (ps_asg (pe_call (ok_law_take T) (hr.mono (by decide)) (by rfl) T.g_law_take T.F_law_take.kp (bn_law_take T) .nil pass0 (pa_cons (pv 1) (pa_cons pe_int pa_nil))) (pg_sub (pv 2) pe_int set_list))) pss_nil) (C8.pss_cut (ps_if (pt_cmpR op_eqI (pe_call (ok_law_take T) (hr.mono (by decide)) (by rfl) T.g_law_take T.F_law_take.kp (bn_law_take T) .nil pass0 (pa_cons (pv 1) (pa_cons pe_int pa_nil))) pe_int (nomark _)) (pss_one (ps_asg pe_non (pg_sub (pv 2) pe_int set_list))) pss_nil) (pss_cons (ps_set (i := 3) sc_law.nd rfl (by first | exact Or.inl rfl | exact Or.inr rfl) (pe_lst pa_nil)) (pss_cons (ps_set (i := 4) sc_law.nd rfl (by first | exact Or.inl rfl | exact Or.inr rfl) (pe_ix (r := rIxL K) ix_list (pe_lst (pa_cons pe_int (pa_cons pe_int (pa_cons pe_int pa_nil)))) (pe_call (ok_law_take T) (hr.mono (by decide)) (by rfl) T.g_law_take T.F_law_take.kp (bn_law_take T) .nil pass0 (pa_cons (pv 1) (pa_cons pe_int pa_nil))) (fun _ _ => rfl))) (pss_cons (ps_for PassesOwn.never rfl (pi_range1 (by rfl) T.n_range (pa_cons (pe_callB (cr_max2 rfl) (by rfl) T.n_max (by decide +kernel) (pa_cons pe_int (pa_cons (pe_callB (cr_min2 rfl) (by rfl) T.n_min (by decide +kernel) (pa_cons pe_int (pa_cons (pe_op op_sub (pe_callB (r := rLenQ K) cr_lenQ (by rfl) T.n_len (by decide +kernel) (pa_cons (pv 0) pa_nil)) pe_int) pa_nil))) pa_nil))) pa_nil)) (pg_name (i := 5) sc_law.nd rfl (by first | exact Or.inl rfl | exact Or.inr rfl)) (pss_cons (ps_set (i := 1) sc_law.nd rfl (by first | exact Or.inl rfl | exact Or.inr rfl) (pe_call (ok_law_pool T) (hr.mono (by decide)) (by rfl) T.g_law_pool T.F_law_pool.kp (bn_law_pool T) .nil pass0 (pa_cons (pv 0) (pa_cons (pe_op op_add (pv 5) pe_int) pa_nil)))) (pss_cons (ps_set (i := 6) sc_law.nd rfl (by first | exact Or.inl rfl | exact Or.inr rfl) (pe_call (ok_law_take T) (hr.mono (by decide)) (by rfl) T.g_law_take T.F_law_take.kp (bn_law_take T) .nil pass0 (pa_cons (pv 1) (pa_cons (pv 4) pa_nil)))) (pss_one (ps_expr (pe_bmK (K := K) PySem.F.plainAttrs_list PySem.F.slot_list_append PySem.F.type_list_append mt_append (pv 3) (pa_cons (pe_tup (pa_cons (pe_op op_add (pe_op op_mul (pv 6) (pe_callTy cr_int (by rfl) T.n_int (by decide +kernel) (pa_cons (pe_cmpR (r := rNeD K) (op_neD hr.units) (pe_ix (r := rIxL K) ix_list (pv 2) pe_int (fun _ _ => rfl)) pe_int (nomark _)) pa_nil))) (pe_op op_mul (pe_op op_mul (pv 6) (pe_op op_pow pe_int pe_int)) (pe_callTy cr_int (by rfl) T.n_int (by decide +kernel) (pa_cons (pe_cmpR (r := rEqD K) (op_eqD hr.units) (pe_ix (r := rIxL K) ix_list (pv 2) pe_int (fun _ _ => rfl)) pe_int (nomark _)) pa_nil)))) (pa_cons (pe_call (ok_law_row T) (hr.mono (by decide)) (by rfl) T.g_law_row T.F_law_row.kp (bn_law_row T) .nil pass0 (pa_cons (pv 1) (pa_cons (pv 2) pa_nil))) pa_nil))) pa_nil))))))) (pss_one (ps_ret (pe_call (ok_law_right T) (hr.mono (by decide)) (by rfl) T.g_law_right T.F_law_right.kp (bn_law_right T) .nil pass0 (pa_cons (pv 2) (pa_cons (pv 3) pa_nil))))))))))))), ?_⟩
    have S : Sx P0 F0 H0 F0 H0 := Sx.refl0 hE
    unfold m_law at hm
    obtain ⟨t1, e2, hm⟩ := bd_some hm
    refine rd_seq ?_
    refine rd_asg ?_
    refine rd_call ?_
    refine rd_cons ?_
    refine rd_v rfl ?_
    refine rd_cons ?_
    refine rd_c ?_
    refine rd_nil ?_
    refine ⟨F0, _, _, _, t1, rfl, S.sub, f__law_script, e2, fun p6 F3 H4 np7 c5 w8 => ?_⟩
    have z9 := S.free0 np7
    have S10 := S.call0 c5
    have f__law_script := qC.mono c5.le f__law_script
    have w11 : Ow P0 H0 _ _ _ _ := ⟨w8.fr, w8.at_, .inl z9⟩
    obtain ⟨t12, e13, hm⟩ := bd_some hm
    refine rd_gn ?_
    refine rd_seq ?_
    refine rd_asg ?_
    refine rd_call ?_
    refine rd_cons ?_
    refine rd_v rfl ?_
    refine rd_nil ?_
    refine ⟨F3, _, _, t12, rfl, S10.sub, w11.arg, e13, fun p17 u20 u22 u24 u26 u28 u30 F14 H15 np18 c16 w32 w19 f21 f23 f25 f27 f29 f31 => ?_⟩
    have ne33 : p6 ≠ p17 := w11.ne np18
    have z34 := S10.free0 np18
    have S35 := S10.call1 c16 w11
    have f__law_script := qC.mono c16.le f__law_script
    have w36 := w11.back w32
    cases (show u26 = (V.bl (t12.1.2.2.2.1)) from f27)
    cases (show u30 = (V.bl (t12.1.2.2.2.2.2)) from f31)
    have w37 : Ow P0 H0 _ _ _ _ := ⟨w19.fr, w19.at_, .inl z34⟩
    obtain ⟨t38, e39, hm⟩ := bd_some hm
    refine rd_gn ?_
    refine rd_cut (fun σ' H' => ∃ (F : Hp) (o3 : Option V) (o4 : Option V) (o5 : Option V) (o6 : Option V) (u1_0 : V) (u1_1 : V) (u1_2 : V) (u1_4 : V), σ' = [some v__law_script, some (V.ref p6), some (V.ref p17), o3, o4, o5, o6] ∧ Sx (fun a => a = p6 ∨ a = p17) F14 H15 F H' ∧ Ow (fun a => a = p6 ∨ a = p17) H15 F H' p17 (.lst [u1_0, u1_1, u1_2, (V.bl (t38.2.2.2.2.1)), u1_4, (V.bl (t38.2.2.2.2.2.2))]) ∧ (qL (qLr (fc qS (fc (qL qS) (f1 (qL qS)))))).r K F u1_0 t38.2.1 ∧ (qL (qLr (fc qS (fc (qL qS) (f1 (qL qS)))))).r K F u1_1 t38.2.2.1 ∧ (qO qI).r K F u1_2 t38.2.2.2.1 ∧ (qO qI).r K F u1_4 t38.2.2.2.2.2.1 ∧ Ow (fun a => a = p6 ∨ a = p17) H15 F H' p6 (.lst [V.int t38.1.1, V.int t38.1.2])) ?_ ?_
    · skip
      have S40 : Sx (fun a => a = p6 ∨ a = p17) _ _ _ _ := Sx.refl S35.sub (by
          rintro a (rfl | rfl)
          · rw [w36.at_]; exact (fun h => nomatch h)
          · rw [w37.at_]; exact (fun h => nomatch h))
      have w41 : Ow (fun a => a = p6 ∨ a = p17) H15 _ _ _ _ := ⟨w36.fr, w36.at_, .inr (Or.inl rfl)⟩
      have w42 : Ow (fun a => a = p6 ∨ a = p17) H15 _ _ _ _ := ⟨w37.fr, w37.at_, .inr (Or.inr (rfl))⟩
      refine rd_ifS ?_
      refine rd_test ?_
      refine rd_op ?_
      refine rd_op ?_
      refine rd_v rfl ?_
      refine rd_c ?_
      refine rd_ixO w42 (u := u28) (by rfl) ?_
      refine rd_c ?_
      refine rd_isN (A := qI) f29 ?_
      refine rd_b ?_
      refine if_b e39 (fun b43 e39 => ?_) (fun b43 e39 => ?_)
      · skip
        obtain ⟨t44, e45, e39⟩ := bd_some e39
        refine rd_asg ?_
        refine rd_call ?_
        refine rd_cons ?_
        refine rd_v rfl ?_
        refine rd_cons ?_
        refine rd_c ?_
        refine rd_nil ?_
        refine ⟨F14, _, _, _, t44, rfl, S40.sub, w41.arg, e45, fun v49 F46 H47 c48 w51 f50 => ?_⟩
        have S52 := S40.call1 c48 w41
        have f__law_script := qC.mono c48.le f__law_script
        have f21 := (qL (qLr (fc qS (fc (qL qS) (f1 (qL qS)))))).mono c48.le f21
        have f23 := (qL (qLr (fc qS (fc (qL qS) (f1 (qL qS)))))).mono c48.le f23
        have f25 := (qO qI).mono c48.le f25
        have f29 := (qO qI).mono c48.le f29
        have w42 := w42.call c48 (by intro z; exact (Ne.symm ne33) z)
        have w53 := w41.back w51
        cases (show v49 = (V.int (t44.1)) from f50)
        have f54 : (qO qI).r K F46 (V.int (t44.1)) (some t44.1) := (show (qO qI).r K F46 (V.int (t44.1)) (some t44.1) from rfl)
        refine rd_gsub ?_
        refine rd_v rfl ?_
        refine rd_c ?_
        refine rd_setO S52 w42 (us' := [u20, u22, u24, (V.bl (t12.1.2.2.2.1)), (V.int (t44.1)), (V.bl (t12.1.2.2.2.2.2))]) (j := 4) (by rfl) (by rfl) (fun H55 c56 w57 => ?_)
        have f58 : (qO qI).r K F46 (V.int (t44.1)) (some t44.1) := f54
        have S59 := S52.call1 c56 w42
        have f__law_script := qC.mono c56.le f__law_script
        have f21 := (qL (qLr (fc qS (fc (qL qS) (f1 (qL qS)))))).mono c56.le f21
        have f23 := (qL (qLr (fc qS (fc (qL qS) (f1 (qL qS)))))).mono c56.le f23
        have f25 := (qO qI).mono c56.le f25
        have f58 := (qO qI).mono c56.le f58
        have w53 := w53.call c56 (by intro z; exact ne33 z)
        cases e39
        exact ⟨F46, _, _, _, _, _, _, _, _, rfl, S59, w57, f21, f23, f25, f58, w53⟩
      · skip
        cases e39
        refine rd_next ?_
        exact ⟨F14, _, _, _, _, _, _, _, _, rfl, S40, w42, f21, f23, f25, f29, w41⟩
    · skip
      rintro σ61 H60 ⟨F62, o64, o65, o66, o67, u68, u69, u70, u71, rfl, S63, r72, r73, r74, r75, r76, w77⟩
      have S78 := S35.call S63 (by
          rintro a (rfl | rfl)
          · exact w36.mine.symm
          · exact w37.mine.symm)
      have f__law_script := qC.mono S63.le f__law_script
      have f21 := (qL (qLr (fc qS (fc (qL qS) (f1 (qL qS)))))).mono S63.le f21
      have f23 := (qL (qLr (fc qS (fc (qL qS) (f1 (qL qS)))))).mono S63.le f23
      have f25 := (qO qI).mono S63.le f25
      have f29 := (qO qI).mono S63.le f29
      have w79 : Ow P0 H0 _ _ _ _ := ⟨w77.fr, w77.at_, w36.mine⟩
      have w80 : Ow P0 H0 _ _ _ _ := ⟨r72.fr, r72.at_, w37.mine⟩
      obtain ⟨t81, e82, hm⟩ := bd_some hm
      refine rd_cut (fun σ' H' => ∃ (F : Hp) (o3 : Option V) (o4 : Option V) (o5 : Option V) (o6 : Option V) (u1_0 : V) (u1_1 : V) (u1_2 : V) (u1_4 : V), σ' = [some v__law_script, some (V.ref p6), some (V.ref p17), o3, o4, o5, o6] ∧ Sx (fun a => a = p6 ∨ a = p17) F62 H60 F H' ∧ Ow (fun a => a = p6 ∨ a = p17) H60 F H' p17 (.lst [u1_0, u1_1, u1_2, (V.bl (t81.2.2.2.2.1)), u1_4, (V.bl (t81.2.2.2.2.2.2))]) ∧ (qL (qLr (fc qS (fc (qL qS) (f1 (qL qS)))))).r K F u1_0 t81.2.1 ∧ (qL (qLr (fc qS (fc (qL qS) (f1 (qL qS)))))).r K F u1_1 t81.2.2.1 ∧ (qO qI).r K F u1_2 t81.2.2.2.1 ∧ (qO qI).r K F u1_4 t81.2.2.2.2.2.1 ∧ Ow (fun a => a = p6 ∨ a = p17) H60 F H' p6 (.lst [V.int t81.1.1, V.int t81.1.2])) ?_ ?_
      · skip
        have S83 : Sx (fun a => a = p6 ∨ a = p17) _ _ _ _ := Sx.refl S78.sub (by
            rintro a (rfl | rfl)
            · rw [w79.at_]; exact (fun h => nomatch h)
            · rw [w80.at_]; exact (fun h => nomatch h))
        have w84 : Ow (fun a => a = p6 ∨ a = p17) H60 _ _ _ _ := ⟨w79.fr, w79.at_, .inr (Or.inl rfl)⟩
        have w85 : Ow (fun a => a = p6 ∨ a = p17) H60 _ _ _ _ := ⟨w80.fr, w80.at_, .inr (Or.inr (rfl))⟩
        obtain ⟨t86, e87, e82⟩ := bd_some e82
        refine rd_ifS ?_
        refine rd_test ?_
        refine rd_op ?_
        refine rd_call ?_
        refine rd_cons ?_
        refine rd_v rfl ?_
        refine rd_cons ?_
        refine rd_c ?_
        refine rd_nil ?_
        refine ⟨F62, _, _, _, t86, rfl, S83.sub, w84.arg, e87, fun v91 F88 H89 c90 w93 f92 => ?_⟩
        have S94 := S83.call1 c90 w84
        have f__law_script := qC.mono c90.le f__law_script
        have r73 := (qL (qLr (fc qS (fc (qL qS) (f1 (qL qS)))))).mono c90.le r73
        have r74 := (qL (qLr (fc qS (fc (qL qS) (f1 (qL qS)))))).mono c90.le r74
        have r75 := (qO qI).mono c90.le r75
        have r76 := (qO qI).mono c90.le r76
        have w85 := w85.call c90 (by intro z; exact (Ne.symm ne33) z)
        have w95 := w84.back w93
        cases (show v91 = (V.int (t86.1)) from f92)
        refine rd_c ?_
        refine rd_I0 ?_
        refine rd_b ?_
        refine if_b e82 (fun b96 e82 => ?_) (fun b96 e82 => ?_)
        · skip
          have f97 : (qO qI).r K F88 V.non none := (show (qO qI).r K F88 V.non none from rfl)
          refine rd_asg ?_
          refine rd_c ?_
          refine rd_gsub ?_
          refine rd_v rfl ?_
          refine rd_c ?_
          refine rd_setO S94 w85 (us' := [u68, u69, V.non, (V.bl (t38.2.2.2.2.1)), u71, (V.bl (t38.2.2.2.2.2.2))]) (j := 2) (by rfl) (by rfl) (fun H98 c99 w100 => ?_)
          have f101 : (qO qI).r K F88 V.non none := f97
          have S102 := S94.call1 c99 w85
          have f__law_script := qC.mono c99.le f__law_script
          have r73 := (qL (qLr (fc qS (fc (qL qS) (f1 (qL qS)))))).mono c99.le r73
          have r74 := (qL (qLr (fc qS (fc (qL qS) (f1 (qL qS)))))).mono c99.le r74
          have f101 := (qO qI).mono c99.le f101
          have r76 := (qO qI).mono c99.le r76
          have w95 := w95.call c99 (by intro z; exact ne33 z)
          cases e82
          exact ⟨F88, _, _, _, _, _, _, _, _, rfl, S102, w100, r73, r74, f101, r76, w95⟩
        · skip
          cases e82
          refine rd_next ?_
          exact ⟨F88, _, _, _, _, _, _, _, _, rfl, S94, w85, r73, r74, r75, r76, w95⟩
      · skip
        rintro σ104 H103 ⟨F105, o107, o108, o109, o110, u111, u112, u113, u114, rfl, S106, r115, r116, r117, r118, r119, w120⟩
        have S121 := S78.call S106 (by
            rintro a (rfl | rfl)
            · exact w79.mine.symm
            · exact w80.mine.symm)
        have f__law_script := qC.mono S106.le f__law_script
        have r73 := (qL (qLr (fc qS (fc (qL qS) (f1 (qL qS)))))).mono S106.le r73
        have r74 := (qL (qLr (fc qS (fc (qL qS) (f1 (qL qS)))))).mono S106.le r74
        have r75 := (qO qI).mono S106.le r75
        have r76 := (qO qI).mono S106.le r76
        have w122 : Ow P0 H0 _ _ _ _ := ⟨w120.fr, w120.at_, w79.mine⟩
        have w123 : Ow P0 H0 _ _ _ _ := ⟨r115.fr, r115.at_, w80.mine⟩
        refine rd_seq ?_
        refine rd_asg ?_
        refine rd_lst ?_
        refine rd_nil ?_
        refine rd_lK rfl ?_
        refine al S121 (fun p124 H125 np126 c127 w128 => ?_)
        have r129 : Row (q2 qI qS) K F105 [] ([] : List (Int × Str)) := .nil
        have ne130 : p6 ≠ p124 := w122.ne np126
        have ne131 : p17 ≠ p124 := w123.ne np126
        have z132 := S121.free0 np126
        have S133 := S121.call0 c127
        have f__law_script := qC.mono c127.le f__law_script
        have r116 := (qL (qLr (fc qS (fc (qL qS) (f1 (qL qS)))))).mono c127.le r116
        have r117 := (qL (qLr (fc qS (fc (qL qS) (f1 (qL qS)))))).mono c127.le r117
        have r118 := (qO qI).mono c127.le r118
        have r119 := (qO qI).mono c127.le r119
        have w122 := w122.call0 c127
        have w123 := w123.call0 c127
        refine rd_gn ?_
        refine rd_seq ?_
        refine rd_asg ?_
        refine rd_op ?_
        refine rd_lst ?_
        refine rd_cons ?_
        refine rd_c ?_
        refine rd_cons ?_
        refine rd_c ?_
        refine rd_cons ?_
        refine rd_c ?_
        refine rd_nil ?_
        refine rd_lK rfl ?_
        refine alL (K := K) (A := qI) (xs := ([4, 4, 12] : List Int)) S133 (.cons rfl (.cons rfl (.cons rfl .nil))) (fun v134 F135 H136 c137 f138 => ?_)
        have S139 := S133.call0 c137
        have f__law_script := qC.mono c137.le f__law_script
        have r116 := (qL (qLr (fc qS (fc (qL qS) (f1 (qL qS)))))).mono c137.le r116
        have r117 := (qL (qLr (fc qS (fc (qL qS) (f1 (qL qS)))))).mono c137.le r117
        have r118 := (qO qI).mono c137.le r118
        have r119 := (qO qI).mono c137.le r119
        have w122 := w122.call0 c137
        have w123 := w123.call0 c137
        have r129 := Row.mono c137.le r129
        have w128 := w128.call0 c137
        obtain ⟨t140, e141, hm⟩ := bd_some hm
        refine rd_call ?_
        refine rd_cons ?_
        refine rd_v rfl ?_
        refine rd_cons ?_
        refine rd_c ?_
        refine rd_nil ?_
        refine ⟨F135, _, _, _, t140, rfl, S139.sub, w122.arg, e141, fun v145 F142 H143 c144 w147 f146 => ?_⟩
        have S148 := S139.call1 c144 w122
        have f__law_script := qC.mono c144.le f__law_script
        have f138 := (qL qI).mono c144.le f138
        have r116 := (qL (qLr (fc qS (fc (qL qS) (f1 (qL qS)))))).mono c144.le r116
        have r117 := (qL (qLr (fc qS (fc (qL qS) (f1 (qL qS)))))).mono c144.le r117
        have r118 := (qO qI).mono c144.le r118
        have r119 := (qO qI).mono c144.le r119
        have w123 := w123.call c144 (by intro z; exact (Ne.symm ne33) z)
        have r129 := Row.mono c144.le r129
        have w128 := w128.call c144 (by intro z; exact (Ne.symm ne130) z)
        have w149 := w122.back w147
        cases (show v145 = (V.int (t140.1)) from f146)
        obtain ⟨t150, e151, hm⟩ := bd_some hm
        refine rd_ixL (S148.l f138).r e151 (fun u152 f153 => ?_)
        cases (show u152 = (V.int (t150)) from f153)
        obtain ⟨g154, hm⟩ := gd_some hm
        refine rd_gn ?_
        refine rd_seq ?_
        refine rd_for ?_
        refine rd_iR1 ?_
        refine rd_cons ?_
        refine rd_cb ?_
        refine rd_cons ?_
        refine rd_c ?_
        refine rd_cons ?_
        refine rd_cb ?_
        refine rd_cons ?_
        refine rd_c ?_
        refine rd_cons ?_
        refine rd_op ?_
        refine rd_cb ?_
        refine rd_cons ?_
        refine rd_v rfl ?_
        refine rd_nil ?_
        refine rd_lenQ (S148.c f__law_script).q ?_
        refine rd_c ?_
        refine rd_I0 ?_
        refine rd_nil ?_
        refine rd_min2 ?_
        refine rd_nil ?_
        refine rd_max2 ?_
        refine rd_nil ?_
        refine rd_r1 g154 ?_
        obtain ⟨F155, S156, le157, f158, eq159⟩ := fzRec (B := (fc (qL (qLr (fc qS (fc (qL qS) (f1 (qL qS)))))) (fc (qL (qLr (fc qS (fc (qL qS) (f1 (qL qS)))))) (fc (qO qI) (fc qB (fc (qO qI) (f1 qB))))))) (a := (t81.2.1, t81.2.2.1, t81.2.2.2.1, t81.2.2.2.2.1, t81.2.2.2.2.2.1, t81.2.2.2.2.2.2)) S148 w123 z34 ⟨_, _, rfl, r116, _, _, rfl, r117, _, _, rfl, r118, _, _, rfl, rfl, _, _, rfl, r119, _, rfl, rfl⟩
        have f__law_script := qC.mono le157 f__law_script
        have r116 := (qL (qLr (fc qS (fc (qL qS) (f1 (qL qS)))))).mono le157 r116
        have r117 := (qL (qLr (fc qS (fc (qL qS) (f1 (qL qS)))))).mono le157 r117
        have r118 := (qO qI).mono le157 r118
        have r119 := (qO qI).mono le157 r119
        have w149 := w149.fzO ne33 eq159
        have r129 := Row.mono le157 r129
        have w128 := w128.fzO (Ne.symm ne131) eq159
        obtain ⟨t160, e161, hm⟩ := bd_some hm
        refine rd_forS feedsRg (typedR (K := K) (F := F142)) e161 (fun (s162 : (List (Int × Str))) σ H => ∃ (F : Hp) (o1 : Option V) (o5 : Option V) (o6 : Option V) (vs0 : List V), σ = [some v__law_script, o1, some (V.ref p17), some (V.ref p124), some (V.int (t150)), o5, o6] ∧ Sx (fun a => a = p124) F155 H143 F H ∧ Ow (fun a => a = p124) H143 F H p124 (.lst vs0) ∧ Row (q2 qI qS) K F vs0 s162) ?_ ?_ ?_ ?_
        · intro _ _ _ _; trivial
        · skip
          have S164 : Sx (fun a => a = p124) _ _ _ _ := Sx.refl S156.sub (fun a z => by rw [z, w128.at_]; exact (fun h => nomatch h))
          have w165 : Ow (fun a => a = p124) H143 _ _ _ _ := ⟨w128.fr, w128.at_, .inr (rfl)⟩
          exact ⟨F155, _, _, _, _, rfl, S164, w165, r129⟩
        · skip
          rintro x166 v167 s168 c172 σ169 H170 f171 ⟨F173, o175, o176, o177, v178, rfl, S174, w179, r180⟩ hm183
          have f__law_script := qC.mono S174.le f__law_script
          have f158 := (qLr (fc (qL (qLr (fc qS (fc (qL qS) (f1 (qL qS)))))) (fc (qL (qLr (fc qS (fc (qL qS) (f1 (qL qS)))))) (fc (qO qI) (fc qB (fc (qO qI) (f1 qB))))))).mono S174.le f158
          have w149 := w149.call S174 ne130
          unfold m_law_b1 at hm183
          cases (show v167 = (V.int (x166)) from f171)
          obtain ⟨t184, e185, hm183⟩ := bd_some hm183
          refine rd_gn ?_
          refine rd_seq ?_
          refine rd_asg ?_
          refine rd_call ?_
          refine rd_cons ?_
          refine rd_v rfl ?_
          refine rd_cons ?_
          refine rd_op ?_
          refine rd_v rfl ?_
          refine rd_c ?_
          refine rd_I0 ?_
          refine rd_nil ?_
          refine ⟨F173, _, _, _, t184, rfl, S174.sub, f__law_script, e185, fun p189 F186 H187 np190 c188 w191 => ?_⟩
          have ne192 : p6 ≠ p189 := w149.ne np190
          have ne193 : p124 ≠ p189 := w179.ne np190
          have z194 := S174.free0 np190
          have S195 := S174.call0 c188
          have f__law_script := qC.mono c188.le f__law_script
          have f158 := (qLr (fc (qL (qLr (fc qS (fc (qL qS) (f1 (qL qS)))))) (fc (qL (qLr (fc qS (fc (qL qS) (f1 (qL qS)))))) (fc (qO qI) (fc qB (fc (qO qI) (f1 qB))))))).mono c188.le f158
          have w149 := w149.call0 c188
          have r180 := Row.mono c188.le r180
          have w179 := w179.call0 c188
          have w196 : Ow (fun a => a = p124) H143 _ _ _ _ := ⟨w191.fr, w191.at_, .inl z194⟩
          obtain ⟨t197, e198, hm183⟩ := bd_some hm183
          refine rd_gn ?_
          refine rd_seq ?_
          refine rd_asg ?_
          refine rd_call ?_
          refine rd_cons ?_
          refine rd_v rfl ?_
          refine rd_cons ?_
          refine rd_v rfl ?_
          refine rd_nil ?_
          refine ⟨F186, _, _, _, t197, rfl, S195.sub, w196.arg, e198, fun v202 F199 H200 c201 w204 f203 => ?_⟩
          have S205 := S195.call1 c201 w196
          have f__law_script := qC.mono c201.le f__law_script
          have f158 := (qLr (fc (qL (qLr (fc qS (fc (qL qS) (f1 (qL qS)))))) (fc (qL (qLr (fc qS (fc (qL qS) (f1 (qL qS)))))) (fc (qO qI) (fc qB (fc (qO qI) (f1 qB))))))).mono c201.le f158
          have w149 := w149.call c201 (by intro z; exact ne192 z)
          have r180 := Row.mono c201.le r180
          have w179 := w179.call c201 (by intro z; exact ne193 z)
          have w206 := w196.back w204
          cases (show v202 = (V.int (t197.1)) from f203)
          refine rd_gn ?_
          refine rd_drop ?_
          refine rd_bm ?_
          refine rd_v rfl ?_
          refine rd_ty w179.ty ?_
          refine rd_cons ?_
          refine rd_tup ?_
          refine rd_cons ?_
          refine rd_op ?_
          refine rd_op ?_
          refine rd_v rfl ?_
          refine rd_cb ?_
          refine rd_cons ?_
          refine rd_op ?_
          refine rd_op ?_
          refine rd_v rfl ?_
          refine rd_c ?_
          refine rd_xLr (i := 4) S205 f158 (raS (raS (raS (raS ra0)))) (fun _ _ _ _ r => by obtain ⟨u0, s_u0, rfl, _, u1, s_u1, rfl, _, u2, s_u2, rfl, _, u3, s_u3, rfl, _, u4, s_u4, rfl, _, u5, rfl, _⟩ := r; exact Nat.le_of_ble_eq_true rfl) (fun u207 f208 => ?_)
          have f208 : (qO qI).r K F199 u207 ((t81.2.1, t81.2.2.1, t81.2.2.2.1, t81.2.2.2.2.1, t81.2.2.2.2.2.1, t81.2.2.2.2.2.2)).2.2.2.2.1 := f208
          have f209 : (qO qI).r K F199 (V.int (9)) (some 9) := (show (qO qI).r K F199 (V.int (9)) (some 9) from rfl)
          obtain ⟨g210, hm183⟩ := gd_some hm183
          obtain ⟨g211, hm183⟩ := gd_some hm183
          obtain ⟨g212, hm183⟩ := gd_some hm183
          obtain ⟨g213, hm183⟩ := gd_some hm183
          obtain ⟨g214, hm183⟩ := gd_some hm183
          refine rd_c ?_
          refine rd_neD (D := (dO dI)) (S205.d (dO dI) f208) (S205.d (dO dI) f209) g210 g211 ?_
          refine rd_nil ?_
          refine rd_intB ?_
          refine rd_I (mulOk_of g212) ?_
          refine rd_op ?_
          refine rd_op ?_
          refine rd_v rfl ?_
          refine rd_op ?_
          refine rd_c ?_
          refine rd_c ?_
          refine rd_I (powOk_of g213) ?_
          refine rd_I (mulOk_of g214) ?_
          refine rd_cb ?_
          refine rd_cons ?_
          refine rd_op ?_
          refine rd_op ?_
          refine rd_v rfl ?_
          refine rd_c ?_
          refine rd_xLr (i := 4) S205 f158 (raS (raS (raS (raS ra0)))) (fun _ _ _ _ r => by obtain ⟨u0, s_u0, rfl, _, u1, s_u1, rfl, _, u2, s_u2, rfl, _, u3, s_u3, rfl, _, u4, s_u4, rfl, _, u5, rfl, _⟩ := r; exact Nat.le_of_ble_eq_true rfl) (fun u215 f216 => ?_)
          have f216 : (qO qI).r K F199 u215 ((t81.2.1, t81.2.2.1, t81.2.2.2.1, t81.2.2.2.2.1, t81.2.2.2.2.2.1, t81.2.2.2.2.2.2)).2.2.2.2.1 := f216
          have f217 : (qO qI).r K F199 (V.int (9)) (some 9) := (show (qO qI).r K F199 (V.int (9)) (some 9) from rfl)
          obtain ⟨g218, hm183⟩ := gd_some hm183
          obtain ⟨g219, hm183⟩ := gd_some hm183
          obtain ⟨g220, hm183⟩ := gd_some hm183
          obtain ⟨t221, e222, hm183⟩ := bd_some hm183
          refine rd_c ?_
          refine rd_eqD (D := (dO dI)) (S205.d (dO dI) f216) (S205.d (dO dI) f217) g218 g219 ?_
          refine rd_nil ?_
          refine rd_intB ?_
          refine rd_I (mulOk_of g220) ?_
          refine rd_I0 ?_
          refine rd_cons ?_
          refine rd_call ?_
          refine rd_cons ?_
          refine rd_v rfl ?_
          refine rd_cons ?_
          refine rd_v rfl ?_
          refine rd_nil ?_
          refine ⟨F199, _, _, _, _, t221, rfl, S205.sub, w206.arg, f158, e222, fun v226 F223 H224 c225 w228 f227 => ?_⟩
          have S229 := S205.call1 c225 w206
          have f__law_script := qC.mono c225.le f__law_script
          have f158 := (qLr (fc (qL (qLr (fc qS (fc (qL qS) (f1 (qL qS)))))) (fc (qL (qLr (fc qS (fc (qL qS) (f1 (qL qS)))))) (fc (qO qI) (fc qB (fc (qO qI) (f1 qB))))))).mono c225.le f158
          have w149 := w149.call c225 (by intro z; exact ne192 z)
          have r180 := Row.mono c225.le r180
          have w179 := w179.call c225 (by intro z; exact ne193 z)
          have w230 := w206.back w228
          cases (show v226 = (V.str (t221.1)) from f227)
          refine rd_nil ?_
          refine rd_uK rfl ?_
          refine alF S229 (fun p231 F232 H233 c234 h235 => ?_)
          have S236 := S229.call0 c234
          have f__law_script := qC.mono c234.le f__law_script
          have f158 := (qLr (fc (qL (qLr (fc qS (fc (qL qS) (f1 (qL qS)))))) (fc (qL (qLr (fc qS (fc (qL qS) (f1 (qL qS)))))) (fc (qO qI) (fc qB (fc (qO qI) (f1 qB))))))).mono c234.le f158
          have w149 := w149.call0 c234
          have r180 := Row.mono c234.le r180
          have w179 := w179.call0 c234
          have w230 := w230.call0 c234
          have f237 : (q2 qI qS).r K F232 (.ref p231) (((t197.1 * (b2I ((!decide (((t81.2.1, t81.2.2.1, t81.2.2.2.1, t81.2.2.2.2.1, t81.2.2.2.2.2.1, t81.2.2.2.2.2.2)).2.2.2.2.1 = (some 9)))))) + ((t197.1 * (10 ^ (12 : Int).toNat)) * (b2I ((decide (((t81.2.1, t81.2.2.1, t81.2.2.2.1, t81.2.2.2.2.1, t81.2.2.2.2.2.1, t81.2.2.2.2.2.2)).2.2.2.2.1 = (some 9))))))), t221.1) := ⟨p231, _, _, rfl, .inl (.inl h235), rfl, rfl⟩
          obtain ⟨g238, hm183⟩ := gd_some hm183
          refine rd_nil ?_
          refine ap S236 w179 r180 g238 (fun H239 c240 w241 => ?_)
          have r242 := r180.snoc (show (q2 qI qS).r K F232 _ (((t197.1 * (b2I ((!decide (((t81.2.1, t81.2.2.1, t81.2.2.2.1, t81.2.2.2.2.1, t81.2.2.2.2.2.1, t81.2.2.2.2.2.2)).2.2.2.2.1 = (some 9)))))) + ((t197.1 * (10 ^ (12 : Int).toNat)) * (b2I ((decide (((t81.2.1, t81.2.2.1, t81.2.2.2.1, t81.2.2.2.2.1, t81.2.2.2.2.2.1, t81.2.2.2.2.2.2)).2.2.2.2.1 = (some 9))))))), t221.1) from f237)
          have S243 := S236.call1 c240 w179
          have f__law_script := qC.mono c240.le f__law_script
          have f158 := (qLr (fc (qL (qLr (fc qS (fc (qL qS) (f1 (qL qS)))))) (fc (qL (qLr (fc qS (fc (qL qS) (f1 (qL qS)))))) (fc (qO qI) (fc qB (fc (qO qI) (f1 qB))))))).mono c240.le f158
          have w149 := w149.call c240 (by intro z; exact ne130 z)
          have r242 := Row.mono c240.le r242
          have w230 := w230.call c240 (by intro z; exact (Ne.symm ne193) z)
          cases hm183
          exact ⟨F232, _, _, _, _, rfl, S243, w241, r242⟩
        · skip
          rintro σ244 H245 ⟨F246, o248, o249, o250, v251, rfl, S247, w252, r253⟩
          have S254 := S156.call1 S247 w128
          have f__law_script := qC.mono S247.le f__law_script
          have f158 := (qLr (fc (qL (qLr (fc qS (fc (qL qS) (f1 (qL qS)))))) (fc (qL (qLr (fc qS (fc (qL qS) (f1 (qL qS)))))) (fc (qO qI) (fc qB (fc (qO qI) (f1 qB))))))).mono S247.le f158
          have w149 := w149.call S247 ne130
          have w255 : Ow P0 H0 _ _ _ _ := ⟨w252.fr, w252.at_, w128.mine⟩
          obtain ⟨F256, S257, le258, f259, _, eq260⟩ := fz S254 w255 z132 r253
          have f__law_script := qC.mono le258 f__law_script
          have f158 := (qLr (fc (qL (qLr (fc qS (fc (qL qS) (f1 (qL qS)))))) (fc (qL (qLr (fc qS (fc (qL qS) (f1 (qL qS)))))) (fc (qO qI) (fc qB (fc (qO qI) (f1 qB))))))).mono le258 f158
          have w149 := w149.fzO ne130 eq260
          obtain ⟨t261, e262, hm⟩ := bd_some hm
          refine rd_ret ?_
          refine rd_call ?_
          refine rd_cons ?_
          refine rd_v rfl ?_
          refine rd_cons ?_
          refine rd_v rfl ?_
          refine rd_nil ?_
          refine ⟨F256, _, _, _, _, t261, rfl, S257.sub, f158, f259, e262, fun v266 F263 H264 c265 f267 => ?_⟩
          have S268 := S257.call0 c265
          have f__law_script := qC.mono c265.le f__law_script
          have f158 := (qLr (fc (qL (qLr (fc qS (fc (qL qS) (f1 (qL qS)))))) (fc (qL (qLr (fc qS (fc (qL qS) (f1 (qL qS)))))) (fc (qO qI) (fc qB (fc (qO qI) (f1 qB))))))).mono c265.le f158
          have f259 := (qL (q2 qI qS)).mono c265.le f259
          have w149 := w149.call0 c265
          cases (show v266 = (V.bl (t261)) from f267)
          cases hm
          exact hQ _ _ _ S268 rfl
end

/-! ### the drawn numbers -/
theorem take_ok {p : Int × Int} {n : Int} (h : 0 < n) (h2 : n < 16000000) : Ok (m_law_take p n) fun r => 0 ≤ r.1 ∧ r.1 < n := by
  unfold m_law_take
  have hm : modOk n = true := modOk_ok h
  have hz : n ≠ 0 := by omega
  refine Ok.ite (fun _ => ?_) fun _ => ?_
  · exact Ok.gd hm (Ok.gd (divOk_ok h (by omega)) (Ok.sm ⟨Int.emod_nonneg _ hz, Int.emod_lt_of_pos _ h⟩))
  · have b1 : 0 ≤ (p.2 * 48271 + 11) % 2147483647 := Int.emod_nonneg _ (by decide)
    have b2 : (p.2 * 48271 + 11) % 2147483647 < 2147483647 := Int.emod_lt_of_pos _ (by decide)
    refine Ok.gd (mulOk_r (by decide) (by decide)) (Ok.gd (by decide) (Ok.gd (mulOk_l ?_ ?_) (Ok.gd (by decide) (Ok.gd (by decide) (Ok.gd hm (Ok.sm ⟨Int.emod_nonneg _ hz, Int.emod_lt_of_pos _ h⟩))))))
    · show -(2 ^ 64) < (p.2 * 48271 + 11) % 2147483647
      omega
    · show (p.2 * 48271 + 11) % 2147483647 < 2 ^ 64
      omega
theorem pool_ok {ns : List Int} {k : Int} (h0 : 0 ≤ k) (h1 : k < 1000) : Ok (m_law_pool ns k) fun _ => True := by
  unfold m_law_pool
  refine Ok.bd (P := fun _ => True) (Ok.gd (shp_lI _) (Ok.gd (shp_lI _) (Ok.ite (fun e => ?_) fun _ => Ok.sm trivial))) fun t _ => ?_
  · have hn : ns ≠ [] := by simpa using e
    have hl : (0 : Int) < (ns.length : Int) := by
      cases ns with
      | nil => exact absurd rfl hn
      | cons x xs => show (0 : Int) < ((xs.length + 1 : Nat) : Int); omega
    refine Ok.gd (modOk_ok hl) ?_
    have b1 : 0 ≤ k % (ns.length : Int) := Int.emod_nonneg _ (by omega)
    have b2 : k % (ns.length : Int) < ns.length := Int.emod_lt_of_pos _ hl
    have hlt : (k % (ns.length : Int)).toNat < ns.length := by omega
    exact Ok.bde (a := ns[(k % (ns.length : Int)).toNat]) (by rw [atI_nn b1 b2]; simp [hlt]) (Ok.sm trivial)
  · have b1 : 0 ≤ t % 2147483629 := Int.emod_nonneg _ (by decide)
    have b2 : t % 2147483629 < 2147483629 := Int.emod_lt_of_pos _ (by decide)
    refine Ok.gd (by decide) (Ok.gd (mulOk_l (by decide) (by decide)) (Ok.gd (mulOk_r (by decide) (by decide)) (Ok.gd (by decide) (Ok.gd (by decide) (Ok.gd (mulOk_r ?_ ?_) (Ok.sm trivial))))))
    · unfold b2I; split <;> decide
    · unfold b2I; split <;> decide

/-! ### texts of the 68 signs -/
abbrev SG : Str := " #-.0123456789:>ABCDEFGHIJKLMNOPQRSTUVWXYZabcdefghijklmnopqrstuvwxyz"
def gs (s : Str) : Prop := ∀ c ∈ cl s, c ∈ cl SG
theorem gs_app {a b : Str} (h : gs a) (k : gs b) : gs (a ++ b) := by
  intro c hc
  rw [cl_app, List.mem_append] at hc
  exact hc.elim (h c) (k c)
theorem gs_sg {c : Nat} (h : c ∈ cl SG) : gs ⟨#[c]⟩ := fun d hd => by
  rw [cl_sg, List.mem_singleton] at hd
  rw [hd]; exact h
theorem gs_rep {s : Str} {n : Int} (h0 : 0 ≤ n) (h : gs s) : gs (repS s n) := fun c hc => by
  rw [repS_cl h0, List.mem_flatten] at hc
  obtain ⟨l, h1, h2⟩ := hc
  rw [List.mem_replicate] at h1
  exact h c (h1.2 ▸ h2)
theorem gs_ok {s : Str} (h : gs s) : okS s := by
  have e : ∀ c ∈ cl SG, c < 0x110000 := by decide +kernel
  show (s.cps.all (· < 0x110000)) = true
  rw [Array.all_eq_true_iff_forall_mem]
  intro c hc
  exact decide_eq_true (e c (h c (Array.mem_toList_iff.mpr hc)))
theorem gs_nil : gs "" := fun c hc => by
  have e : cl "" = [] := by decide +kernel
  rw [e] at hc
  exact absurd hc List.not_mem_nil
theorem gs_at {s z : Str} {c : Nat} {i : Nat} (h : gs s) (h1 : (cl s)[i]? = some c) (h2 : z = ⟨#[c]⟩) : gs z ∧ z.length = 1 := by
  subst h2
  exact ⟨gs_sg (h c (List.mem_of_getElem? h1)), rfl⟩
theorem gs_SG : gs SG := fun c hc => hc
theorem ix_gs {s : Str} {i : Int} (g : gs s) (h : 0 ≤ i) (h2 : i < s.length) (h3 : s.length ≤ 16000000) : Ok (ixS s i) fun z => gs z ∧ z.length = 1 :=
  (ixS_ok h h2 (Nat.le_trans h3 sizeLine_big)).mono fun z ⟨c, h1, h2⟩ => gs_at g h1 h2
theorem len_app (a b : Str) : (a ++ b).length = a.length + b.length := by rw [cl_len, cl_app, List.length_append, ← cl_len, ← cl_len]
theorem len_rep {s : Str} {n : Int} (h : 0 ≤ n) : (repS s n).length = n.toNat * s.length := by
  rw [cl_len, repS_cl h, List.length_flatten, List.map_replicate, List.sum_replicate_nat, ← cl_len]
theorem len_nil : ("" : Str).length = 0 := by decide +kernel

abbrev DG : Str := "<digits>"
abbrev WD : Str := "<word>"
abbrev AN : Str := "<any>"
/-- a part as a form has it -/
def part (s : Str) : Prop := s = AN ∨ s = DG ∨ s = WD ∨ (gs s ∧ 1 ≤ s.length ∧ s.length ≤ 4)
theorem part_ok {s : Str} (h : part s) : okS s := by
  rcases h with rfl | rfl | rfl | h
  · show PyData.strOk _ = true; decide +kernel
  · show PyData.strOk _ = true; decide +kernel
  · show PyData.strOk _ = true; decide +kernel
  · exact gs_ok h.1
theorem part_len {s : Str} (h : part s) : 1 ≤ s.length ∧ s.length ≤ 8 := by
  rcases h with rfl | rfl | rfl | h
  · decide +kernel
  · decide +kernel
  · decide +kernel
  · omega
/-! ### matching -/
theorem Ok.wh {S : Type} {c : S → Option (Bool × S)} {f : S → Option S} {Q : S → Prop} (I : S → Prop) (m : S → Nat) (hs : ∀ s, I s → Ok (c s) fun b => (b.1 = false ∧ Q b.2) ∨ (b.1 = true ∧ Ok (f b.2) fun s' => I s' ∧ m s' < m s)) : ∀ (N : Nat) (s : S), I s → m s < N → Ok (whileS c f N s) Q
  | 0, _, _, h => absurd h (Nat.not_lt_zero _)
  | N + 1, s, i, h => by
    obtain ⟨b, e, h1⟩ := hs s i
    show Ok ((c s).bind fun b => if b.1 = true then (f b.2).bind fun s' => whileS c f N s' else some b.2) Q
    rw [e]
    show Ok (if b.1 = true then (f b.2).bind fun s' => whileS c f N s' else some b.2) Q
    rcases h1 with ⟨hb, q⟩ | ⟨hb, h2⟩
    · rw [hb]; exact Ok.sm q
    · rw [hb]
      exact Ok.bd h2 fun s' ⟨i', h3⟩ => Ok.wh I m hs N s' i' (by omega)
theorem nodup_len : ∀ (n : Nat) (l : List Int), l.Nodup → (∀ x ∈ l, 0 ≤ x ∧ x < n) → l.length ≤ n
  | 0, l, _, h => by
    cases l with
    | nil => exact Nat.le_refl _
    | cons x l => have := h x List.mem_cons_self; omega
  | n + 1, l, hn, h => by
    have h1 := nodup_len n (l.erase (n : Int)) (hn.erase _) fun x hx => by
      rw [hn.mem_erase_iff] at hx
      have := h x hx.2
      have := hx.1
      omega
    by_cases hm : (n : Int) ∈ l
    · rw [List.length_erase_of_mem hm] at h1; omega
    · rw [List.erase_of_not_mem hm] at h1; omega
/-- what a cell takes -/
def tk (c x : Str) : Bool := if c = AN then true else if c = DG then inS x "0123456789" else if c = WD then inS x "ABCDEFGHIJKLMNOPQRSTUVWXYZabcdefghijklmnopqrstuvwxyz" else decide (c = x)
open Classical in
noncomputable def Pc (c : Str) (u : List Nat) : Prop := if c = AN then True else if c = DG ∨ c = WD then u ≠ [] ∧ ∀ x ∈ u, tk c ⟨#[x]⟩ = true else u = cl c
def Mt : List Str → List Nat → Prop
  | [], w => w = []
  | c :: cs, w => ∃ u v, w = u ++ v ∧ Pc c u ∧ Mt cs v
theorem Mt_snoc {c : Str} : ∀ {cs : List Str} {w : List Nat}, Mt (cs ++ [c]) w ↔ ∃ u v, w = u ++ v ∧ Mt cs u ∧ Pc c v
  | [], w => by
    constructor
    · rintro ⟨u, v, rfl, h, rfl⟩
      exact ⟨[], u, by simp, rfl, h⟩
    · rintro ⟨u, v, rfl, rfl, h⟩
      exact ⟨v, [], by simp, h, rfl⟩
  | d :: cs, w => by
    constructor
    · rintro ⟨u, v, rfl, h, k⟩
      obtain ⟨u2, v2, rfl, h2, k2⟩ := Mt_snoc.mp k
      exact ⟨u ++ u2, v2, by simp, ⟨u, u2, rfl, h, h2⟩, k2⟩
    · rintro ⟨u, v, rfl, ⟨u1, u2, rfl, h1, h2⟩, k⟩
      exact ⟨u1, u2 ++ v, by simp, h1, Mt_snoc.mpr ⟨u2, v, rfl, h2, k⟩⟩
theorem AN_ne : ¬ DG = AN ∧ ¬ WD = AN ∧ ¬ WD = DG := by decide +kernel
theorem Pc_any {u : List Nat} : Pc AN u := by unfold Pc; rw [if_pos rfl]; trivial
theorem Pc_run {c : Str} {u : List Nat} (h : c = DG ∨ c = WD) : Pc c u ↔ u ≠ [] ∧ ∀ x ∈ u, tk c ⟨#[x]⟩ = true := by
  have n : ¬ c = AN := by rcases h with rfl | rfl; exact AN_ne.1; exact AN_ne.2.1
  unfold Pc
  rw [if_neg n, if_pos h]
theorem Pc_fix {c : Str} {u : List Nat} (n : ¬ c = AN) (h : ¬ (c = DG ∨ c = WD)) : Pc c u ↔ u = cl c := by
  unfold Pc
  rw [if_neg n, if_neg h]
theorem takes_eq (c x : Str) : m_takes c x = some (tk c x) := by
  unfold m_takes tk
  by_cases h1 : c = AN
  · rw [if_pos (decide_eq_true h1), if_pos h1]
  · rw [if_neg (by rw [decide_eq_false h1]; decide), if_neg h1]
    by_cases h2 : c = DG
    · rw [if_pos (decide_eq_true h2), if_pos h2]
    · rw [if_neg (by rw [decide_eq_false h2]; decide), if_neg h2]
      by_cases h3 : c = WD
      · rw [if_pos (decide_eq_true h3), if_pos h3]
      · rw [if_neg (by rw [decide_eq_false h3]; decide), if_neg h3]
theorem ite_no {α : Type} {p : Prop} [Decidable p] {x y : α} (h : ¬ p) : (if decide p = true then x else y) = y := if_neg (by rw [decide_eq_false h]; decide)
theorem ite_ya {α : Type} {p : Prop} [Decidable p] {x y : α} (h : p) : (if decide p = true then x else y) = x := if_pos (decide_eq_true h)

/-- the ends of a piece that begins at at_ -/
theorem ends_ok {c line : Str} {a : Int} (h0 : 0 ≤ a) (h1 : a ≤ line.length) (hl : line.length ≤ 4000000) (hc : c.length ≤ 500) :
    Ok (m_law_ends c line a) fun es => es.Nodup ∧ ∀ e, e ∈ es ↔ a ≤ e ∧ e ≤ line.length ∧ Pc c (((cl line).drop a.toNat).take (e.toNat - a.toNat)) := by
  have hf : fitsS line = true := fitsS_ok (by omega)
  have hfc : fitsS c = true := fitsS_ok (by omega)
  have rnd : ∀ a b : Int, (rng a b).Nodup := fun a b => by
    unfold rng
    refine List.Pairwise.map _ (fun x y h => ?_) List.nodup_range
    intro e
    apply h
    omega
  unfold m_law_ends
  by_cases n1 : c = AN
  · rw [ite_ya n1]
    refine Ok.gd hf (Ok.gd (rgFit_ok (by omega) (by omega) (by omega) (by omega)) (Ok.sm ⟨rnd _ _, fun e => ?_⟩))
    rw [rng_mem]
    subst n1
    constructor
    · intro h; exact ⟨h.1, by omega, Pc_any⟩
    · intro h; omega
  · rw [ite_no n1]
    by_cases n2 : c = DG ∨ c = WD
    · have mem : c ∈ [("<digits>" : Str), ("<word>" : Str)] := by
        rcases n2 with h | h
        · rw [h]; exact List.mem_cons_self
        · rw [h]; exact List.mem_cons_of_mem _ List.mem_cons_self
      rw [ite_ya mem]
      obtain ⟨tkn, ht, htk⟩ : ∃ tkn : Str, ((if (decide (c = ("<word>" : Str))) = true then (some (("ABCDEFGHIJKLMNOPQRSTUVWXYZabcdefghijklmnopqrstuvwxyz" : Str))) else (some (("0123456789" : Str)))) : Option Str) = some tkn ∧ ∀ z, inS z tkn = tk c z := by
        rcases n2 with h | h
        · subst h
          exact ⟨_, if_neg (by decide +kernel), fun z => by unfold tk; rw [if_neg AN_ne.1, if_pos rfl]⟩
        · subst h
          exact ⟨_, if_pos (by decide +kernel), fun z => by unfold tk; rw [if_neg AN_ne.2.1, if_neg AN_ne.2.2, if_pos rfl]⟩
      refine Ok.bd (P := fun es => es.Nodup ∧ ∀ e, e ∈ es ↔ a ≤ e ∧ e ≤ line.length ∧ Pc c (((cl line).drop a.toNat).take (e.toNat - a.toNat))) ?_ fun es hes => Ok.sm hes
      refine Ok.bde ht ?_
      have ll : (cl line).length = line.length := (cl_len line).symm
      refine Ok.bd (P := fun s : List Int × Int => s.1 = rng (a + 1) (s.2 + 1) ∧ a ≤ s.2 ∧ s.2 ≤ line.length ∧ (∀ j : Nat, a ≤ j → (j : Int) < s.2 → ∃ x, (cl line)[j]? = some x ∧ tk c ⟨#[x]⟩ = true) ∧ (s.2 < line.length → ∃ x, (cl line)[s.2.toNat]? = some x ∧ tk c ⟨#[x]⟩ = false)) ?_ fun s ⟨e1, e2, e3, e4, e5⟩ => Ok.sm ⟨by rw [e1]; exact rnd _ _, fun e => ?_⟩
      · refine Ok.wh (fun s : List Int × Int => s.1 = rng (a + 1) (s.2 + 1) ∧ a ≤ s.2 ∧ s.2 ≤ line.length ∧ (∀ j : Nat, a ≤ j → (j : Int) < s.2 → ∃ x, (cl line)[j]? = some x ∧ tk c ⟨#[x]⟩ = true)) (fun s => line.length - s.2.toNat) (fun s ⟨e1, e2, e3, e4⟩ => ?_) fuel _ ⟨?_, Int.le_refl _, h1, fun j h2 h3 => absurd h3 (by omega)⟩ ?_
        · unfold m_law_ends_b1
          refine Ok.gd hf ?_
          by_cases hlt : s.2 < (line.length : Int)
          · rw [ite_ya hlt]
            have hlt2 : s.2.toNat < (cl line).length := by rw [ll]; omega
            have hz : ixS line s.2 = some ⟨#[(cl line)[s.2.toNat]]⟩ := by
              obtain ⟨z, e, x, hx, hz⟩ := ixS_ok (s := line) (i := s.2) (by omega) hlt (Nat.le_trans hl (Nat.le_trans (by decide) sizeLine_big))
              rw [e, hz]
              rw [List.getElem?_eq_getElem hlt2] at hx
              rw [Option.some.inj hx]
            rw [hz]
            show Ok (some (inS _ tkn, (s.1, s.2))) _
            rw [htk]
            refine Ok.sm ?_
            cases hb : tk c ⟨#[(cl line)[s.2.toNat]]⟩ with
            | false => exact .inl ⟨rfl, e1, e2, e3, e4, fun _ => ⟨_, List.getElem?_eq_getElem hlt2, hb⟩⟩
            | true =>
              refine .inr ⟨rfl, ?_⟩
              unfold m_law_ends_b2
              refine Ok.gd (fits_ok ?_) (Ok.sm ⟨⟨?_, ?_, ?_, fun j h2 h3 => ?_⟩, ?_⟩)
              · show s.1.length < 16000000
                rw [e1, rng_len]; omega
              · show s.1 ++ [s.2 + 1] = rng (a + 1) (s.2 + 1 + 1)
                rw [rng_snoc (by omega), e1]
              · show a ≤ s.2 + 1
                omega
              · show s.2 + 1 ≤ line.length
                omega
              · have h3 : (j : Int) < s.2 + 1 := h3
                by_cases ej : (j : Int) < s.2
                · exact e4 j h2 ej
                · have : j = s.2.toNat := by omega
                  subst this
                  exact ⟨_, List.getElem?_eq_getElem hlt2, hb⟩
              · show line.length - (s.2 + 1).toNat < line.length - s.2.toNat
                omega
          · rw [ite_no hlt]
            show Ok (some (false, (s.1, s.2))) _
            exact Ok.sm (.inl ⟨rfl, e1, e2, e3, e4, fun h => absurd h hlt⟩)
        · show [] = rng (a + 1) (a + 1)
          unfold rng
          rw [show (a + 1 - (a + 1)).toNat = 0 by omega]; rfl
        · show line.length - a.toNat < 1000000000
          omega
      · show e ∈ s.1 ↔ _
        rw [e1, rng_mem, Pc_run n2]
        constructor
        · intro h
          refine ⟨by omega, by omega, ?_, fun x hx => ?_⟩
          · intro h2
            have := congrArg List.length h2
            rw [List.length_take, List.length_drop] at this
            simp at this
            omega
          · obtain ⟨i, hi⟩ := List.getElem?_of_mem hx
            rw [List.getElem?_take] at hi
            split at hi
            · rw [List.getElem?_drop] at hi
              obtain ⟨y, hy1, hy2⟩ := e4 (a.toNat + i) (by omega) (by omega)
              rw [hi] at hy1
              cases hy1
              exact hy2
            · cases hi
        · rintro ⟨h2, h3, h4, h5⟩
          refine ⟨?_, ?_⟩
          · apply Classical.byContradiction
            intro h6
            have : e.toNat - a.toNat = 0 := by omega
            rw [this] at h4
            exact h4 rfl
          · apply Classical.byContradiction
            intro h6
            obtain ⟨x, hx1, hx2⟩ := e5 (by omega)
            have := h5 x (by
              apply List.mem_of_getElem? (i := s.2.toNat - a.toNat)
              rw [List.getElem?_take, if_pos (by omega), List.getElem?_drop, ← hx1]
              congr 1
              omega)
            rw [this] at hx2
            cases hx2
    · have mem : ¬ c ∈ [("<digits>" : Str), ("<word>" : Str)] := by
        intro h
        rcases List.mem_cons.mp h with h | h
        · exact n2 (.inl h)
        · rcases List.mem_cons.mp h with h | h
          · exact n2 (.inr h)
          · cases h
      rw [ite_no mem]
      refine Ok.bd (P := fun es => es.Nodup ∧ ∀ e, e ∈ es ↔ a ≤ e ∧ e ≤ line.length ∧ Pc c (((cl line).drop a.toNat).take (e.toNat - a.toNat))) ?_ fun es hes => Ok.sm hes
      have ll : (cl line).length = line.length := (cl_len line).symm
      have cc : (cl c).length = c.length := (cl_len c).symm
      have ec : cl (cutS line (some a) (some (a + (c.length : Int)))) = ((cl line).drop a.toNat).take c.length := by
        rw [cl_cut, cut_mid _ h0 (by omega)]
        congr 1
        omega
      refine Ok.gd hfc (Ok.gd hf ?_)
      by_cases he : cutS line (some a) (some (a + (c.length : Int))) = c
      · rw [ite_ya he]
        rw [he] at ec
        refine Ok.gd hfc (Ok.gd (fits_ok (by simp)) (Ok.sm ⟨by simp, fun e => ?_⟩))
        rw [Pc_fix n1 n2]
        show e ∈ [a + (c.length : Int)] ↔ _
        rw [List.mem_singleton]
        have hlen := congrArg List.length ec
        rw [List.length_take, List.length_drop, cc, ll] at hlen
        constructor
        · rintro rfl
          refine ⟨by omega, by omega, ?_⟩
          rw [ec]
          congr 1
          omega
        · rintro ⟨h2, h3, h4⟩
          have := congrArg List.length h4
          rw [List.length_take, List.length_drop, cc, ll] at this
          omega
      · rw [ite_no he]
        refine Ok.sm ⟨List.nodup_nil, fun e => ?_⟩
        rw [Pc_fix n1 n2]
        constructor
        · intro h; cases h
        · rintro ⟨h2, h3, h4⟩
          exfalso
          apply he
          apply cl_inj
          rw [ec, ← h4]
          have := congrArg List.length h4
          rw [List.length_take, List.length_drop, cc, ll] at this
          congr 1
          omega

theorem take_mid {α : Type} {w : List α} {a b : Nat} (h : a ≤ b) : w.take b = w.take a ++ (w.drop a).take (b - a) := by
  have e : b = a + (b - a) := by omega
  rw [e, List.take_add, Nat.add_sub_cancel_left]
open Classical in
/-- a line fits parts -/
theorem fits_eq {ps : List Str} {line : Str} (hl : line.length ≤ 4000000) (hc : ∀ c ∈ ps, c.length ≤ 500) : m_law_fits ps line = some (decide (line ≠ "" ∧ Mt ps (cl line))) := by
  refine Ok.eq ?_
  have ll : (cl line).length = line.length := (cl_len line).symm
  have hf : fitsS line = true := fitsS_ok (by omega)
  unfold m_law_fits
  refine Ok.bd (Ok.loop (fun pre (s : List Int) => s.Nodup ∧ ∀ e, e ∈ s ↔ 0 ≤ e ∧ e ≤ line.length ∧ Mt pre ((cl line).take e.toNat)) ⟨by simp, fun e => ?_⟩ fun pre x post s hx ⟨nd, hs⟩ => ?_) fun s ⟨nd, hs⟩ => ?_
  · rw [List.mem_singleton]
    show e = 0 ↔ 0 ≤ e ∧ e ≤ line.length ∧ (cl line).take e.toNat = []
    constructor
    · rintro rfl; exact ⟨by omega, by omega, rfl⟩
    · rintro ⟨h1, h2, h3⟩
      have := congrArg List.length h3
      rw [List.length_take, ll] at this
      simp at this
      omega
  · unfold m_law_fits_b3
    refine Ok.bd (Ok.loop (fun pre2 (s2 : List Int) => s2.Nodup ∧ ∀ e, e ∈ s2 ↔ ∃ a ∈ pre2, a ≤ e ∧ e ≤ line.length ∧ Pc x (((cl line).drop a.toNat).take (e.toNat - a.toNat))) ⟨List.nodup_nil, fun e => ?_⟩ fun pre2 a post2 s2 ha ⟨nd2, hs2⟩ => ?_) fun s2 ⟨nd2, hs2⟩ => Ok.sm ⟨nd2, fun e => ?_⟩
    · constructor
      · intro h; cases h
      · rintro ⟨a, h, _⟩; cases h
    · have hab : a ∈ s := by rw [ha]; simp
      have hab2 := (hs a).mp hab
      have bnd : ∀ l : List Int, l.Nodup → (∀ e ∈ l, 0 ≤ e ∧ e ≤ line.length) → l.length ≤ 4000001 := fun l h h2 => by
        have := nodup_len (line.length + 1) l h fun e he => by have := h2 e he; omega
        omega
      have hb2 : ∀ e ∈ s2, 0 ≤ e ∧ e ≤ (line.length : Int) := fun e he => by
        obtain ⟨a', ha', h2, h3, _⟩ := (hs2 e).mp he
        have := ((hs a').mp (by rw [ha]; exact List.mem_append_left _ ha')).1
        omega
      unfold m_law_fits_b2
      refine Ok.bd (ends_ok hab2.1 hab2.2.1 hl (hc x (by rw [hx]; simp))) fun es ⟨nde, hes⟩ => ?_
      have hbe : ∀ e ∈ es, 0 ≤ e ∧ e ≤ (line.length : Int) := fun e he => by
        have := (hes e).mp he
        omega
      have l1 := bnd es nde hbe
      have l2 := bnd s2 nd2 hb2
      refine Ok.gd (fitsE_ok (by omega)) ?_
      refine Ok.bde (comp_pure (g := fun e => if (!decide (e ∈ s2)) = true then some e else none) fun e _ => ?_) ?_
      · unfold m_law_fits_b1
        cases decide (e ∈ s2) <;> rfl
      · rw [filterMap_ite]
        have l3 : (es.filter fun e => !decide (e ∈ s2)).length ≤ es.length := List.length_filter_le _ _
        refine Ok.gd (fits2_ok (by show s2.length + (es.filter fun e => !decide (e ∈ s2)).length ≤ 16000000; omega)) (Ok.sm ⟨?_, fun e => ?_⟩)
        · refine List.nodup_append.mpr ⟨nd2, nde.filter _, fun y hy z hz e => ?_⟩
          rw [List.mem_filter] at hz
          rw [e] at hy
          have h3 := hz.2
          simp [hy] at h3
        · rw [List.mem_append, List.mem_filter]
          constructor
          · rintro (h0 | ⟨h1, _⟩)
            · obtain ⟨a', h1, h2⟩ := (hs2 e).mp h0
              exact ⟨a', List.mem_append_left _ h1, h2⟩
            · exact ⟨a, by simp, (hes e).mp h1⟩
          · rintro ⟨a', h1, h2⟩
            rcases List.mem_append.mp h1 with h1 | h1
            · exact .inl ((hs2 e).mpr ⟨a', h1, h2⟩)
            · rw [List.mem_singleton] at h1
              subst h1
              by_cases h3 : e ∈ s2
              · exact .inl h3
              · exact .inr ⟨(hes e).mpr h2, by simp [h3]⟩
    · show e ∈ s2 ↔ _
      rw [hs2 e, Mt_snoc]
      constructor
      · rintro ⟨a, h1, h2, h3, h4⟩
        have h5 := (hs a).mp h1
        refine ⟨by omega, h3, (cl line).take a.toNat, _, take_mid (by omega), h5.2.2, h4⟩
      · rintro ⟨h1, h2, u, v, h3, h4, h5⟩
        have hlen := congrArg List.length h3
        rw [List.length_take, ll, List.length_append] at hlen
        have eu : u = (cl line).take u.length := by
          have h6 := congrArg (List.take u.length) h3
          rw [List.take_take, Nat.min_eq_left (by omega), List.take_left] at h6
          exact h6.symm
        have ev : v = ((cl line).drop u.length).take (e.toNat - u.length) := by
          have h6 := congrArg (List.drop u.length) h3
          rw [List.drop_take, List.drop_left] at h6
          exact h6.symm
        refine ⟨u.length, (hs _).mpr ⟨by omega, by omega, ?_⟩, by omega, h2, ?_⟩
        · rw [Int.toNat_natCast, ← eu]; exact h4
        · rw [Int.toNat_natCast, ← ev]; exact h5
  · by_cases hn : line = ""
    · rw [if_neg (by rw [decide_eq_true hn]; decide)]
      refine Ok.sm ?_
      rw [decide_eq_false (fun h => h.1 hn)]
    · rw [if_pos (by rw [decide_eq_false hn]; rfl)]
      refine Ok.bde (by rw [gd_true hf]) (Ok.sm ?_)
      have e1 : ((line.length : Int) ∈ s) ↔ Mt ps (cl line) := by
        rw [hs]
        rw [Int.toNat_natCast, ← ll, List.take_length]
        exact ⟨fun h => h.2.2, fun h => ⟨by omega, by omega, h⟩⟩
      by_cases hm : Mt ps (cl line)
      · rw [decide_eq_true (e1.mpr hm), decide_eq_true ⟨hn, hm⟩]
      · rw [decide_eq_false (fun h => hm (e1.mp h)), decide_eq_false (fun h => hm h.2)]

/-! ### positions -/
/-- a cell: one of the three others, or one sign -/
def cell (c : Str) : Prop := c = AN ∨ c = DG ∨ c = WD ∨ ∃ x, c = ⟨#[x]⟩ ∧ x ∈ cl SG
def Rp (cs : List Str) (w : List Nat) (p : Nat) : Prop := Mt (cs.take p) w
open Classical in
noncomputable def Sp (cs : List Str) (w : List Nat) (p : Nat) : Prop := if cs[p]? = some AN then Rp cs w (p + 1) else Rp cs w p
def Clo (cs : List Str) (F : Nat → Prop) : Nat → Prop
  | 0 => F 0
  | k + 1 => F (k + 1) ∨ (cs[k]? = some AN ∧ Clo cs F k)
theorem Clo_congr {cs : List Str} {F G : Nat → Prop} : ∀ {p : Nat}, (∀ q, q ≤ p → (F q ↔ G q)) → (Clo cs F p ↔ Clo cs G p)
  | 0, h => h 0 (Nat.le_refl _)
  | p + 1, h => by
    show (F (p + 1) ∨ _) ↔ (G (p + 1) ∨ _)
    rw [h (p + 1) (Nat.le_refl _), Clo_congr fun q hq => h q (Nat.le_succ_of_le hq)]
theorem Rp_succ {cs : List Str} {w : List Nat} {p : Nat} {c : Str} (h : cs[p]? = some c) : Rp cs w (p + 1) ↔ ∃ u v, w = u ++ v ∧ Rp cs u p ∧ Pc c v := by
  unfold Rp
  rw [List.take_succ, h]
  exact Mt_snoc
theorem Rp_zero {cs : List Str} {w : List Nat} : Rp cs w 0 ↔ w = [] := Iff.rfl
theorem Rp_any {cs : List Str} {w : List Nat} {x p : Nat} (h : cs[p]? = some AN) : Rp cs (w ++ [x]) (p + 1) ↔ Rp cs (w ++ [x]) p ∨ Rp cs w (p + 1) := by
  rw [Rp_succ h, Rp_succ h]
  constructor
  · rintro ⟨u, v, e, h1, _⟩
    rcases List.eq_nil_or_concat v with rfl | ⟨v', y, rfl⟩
    · rw [List.append_nil] at e; rw [e]; exact .inl h1
    · rw [List.concat_eq_append, ← List.append_assoc] at e
      obtain ⟨e1, _⟩ := List.append_inj' e rfl
      exact .inr ⟨u, v', e1, h1, Pc_any⟩
  · rintro (h1 | ⟨u, v, rfl, h1, _⟩)
    · exact ⟨_, [], by simp, h1, Pc_any⟩
    · exact ⟨u, v ++ [x], by simp, h1, Pc_any⟩
theorem Rp_le {cs : List Str} {w : List Nat} {p : Nat} (h : cs[p]? = some AN) (k : Rp cs w p) : Rp cs w (p + 1) := (Rp_succ h).mpr ⟨w, [], by simp, k, Pc_any⟩
theorem Rp_run {cs : List Str} {w : List Nat} {x p : Nat} {c : Str} (h : cs[p]? = some c) (hc : c = DG ∨ c = WD) : Rp cs (w ++ [x]) (p + 1) ↔ tk c ⟨#[x]⟩ = true ∧ (Rp cs w p ∨ Rp cs w (p + 1)) := by
  rw [Rp_succ h, Rp_succ h]
  constructor
  · rintro ⟨u, v, e, h1, h2⟩
    rw [Pc_run hc] at h2
    rcases List.eq_nil_or_concat v with rfl | ⟨v', y, rfl⟩
    · exact absurd rfl h2.1
    · rw [List.concat_eq_append] at e h2
      rw [← List.append_assoc] at e
      obtain ⟨e1, e2⟩ := List.append_inj' e rfl
      cases e2
      refine ⟨h2.2 x (by simp), ?_⟩
      by_cases hv : v' = []
      · subst hv; rw [List.append_nil] at e1; rw [e1]; exact .inl h1
      · exact .inr ⟨u, v', e1, h1, (Pc_run hc).mpr ⟨hv, fun z hz => h2.2 z (by simp [hz])⟩⟩
  · rintro ⟨ht, h1 | ⟨u, v, rfl, h1, h2⟩⟩
    · exact ⟨w, [x], rfl, h1, (Pc_run hc).mpr ⟨by simp, fun z hz => by rw [List.mem_singleton] at hz; rw [hz]; exact ht⟩⟩
    · rw [Pc_run hc] at h2
      exact ⟨u, v ++ [x], by simp, h1, (Pc_run hc).mpr ⟨by simp, fun z hz => by
        rcases List.mem_append.mp hz with hz | hz
        · exact h2.2 z hz
        · rw [List.mem_singleton] at hz; rw [hz]; exact ht⟩⟩
theorem sg_ne {y : Nat} : ¬ (⟨#[y]⟩ : Str) = AN ∧ ¬ ((⟨#[y]⟩ : Str) = DG ∨ (⟨#[y]⟩ : Str) = WD) := by
  have h : ∀ z : Str, (⟨#[y]⟩ : Str) = z → z.length = 1 := fun z e => by rw [← e]; rfl
  have h1 : ¬ AN.length = 1 := by decide +kernel
  have h2 : ¬ DG.length = 1 := by decide +kernel
  have h3 : ¬ WD.length = 1 := by decide +kernel
  exact ⟨fun e => h1 (h _ e), fun e => e.elim (fun e => h2 (h _ e)) fun e => h3 (h _ e)⟩
theorem Rp_fix {cs : List Str} {w : List Nat} {x y p : Nat} (h : cs[p]? = some ⟨#[y]⟩) : Rp cs (w ++ [x]) (p + 1) ↔ tk ⟨#[y]⟩ ⟨#[x]⟩ = true ∧ Rp cs w p := by
  obtain ⟨n1, n2⟩ := sg_ne (y := y)
  rw [Rp_succ h]
  have ht : tk ⟨#[y]⟩ ⟨#[x]⟩ = true ↔ y = x := by
    unfold tk
    rw [if_neg n1, if_neg fun e => n2 (.inl e), if_neg fun e => n2 (.inr e), decide_eq_true_eq]
    constructor
    · intro e; cases e; rfl
    · rintro rfl; rfl
  rw [ht]
  constructor
  · rintro ⟨u, v, e, h1, h2⟩
    rw [Pc_fix n1 n2, cl_sg] at h2
    subst h2
    obtain ⟨e1, e2⟩ := List.append_inj' e rfl
    cases e2
    exact ⟨rfl, e1 ▸ h1⟩
  · rintro ⟨rfl, h1⟩
    exact ⟨w, [y], rfl, h1, (Pc_fix n1 n2).mpr rfl⟩
/-- where a sign leads -/
def Fd (cs : List Str) (S : Nat → Prop) (x : Nat) (q : Nat) : Prop :=
  (∃ a c, S a ∧ cs[a]? = some c ∧ tk c ⟨#[x]⟩ = true ∧ q = if c = AN then a else a + 1) ∨ (S q ∧ 0 < q ∧ ∃ c, cs[q - 1]? = some c ∧ (c = DG ∨ c = WD) ∧ tk c ⟨#[x]⟩ = true)
theorem tk_any {x : Str} : tk AN x = true := by unfold tk; rw [if_pos rfl]
theorem Sp_any {cs : List Str} {w : List Nat} {p : Nat} (h : cs[p]? = some AN) : Sp cs w p ↔ Rp cs w (p + 1) := by unfold Sp; rw [if_pos h]
theorem Sp_no {cs : List Str} {w : List Nat} {p : Nat} (h : ¬ cs[p]? = some AN) : Sp cs w p ↔ Rp cs w p := by unfold Sp; rw [if_neg h]
theorem Sp_of {cs : List Str} {w : List Nat} {p : Nat} (h : Rp cs w p) : Sp cs w p := by
  by_cases e : cs[p]? = some AN
  · exact (Sp_any e).mpr (Rp_le e h)
  · exact (Sp_no e).mpr h
/-- a sign's step, whole -/
theorem step_iff {cs : List Str} (hc : ∀ c ∈ cs, cell c) {w : List Nat} {x : Nat} : ∀ p : Nat, p ≤ cs.length → (Clo cs (Fd cs (Sp cs w) x) p ↔ Sp cs (w ++ [x]) p) := by
  -- what the cell ahead gives
  have back : ∀ p : Nat, p + 1 ≤ cs.length → ∀ c, cs[p]? = some c → ¬ c = AN → (Fd cs (Sp cs w) x (p + 1) → Sp cs (w ++ [x]) (p + 1)) ∧ (Rp cs (w ++ [x]) (p + 1) → Fd cs (Sp cs w) x (p + 1)) := by
    intro p hp c h hn
    have hns : ¬ cs[p]? = some AN := by rw [h]; exact fun e => hn (Option.some.inj e)
    have hcell := hc c (List.mem_of_getElem? h)
    have rfix : c = DG ∨ c = WD ∨ ∃ y, c = ⟨#[y]⟩ := by
      rcases hcell with e | e | e | ⟨y, e, _⟩
      · exact absurd e hn
      · exact .inl e
      · exact .inr (.inl e)
      · exact .inr (.inr ⟨y, e⟩)
    constructor
    · rintro (⟨a, d, h1, h2, h3, h4⟩ | ⟨h1, _, d, h2, h3, h4⟩)
      · by_cases hd : d = AN
        · subst hd
          rw [if_pos rfl] at h4
          subst h4
          rw [Sp_any h2] at h1 ⊢
          exact (Rp_any h2).mpr (.inr h1)
        · rw [if_neg hd] at h4
          have e : a = p := by omega
          subst e
          rw [h] at h2
          cases h2
          rw [Sp_no hns] at h1
          refine Sp_of ?_
          rcases rfix with e | e | ⟨y, e⟩
          · exact (Rp_run h (.inl e)).mpr ⟨h3, .inl h1⟩
          · exact (Rp_run h (.inr e)).mpr ⟨h3, .inl h1⟩
          · subst e; exact (Rp_fix h).mpr ⟨h3, h1⟩
      · rw [Nat.add_sub_cancel, h] at h2
        cases h2
        by_cases e : cs[p + 1]? = some AN
        · rw [Sp_any e] at h1 ⊢
          exact (Rp_any e).mpr (.inr h1)
        · rw [Sp_no e] at h1 ⊢
          exact (Rp_run h h3).mpr ⟨h4, .inr h1⟩
    · intro h1
      rcases rfix with e | e | ⟨y, e⟩
      · obtain ⟨h2, h3 | h3⟩ := (Rp_run h (.inl e)).mp h1
        · exact .inl ⟨p, c, Sp_of h3, h, h2, by rw [if_neg hn]⟩
        · exact .inr ⟨Sp_of h3, Nat.succ_pos _, c, by rw [Nat.add_sub_cancel]; exact h, .inl e, h2⟩
      · obtain ⟨h2, h3 | h3⟩ := (Rp_run h (.inr e)).mp h1
        · exact .inl ⟨p, c, Sp_of h3, h, h2, by rw [if_neg hn]⟩
        · exact .inr ⟨Sp_of h3, Nat.succ_pos _, c, by rw [Nat.add_sub_cancel]; exact h, .inr e, h2⟩
      · subst e
        obtain ⟨h2, h3⟩ := (Rp_fix h).mp h1
        exact .inl ⟨p, _, Sp_of h3, h, h2, by rw [if_neg hn]⟩
  -- a cell for any signs that stays
  have stay : ∀ p, Fd cs (Sp cs w) x p → cs[p]? = some AN → (∃ p', p = p' + 1 ∧ cs[p']? = some AN) ∨ p = 0 → Sp cs (w ++ [x]) p := by
    rintro p (⟨a, d, h1, h2, h3, h4⟩ | ⟨h1, h0, d, h2, h3, h4⟩) hp hb
    · by_cases hd : d = AN
      · subst hd
        rw [if_pos rfl] at h4
        subst h4
        rw [Sp_any h2] at h1 ⊢
        exact (Rp_any h2).mpr (.inr h1)
      · rw [if_neg hd] at h4
        rcases hb with ⟨p', e1, e2⟩ | e
        · have : a = p' := by omega
          subst this
          rw [h2] at e2
          exact absurd (Option.some.inj e2) hd
        · omega
    · rw [Sp_any hp] at h1 ⊢
      exact (Rp_any hp).mpr (.inr h1)
  have stay2 : ∀ p, cs[p]? = some AN → Rp cs w (p + 1) → Fd cs (Sp cs w) x p := fun p h1 h2 => .inl ⟨p, AN, (Sp_any h1).mpr h2, h1, tk_any, by rw [if_pos rfl]⟩
  intro p
  induction p with
  | zero =>
    intro _
    show Fd cs (Sp cs w) x 0 ↔ _
    have nz : ¬ Rp cs (w ++ [x]) 0 := by rw [Rp_zero]; simp
    by_cases e : cs[0]? = some AN
    · rw [Sp_any e, Rp_any e]
      exact ⟨fun h => (Rp_any e).mp ((Sp_any e).mp (stay 0 h e (.inr rfl))), fun h => stay2 0 e (h.elim (fun h => absurd h nz) id)⟩
    · rw [Sp_no e]
      refine ⟨fun h => ?_, fun h => absurd h nz⟩
      rcases h with ⟨a, d, h1, h2, h3, h4⟩ | ⟨_, h0, _⟩
      · by_cases hd : d = AN
        · subst hd
          rw [if_pos rfl] at h4
          subst h4
          exact absurd h2 e
        · rw [if_neg hd] at h4; omega
      · omega
  | succ p ih =>
    intro hp
    have ih := ih (by omega)
    show (Fd cs (Sp cs w) x (p + 1) ∨ (cs[p]? = some AN ∧ Clo cs (Fd cs (Sp cs w) x) p)) ↔ _
    rw [ih]
    have hlt : p < cs.length := by omega
    obtain ⟨c, hcp⟩ : ∃ c, cs[p]? = some c := ⟨cs[p], List.getElem?_eq_getElem hlt⟩
    by_cases e : cs[p]? = some AN
    · -- the cell ahead is for any signs
      constructor
      · rintro (h | ⟨_, h⟩)
        · by_cases e1 : cs[p + 1]? = some AN
          · exact stay (p + 1) h e1 (.inl ⟨p, rfl, e⟩)
          · rcases h with ⟨a, d, h1, h2, h3, h4⟩ | ⟨_, _, d, h2, h3, _⟩
            · by_cases hd : d = AN
              · subst hd
                rw [if_pos rfl] at h4
                subst h4
                exact absurd h2 e1
              · rw [if_neg hd] at h4
                have : a = p := by omega
                subst this
                rw [h2] at e
                exact absurd (Option.some.inj e) hd
            · rw [Nat.add_sub_cancel, e] at h2
              cases h2
              rcases h3 with h3 | h3
              · exact absurd h3.symm AN_ne.1
              · exact absurd h3.symm AN_ne.2.1
        · rw [Sp_any e] at h
          exact Sp_of h
      · intro h
        by_cases e1 : cs[p + 1]? = some AN
        · rw [Sp_any e1, Rp_any e1] at h
          rcases h with h | h
          · exact .inr ⟨e, (Sp_any e).mpr h⟩
          · exact .inl (stay2 _ e1 h)
        · rw [Sp_no e1] at h
          exact .inr ⟨e, (Sp_any e).mpr h⟩
    · have hn : ¬ c = AN := fun z => e (by rw [hcp, z])
      obtain ⟨b1, b2⟩ := back p hp c hcp hn
      constructor
      · rintro (h | ⟨h, _⟩)
        · exact b1 h
        · exact absurd h e
      · intro h
        by_cases e1 : cs[p + 1]? = some AN
        · rw [Sp_any e1, Rp_any e1] at h
          rcases h with h | h
          · exact .inl (b2 h)
          · exact .inl (stay2 _ e1 h)
        · rw [Sp_no e1] at h
          exact .inl (b2 h)
/-- at the start -/
theorem start_iff {cs : List Str} (hc : ∀ c ∈ cs, cell c) : ∀ p : Nat, p ≤ cs.length → (Clo cs (fun q => q = 0) p ↔ Sp cs [] p) := by
  have nil : ∀ p c, cs[p]? = some c → (Rp cs [] (p + 1) ↔ c = AN ∧ Rp cs [] p) := by
    intro p c h
    rw [Rp_succ h]
    constructor
    · rintro ⟨u, v, e, h1, h2⟩
      obtain ⟨rfl, rfl⟩ := List.append_eq_nil_iff.mp e.symm
      refine ⟨?_, h1⟩
      rcases hc c (List.mem_of_getElem? h) with e | e | e | ⟨y, e, _⟩
      · exact e
      · exact absurd rfl ((Pc_run (.inl e)).mp h2).1
      · exact absurd rfl ((Pc_run (.inr e)).mp h2).1
      · subst e
        have := (Pc_fix sg_ne.1 sg_ne.2).mp h2
        cases this
    · rintro ⟨rfl, h1⟩
      exact ⟨[], [], rfl, h1, Pc_any⟩
  have sp : ∀ p, Sp cs [] p ↔ Rp cs [] p := by
    intro p
    by_cases e : cs[p]? = some AN
    · rw [Sp_any e, nil p AN e]; exact ⟨fun h => h.2, fun h => ⟨rfl, h⟩⟩
    · rw [Sp_no e]
  intro p
  induction p with
  | zero => intro _; rw [sp]; show (0 = 0) ↔ ([] : List Nat) = []; simp
  | succ p ih =>
    intro hp
    rw [sp]
    have hlt : p < cs.length := by omega
    have hcp : cs[p]? = some cs[p] := List.getElem?_eq_getElem hlt
    show (p + 1 = 0 ∨ (cs[p]? = some AN ∧ Clo cs _ p)) ↔ _
    rw [ih (by omega), sp, nil p _ hcp, hcp]
    constructor
    · rintro (h | ⟨h, h2⟩)
      · omega
      · exact ⟨Option.some.inj h, h2⟩
    · rintro ⟨h, h2⟩
      exact .inr ⟨by rw [h], h2⟩
open Classical in
/-- the numbers up to all cells that are told -/
noncomputable def told (cs : List Str) (F : Nat → Prop) : List Int := (rng 0 ((cs.length : Int) + 1)).filter fun i => decide (F i.toNat)
open Classical in
theorem told_congr {cs : List Str} {F G : Nat → Prop} (h : ∀ p, p ≤ cs.length → (F p ↔ G p)) : told cs F = told cs G := by
  unfold told
  refine List.filter_congr fun i hi => ?_
  rw [rng_mem] at hi
  by_cases e : F i.toNat
  · rw [decide_eq_true e, decide_eq_true ((h _ (by omega)).mp e)]
  · rw [decide_eq_false e, decide_eq_false fun z => e ((h _ (by omega)).mpr z)]
open Classical in
theorem told_mem {cs : List Str} {F : Nat → Prop} {i : Int} : i ∈ told cs F ↔ 0 ≤ i ∧ i ≤ cs.length ∧ F i.toNat := by
  unfold told
  rw [List.mem_filter, rng_mem, decide_eq_true_eq]
  constructor
  · intro h; exact ⟨by omega, by omega, h.2⟩
  · intro h; exact ⟨by omega, h.2.2⟩
theorem told_len {cs : List Str} {F : Nat → Prop} : (told cs F).length ≤ cs.length + 1 := by
  unfold told
  refine Nat.le_trans (List.length_filter_le _ _) ?_
  rw [rng_len]; omega
theorem filter_len {α : Type} (p : α → Bool) (xs : List α) : (xs.filter p).length ≤ xs.length := List.length_filter_le _ _
open Classical in
theorem closed_eq {cs : List Str} {ps : List Int} (hl : cs.length ≤ 500) : m_closed cs ps = some (told cs (Clo cs fun q => (q : Int) ∈ ps)) := by
  unfold m_closed
  rw [gd_true (rgOk_ok (by omega) (by omega) (by omega) (by omega))]
  refine Ok.eq (Ok.bde (loop_pick (fun i => @decide (Clo cs (fun q => (q : Int) ∈ ps) i.toNat) (Classical.propDecidable _)) fun pre x post e => ?_) (Ok.sm rfl))
  obtain ⟨e1, e2, e3, e4⟩ := rng_at e
  have hx : x.toNat = pre.length := by omega
  have hpl : pre.length ≤ 501 := by omega
  unfold m_closed_b1
  refine Ok.eq (Ok.bd (P := fun t => t = @decide (Clo cs (fun q => (q : Int) ∈ ps) x.toNat) (Classical.propDecidable _)) ?_ fun t ht => ?_)
  · by_cases hm : x ∈ ps
    · rw [ite_ya hm]
      refine Ok.sm ?_
      symm
      apply decide_eq_true
      cases hq : x.toNat with
      | zero =>
        show ((0 : Nat) : Int) ∈ ps
        have : x = ((0 : Nat) : Int) := by omega
        rw [← this]; exact hm
      | succ k =>
        refine .inl ?_
        show ((k + 1 : Nat) : Int) ∈ ps
        have : x = ((k + 1 : Nat) : Int) := by omega
        rw [← this]; exact hm
    · rw [ite_no hm]
      by_cases h0 : 0 < x
      · rw [ite_ya h0]
        obtain ⟨k, hk⟩ : ∃ k : Nat, x = ((k + 1 : Nat) : Int) := ⟨x.toNat - 1, by omega⟩
        have hk2 : x.toNat = k + 1 := by omega
        have hk1 : (x - 1).toNat = k := by omega
        have hlt : k < cs.length := by omega
        have hat : atI cs (x - 1) = some cs[k] := by
          rw [atI_nn (by omega) (by omega), hk1]; exact List.getElem?_eq_getElem hlt
        rw [hat]
        refine Ok.sm ?_
        show (decide (cs[k] = AN) && decide (x - 1 ∈ pre.filter _)) = _
        rw [← Bool.decide_and]
        have key : (cs[k] = AN ∧ x - 1 ∈ pre.filter fun i => @decide (Clo cs (fun q => (q : Int) ∈ ps) i.toNat) (Classical.propDecidable _)) ↔ Clo cs (fun q => (q : Int) ∈ ps) x.toNat := by
          rw [hk2]
          show _ ↔ (((k + 1 : Nat) : Int) ∈ ps ∨ (cs[k]? = some AN ∧ Clo cs _ k))
          rw [List.mem_filter, e2, rng_mem, decide_eq_true_eq, hk1, List.getElem?_eq_getElem hlt]
          constructor
          · rintro ⟨h1, _, h2⟩; exact .inr ⟨by rw [h1], h2⟩
          · rintro (h | ⟨h1, h2⟩)
            · exact absurd (by rw [hk]; exact h) hm
            · exact ⟨Option.some.inj h1, ⟨by omega, by omega⟩, h2⟩
        by_cases hz : Clo cs (fun q => (q : Int) ∈ ps) x.toNat
        · rw [decide_eq_true (key.mpr hz)]; exact (decide_eq_true hz).symm
        · rw [decide_eq_false fun z => hz (key.mp z)]; exact (decide_eq_false hz).symm
      · rw [ite_no h0]
        refine Ok.sm ?_
        symm
        apply decide_eq_false
        have : x.toNat = 0 := by omega
        rw [this]
        show ¬ ((0 : Nat) : Int) ∈ ps
        have : x = ((0 : Nat) : Int) := by omega
        rw [← this]; exact hm
  · rw [ht]
    refine Ok.ite (fun h => ?_) fun h => ?_
    · refine Ok.gd (fits_ok (Nat.lt_of_le_of_lt (filter_len _ _) (by omega))) (Ok.sm ?_)
      rw [if_pos h]
    · refine Ok.sm ?_
      rw [if_neg (by rw [h]; decide)]
theorem started_eq {cs : List Str} (hc : ∀ c ∈ cs, cell c) (hl : cs.length ≤ 500) : m_started cs = some (told cs (Sp cs [])) := by
  unfold m_started
  refine Ok.eq (Ok.bde (closed_eq hl) (Ok.sm ?_))
  refine told_congr fun p hp => ?_
  rw [← start_iff hc p hp]
  refine Clo_congr fun q _ => ?_
  rw [List.mem_singleton]; omega
theorem moved_eq {cs : List Str} (hc : ∀ c ∈ cs, cell c) (hl : cs.length ≤ 500) {w : List Nat} {x : Nat} : m_moved cs (told cs (Sp cs w)) ⟨#[x]⟩ = some (told cs (Sp cs (w ++ [x]))) := by
  unfold m_moved
  refine Ok.eq (Ok.bd (P := fun r : List Int => ∀ q : Nat, ((q : Int) ∈ r ↔ Fd cs (Sp cs w) x q)) ?_ fun r hr => Ok.bde (closed_eq hl) (Ok.sm ?_))
  · let G : Int → Nat → Prop := fun a q => (∃ c, cs[a.toNat]? = some c ∧ tk c ⟨#[x]⟩ = true ∧ q = if c = AN then a.toNat else a.toNat + 1) ∨ (q = a.toNat ∧ 0 < q ∧ ∃ c, cs[q - 1]? = some c ∧ (c = DG ∨ c = WD) ∧ tk c ⟨#[x]⟩ = true)
    refine (Ok.loop (fun pre (s : List Int) => s.length ≤ 2 * pre.length ∧ (∀ q : Nat, (q : Int) ∈ s ↔ ∃ a ∈ pre, G a q)) ⟨Nat.le_refl _, fun q => ?_⟩ fun pre a post s e ⟨hlen, hs⟩ => ?_).mono fun r ⟨_, hr⟩ q => ?_
    · constructor
      · intro h; cases h
      · rintro ⟨a, h, _⟩; cases h
    · have ha : a ∈ told cs (Sp cs w) := by rw [e]; simp
      obtain ⟨a0, a1, _⟩ := told_mem.mp ha
      have hpl : pre.length ≤ 501 := by
        have := congrArg List.length e
        have h2 := told_len (cs := cs) (F := Sp cs w)
        rw [List.length_append] at this
        omega
      unfold m_moved_b1
      -- the first: on
      refine Ok.bd (P := fun t : List Int => t.length ≤ s.length + 1 ∧ ∀ q : Nat, (q : Int) ∈ t ↔ (q : Int) ∈ s ∨ ∃ c, cs[a.toNat]? = some c ∧ tk c ⟨#[x]⟩ = true ∧ q = if c = AN then a.toNat else a.toNat + 1) ?_ fun t ⟨tl, ht⟩ => ?_
      · by_cases hlt : a < (cs.length : Int)
        · have hlt2 : a.toNat < cs.length := by omega
          have hat : atI cs a = some cs[a.toNat] := by rw [atI_nn a0 hlt]; exact List.getElem?_eq_getElem hlt2
          rw [ite_ya hlt, hat]
          show Ok (((((m_takes cs[a.toNat] ⟨#[x]⟩).bind fun t65 => some t65)).bind fun t55 => _)) _
          rw [takes_eq]
          show Ok (if tk cs[a.toNat] ⟨#[x]⟩ = true then _ else _) _
          refine Ok.ite (fun h => ?_) fun h => ?_
          · show Ok ((some cs[a.toNat]).bind _) _
            show Ok ((if decide (cs[a.toNat] = AN) = true then some a else some (a + 1)).bind _) _
            by_cases hA : cs[a.toNat] = AN
            · rw [ite_ya hA]
              refine Ok.gd (fits_ok (by omega)) (Ok.sm ⟨by simp, fun q => ?_⟩)
              show (q : Int) ∈ s ++ [a] ↔ _
              rw [List.mem_append, List.mem_singleton]
              refine or_congr Iff.rfl ⟨fun h2 => ⟨_, List.getElem?_eq_getElem hlt2, h, by rw [if_pos hA]; omega⟩, ?_⟩
              rintro ⟨c, h2, _, h3⟩
              rw [List.getElem?_eq_getElem hlt2] at h2
              cases h2
              rw [if_pos hA] at h3
              omega
            · rw [ite_no hA]
              refine Ok.gd (fits_ok (by omega)) (Ok.sm ⟨by simp, fun q => ?_⟩)
              show (q : Int) ∈ s ++ [a + 1] ↔ _
              rw [List.mem_append, List.mem_singleton]
              refine or_congr Iff.rfl ⟨fun h2 => ⟨_, List.getElem?_eq_getElem hlt2, h, by rw [if_neg hA]; omega⟩, ?_⟩
              rintro ⟨c, h2, _, h3⟩
              rw [List.getElem?_eq_getElem hlt2] at h2
              cases h2
              rw [if_neg hA] at h3
              omega
          · refine Ok.sm ⟨by omega, fun q => ⟨fun h2 => .inl h2, ?_⟩⟩
            rintro (h2 | ⟨c, h2, h3, _⟩)
            · exact h2
            · rw [List.getElem?_eq_getElem hlt2] at h2
              cases h2
              rw [h] at h3
              cases h3
        · rw [ite_no hlt]
          refine Ok.bde rfl (Ok.ite (fun h => absurd h (by decide)) fun _ => Ok.sm ⟨by omega, fun q => ⟨fun h2 => .inl h2, ?_⟩⟩)
          rintro (h2 | ⟨c, h2, h3, _⟩)
          · exact h2
          · rw [List.getElem?_eq_none (by omega)] at h2
            cases h2
      -- the second: it stays
      · have fin : ∀ z : List Int, (z.length ≤ t.length + 1 ∧ ∀ q : Nat, (q : Int) ∈ z ↔ (q : Int) ∈ t ∨ (q = a.toNat ∧ 0 < q ∧ ∃ c, cs[q - 1]? = some c ∧ (c = DG ∨ c = WD) ∧ tk c ⟨#[x]⟩ = true)) → z.length ≤ 2 * (pre ++ [a]).length ∧ ∀ q : Nat, (q : Int) ∈ z ↔ ∃ a' ∈ pre ++ [a], G a' q := by
          rintro z ⟨zl, hz⟩
          refine ⟨by simp; omega, fun q => ?_⟩
          rw [hz q, ht q, hs q]
          constructor
          · rintro ((⟨a', h1, h2⟩ | h) | h)
            · exact ⟨a', List.mem_append_left _ h1, h2⟩
            · exact ⟨a, by simp, .inl h⟩
            · exact ⟨a, by simp, .inr h⟩
          · rintro ⟨a', h1, h2⟩
            rcases List.mem_append.mp h1 with h1 | h1
            · exact .inl (.inl ⟨a', h1, h2⟩)
            · rw [List.mem_singleton] at h1
              subst h1
              rcases h2 with h2 | h2
              · exact .inl (.inr h2)
              · exact .inr h2
        refine Ok.mono ?_ fin
        by_cases h0 : 0 < a
        · have hlt2 : a.toNat - 1 < cs.length := by omega
          have hat : atI cs (a - 1) = some cs[a.toNat - 1] := by
            rw [atI_nn (by omega) (by omega), show (a - 1).toNat = a.toNat - 1 by omega]; exact List.getElem?_eq_getElem hlt2
          rw [ite_ya h0, hat]
          show Ok (((((if decide (cs[a.toNat - 1] ∈ [("<digits>" : Str), ("<word>" : Str)]) = true then _ else some false).bind _)).bind _)) _
          by_cases hm : cs[a.toNat - 1] ∈ [("<digits>" : Str), ("<word>" : Str)]
          · have hd : cs[a.toNat - 1] = DG ∨ cs[a.toNat - 1] = WD := by
              rcases List.mem_cons.mp hm with h | h
              · exact .inl h
              · exact .inr (List.mem_singleton.mp h)
            rw [ite_ya hm]
            show Ok (((((m_takes cs[a.toNat - 1] ⟨#[x]⟩).bind fun t201 => some t201).bind fun t191 => some t191)).bind fun t163 => if t163 = true then _ else _) _
            rw [takes_eq]
            show Ok (if tk cs[a.toNat - 1] ⟨#[x]⟩ = true then _ else _) _
            refine Ok.ite (fun h => ?_) fun h => ?_
            · refine Ok.gd (fits_ok (by omega)) (Ok.sm ⟨by simp, fun q => ?_⟩)
              rw [List.mem_append, List.mem_singleton]
              refine or_congr Iff.rfl ⟨fun h2 => ?_, fun h2 => by omega⟩
              have hq : q = a.toNat := by omega
              exact ⟨hq, by omega, _, by rw [hq]; exact List.getElem?_eq_getElem hlt2, hd, h⟩
            · refine Ok.sm ⟨by omega, fun q => ⟨fun h2 => .inl h2, ?_⟩⟩
              rintro (h2 | ⟨h2, _, c, h3, _, h4⟩)
              · exact h2
              · rw [h2, List.getElem?_eq_getElem hlt2] at h3
                cases h3
                rw [h] at h4
                cases h4
          · rw [ite_no hm]
            refine Ok.sm ⟨by omega, fun q => ⟨fun h2 => .inl h2, ?_⟩⟩
            rintro (h2 | ⟨h2, _, c, h3, h4, _⟩)
            · exact h2
            · rw [h2, List.getElem?_eq_getElem hlt2] at h3
              cases h3
              rcases h4 with h4 | h4
              · exact absurd (by rw [h4]; exact List.mem_cons_self) hm
              · exact absurd (by rw [h4]; exact List.mem_cons_of_mem _ List.mem_cons_self) hm
        · rw [ite_no h0]
          refine Ok.sm ⟨by omega, fun q => ⟨fun h2 => .inl h2, ?_⟩⟩
          rintro (h2 | ⟨h2, h3, _⟩)
          · exact h2
          · omega
    · rw [hr q]
      constructor
      · rintro ⟨a, h1, h2⟩
        obtain ⟨h3, h4, h5⟩ := told_mem.mp h1
        rcases h2 with ⟨c, h6, h7, h8⟩ | ⟨h6, h7⟩
        · exact .inl ⟨a.toNat, c, h5, h6, h7, h8⟩
        · exact .inr ⟨by rw [h6]; exact h5, h7⟩
      · rintro (⟨a, c, h1, h2, h3, h4⟩ | ⟨h1, h2, c, h3, h4⟩)
        · have hlt : a < cs.length := by
            apply Classical.byContradiction
            intro h5
            rw [List.getElem?_eq_none (by omega)] at h2
            cases h2
          exact ⟨(a : Int), told_mem.mpr ⟨by omega, by omega, by rw [Int.toNat_natCast]; exact h1⟩, .inl ⟨c, by rw [Int.toNat_natCast]; exact h2, h3, by rw [Int.toNat_natCast]; exact h4⟩⟩
        · have hlt : q - 1 < cs.length := by
            apply Classical.byContradiction
            intro h5
            rw [List.getElem?_eq_none (by omega)] at h3
            cases h3
          exact ⟨(q : Int), told_mem.mpr ⟨by omega, by omega, by rw [Int.toNat_natCast]; exact h1⟩, .inr ⟨by rw [Int.toNat_natCast], h2, c, h3, h4⟩⟩
  · refine told_congr fun p hp => ?_
    rw [← step_iff hc p hp]
    exact Clo_congr fun q _ => hr q

/-! ### cells -/
def cellsT (ps : List Str) : List Str := ps.flatMap fun p => if p ∈ ([DG, WD, AN] : List Str) then [p] else sgns p
theorem sgns_len (z : Str) : (sgns z).length = z.length := by rw [sgns_cl, List.length_map, ← cl_len]
theorem cellsT_snoc (ps : List Str) (p : Str) : cellsT (ps ++ [p]) = cellsT ps ++ if p ∈ ([DG, WD, AN] : List Str) then [p] else sgns p := by
  unfold cellsT; rw [List.flatMap_append]; simp
theorem cellsT_len {ps : List Str} (h : ∀ p ∈ ps, part p) : (cellsT ps).length ≤ 8 * ps.length := by
  induction ps with
  | nil => exact Nat.le_refl _
  | cons p ps ih =>
    have ih := ih fun q hq => h q (List.mem_cons_of_mem _ hq)
    show ((if p ∈ ([DG, WD, AN] : List Str) then [p] else sgns p) ++ cellsT ps).length ≤ _
    rw [List.length_append, List.length_cons]
    have : (if p ∈ ([DG, WD, AN] : List Str) then [p] else sgns p).length ≤ 8 := by
      split
      · simp
      · rw [sgns_len]; exact (part_len (h p List.mem_cons_self)).2
    omega
theorem cellsT_cell {ps : List Str} (h : ∀ p ∈ ps, part p) : ∀ c ∈ cellsT ps, cell c := by
  intro c hc
  obtain ⟨p, hp, h2⟩ := List.mem_flatMap.mp hc
  split at h2
  · rename_i hf
    rw [List.mem_singleton] at h2
    subst h2
    rcases List.mem_cons.mp hf with e | hf
    · exact .inr (.inl e)
    · rcases List.mem_cons.mp hf with e | hf
      · exact .inr (.inr (.inl e))
      · exact .inl (List.mem_singleton.mp hf)
  · rename_i hf
    rcases h p hp with e | e | e | ⟨g, _⟩
    · exact absurd (by rw [e]; simp) hf
    · exact absurd (by rw [e]; simp) hf
    · exact absurd (by rw [e]; simp) hf
    · rw [sgns_cl, List.mem_map] at h2
      obtain ⟨y, hy, rfl⟩ := h2
      exact .inr (.inr (.inr ⟨y, rfl, g y hy⟩))
theorem cells_of_eq {ps : List Str} (h : ∀ p ∈ ps, part p) (hl : ps.length ≤ 50) : m_cells_of ps = some (cellsT ps) := by
  unfold m_cells_of
  refine Ok.eq (Ok.bd (Ok.loop (fun pre s => s = cellsT pre) rfl fun pre x post s e hs => ?_) fun s hs => Ok.sm hs)
  have hp : ∀ p ∈ pre, part p := fun p hp => h p (by rw [e]; exact List.mem_append_left _ hp)
  have hx : part x := h x (by rw [e]; simp)
  have l1 := cellsT_len hp
  have l2 := congrArg List.length e
  rw [List.length_append] at l2
  have l3 := part_len hx
  subst hs
  unfold m_cells_of_b1
  by_cases hf : x ∈ ([DG, WD, AN] : List Str)
  · rw [ite_ya hf]
    exact Ok.gd (fits_ok (by omega)) (Ok.sm (by rw [cellsT_snoc, if_pos hf]))
  · rw [ite_no hf]
    exact Ok.gd (fitsS_ok (by omega)) (Ok.gd (fits2_ok (by rw [sgns_len]; omega)) (Ok.sm (by rw [cellsT_snoc, if_neg hf])))

/-! ### lines -/
theorem inS_one (x : Str) (c : Nat) : inS ⟨#[c]⟩ x = decide (c ∈ cl x) := StrLaws.found_one x c
def isL (z : Str) : Bool := !decide (z = "") && (sgns z).all fun x => inS x SG
theorem line_loop : ∀ xs : List Str, loopC m_is_line_b1 xs () = some (if (xs.all fun x => inS x SG) = true then .nx () else .rt false)
  | [] => rfl
  | x :: xs => by
    show ((m_is_line_b1 x ()).bind _) = _
    unfold m_is_line_b1
    rw [List.all_cons]
    cases h : inS x SG with
    | false => rfl
    | true =>
      show loopC m_is_line_b1 xs () = _
      rw [line_loop xs]; rfl
theorem is_line_str (z : Str) : m_is_line (Th.d (PyData.str z)) = some (isL z) := by
  unfold m_is_line isL
  show ((if decide (z = "") = true then some false else ((loopC m_is_line_b1 (sgns z) ()).bind fun t23 => aft t23 fun s46 => some true))) = _
  rw [line_loop]
  by_cases h : z = ""
  · rw [if_pos (decide_eq_true h), decide_eq_true h]; rfl
  · rw [if_neg (by rw [decide_eq_false h]; decide), decide_eq_false h]
    cases (sgns z).all fun x => inS x SG <;> rfl
theorem isL_gs {z : Str} (g : gs z) (h : 1 ≤ z.length) : isL z = true := by
  have hn : ¬ z = "" := fun e => by
    have : z.length = 0 := by rw [e]; decide +kernel
    omega
  unfold isL
  rw [decide_eq_false hn]
  show ((sgns z).all fun x => inS x SG) = true
  rw [List.all_eq_true]
  intro x hx
  rw [sgns_cl, List.mem_map] at hx
  obtain ⟨c, hc, rfl⟩ := hx
  rw [inS_one]
  exact decide_eq_true (g c hc)

/-! ### forms that are allowed -/
def fr (t : Str) : Prop := t = AN ∨ t = DG ∨ t = WD
theorem fr_mem {t : Str} : t ∈ ([DG, WD, AN] : List Str) ↔ fr t := by
  unfold fr
  simp only [List.mem_cons, List.not_mem_nil, or_false]
  constructor
  · rintro (h | h | h)
    · exact .inr (.inl h)
    · exact .inr (.inr h)
    · exact .inl h
  · rintro (h | h | h)
    · exact .inr (.inr h)
    · exact .inl h
    · exact .inr (.inl h)
theorem fr_mem2 {t : Str} : t ∈ ([AN, DG, WD] : List Str) ↔ fr t := by
  unfold fr
  simp only [List.mem_cons, List.not_mem_nil, or_false]
/-- a part at its place -/
def okAt (ps : List Str) (k : Nat) (s : Str) : Prop := (s = AN ∧ AN ∉ ps.take k) ∨ s = DG ∨ s = WD ∨ (gs s ∧ 1 ≤ s.length ∧ s.length ≤ 4 ∧ ∀ t, 0 < k → ps[k - 1]? = some t → fr t)
def alw (ps : List Str) : Prop := ∀ k s, ps[k]? = some s → okAt ps k s
theorem alw_part {ps : List Str} (h : alw ps) : ∀ s ∈ ps, part s := by
  intro s hs
  obtain ⟨k, hk⟩ := List.getElem?_of_mem hs
  rcases h k s hk with ⟨e, _⟩ | e | e | ⟨g, l, l2, _⟩
  · exact .inl e
  · exact .inr (.inl e)
  · exact .inr (.inr (.inl e))
  · exact .inr (.inr (.inr ⟨g, l, l2⟩))
theorem okAt_app {ps : List Str} {k : Nat} {s z : Str} (h : k ≤ ps.length) (o : okAt ps k s) : okAt (ps ++ [z]) k s := by
  rcases o with ⟨e, n⟩ | e | e | ⟨g, l, l2, n⟩
  · exact .inl ⟨e, by rw [List.take_append_of_le_length h]; exact n⟩
  · exact .inr (.inl e)
  · exact .inr (.inr (.inl e))
  · refine .inr (.inr (.inr ⟨g, l, l2, fun t h0 ht => n t h0 ?_⟩))
    rw [List.getElem?_append_left (by omega)] at ht
    exact ht
theorem alw_snoc {ps : List Str} {z : Str} (h : alw ps) (o : okAt ps ps.length z) : alw (ps ++ [z]) := by
  intro k s hk
  by_cases hlt : k < ps.length
  · rw [List.getElem?_append_left hlt] at hk
    exact okAt_app (by omega) (h k s hk)
  · rw [List.getElem?_append_right (by omega)] at hk
    have hz : k - ps.length = 0 := by
      apply Classical.byContradiction
      intro hne
      rw [List.getElem?_eq_none (by simp; omega)] at hk
      cases hk
    rw [hz] at hk
    cases hk
    have : k = ps.length := by omega
    subst this
    exact okAt_app (Nat.le_refl _) o
theorem allowed_eq {ps : List Str} (h : alw ps) (hl : ps.length ≤ 4) {k : Nat} (hk : k < ps.length) : m_is_allowed ps (k : Int) = some true := by
  have hs : ps[k]? = some ps[k] := List.getElem?_eq_getElem hk
  have hat : atI ps (k : Int) = some ps[k] := by rw [atI_nn (by omega) (by omega), Int.toNat_natCast]; exact hs
  have ho := h k _ hs
  unfold m_is_allowed
  refine Ok.eq (Ok.bde hat ?_)
  rw [if_neg (by rw [decide_eq_false (show ¬ (4 : Int) ≤ (k : Int) by omega)]; decide)]
  by_cases hA : ps[k] = AN
  · rw [ite_ya hA, cut_to _ (by omega), Int.toNat_natCast]
    refine Ok.sm ?_
    rcases ho with ⟨_, n⟩ | e | e | ⟨g, l, l2, _⟩
    · rw [decide_eq_false n]; rfl
    · rw [hA] at e; exact absurd e.symm AN_ne.1
    · rw [hA] at e; exact absurd e.symm AN_ne.2.1
    · rw [hA] at l2
      exact absurd l2 (by decide +kernel)
  · rw [ite_no hA]
    by_cases hF : ps[k] ∈ ([DG, WD, AN] : List Str)
    · rw [ite_ya hF]; exact Ok.sm rfl
    · rw [ite_no hF]
      rcases ho with ⟨e, _⟩ | e | e | ⟨g, l, l2, n⟩
      · exact absurd e hA
      · exact absurd (fr_mem.mpr (.inr (.inl e))) hF
      · exact absurd (fr_mem.mpr (.inr (.inr e))) hF
      · refine Ok.bd (P := fun t => t = false) ?_ fun t ht => ?_
        · by_cases h0 : (0 : Int) < (k : Int)
          · rw [ite_ya h0]
            have hlt : k - 1 < ps.length := by omega
            have ht : ps[k - 1]? = some ps[k - 1] := List.getElem?_eq_getElem hlt
            refine Ok.bde (a := ps[k - 1]) (by rw [atI_nn (by omega) (by omega), show ((k : Int) - 1).toNat = k - 1 by omega]; exact ht) (Ok.sm ?_)
            rw [decide_eq_true (fr_mem.mpr (n _ (by omega) ht))]; rfl
          · rw [ite_no h0]; exact Ok.sm rfl
        · rw [ht, if_neg (by decide)]
          refine Ok.bde (is_line_str _) ?_
          rw [isL_gs g l, if_pos rfl]
          exact Ok.bde (by rw [gd_true (fitsS_ok (by omega))]) (Ok.sm (decide_eq_true (show ((ps[k].length : Int)) ≤ 4 by omega)))
theorem init_eq {ps : List Str} (h : alw ps) (hl : ps.length ≤ 4) (h1 : 1 ≤ ps.length) : m_Form___init__ ps = some ps := by
  unfold m_Form___init__
  rw [ite_no (show ¬ (ps.length : Int) = 0 by omega), gd_true (rgOk_ok (by omega) (by omega) (by omega) (by omega))]
  refine Ok.eq (Ok.bd (Ok.loop (fun _ _ => True) trivial fun pre x post s e _ => ?_) fun _ _ => Ok.sm rfl)
  obtain ⟨e1, e2, e3, e4⟩ := rng_at e
  unfold m_Form___init___b1
  have hx : x = (x.toNat : Int) := by omega
  rw [hx]
  refine Ok.bde (allowed_eq h hl (by omega)) ?_
  rw [if_neg (by decide)]
  exact Ok.sm trivial
/-! ### states of forms -/
theorem comp_map {α β : Type} {f : α → Unit → Option (Option β × Unit)} (g : α → β) {xs : List α} (h : ∀ x ∈ xs, f x () = some (some (g x), ())) : comp f xs () = some (xs.map g, ()) := by
  rw [comp_pure (g := fun x => some (g x)) h]
  congr 2
  induction xs with
  | nil => rfl
  | cons x xs ih => rw [List.filterMap_cons, List.map_cons, ih fun y hy => h y (List.mem_cons_of_mem _ hy)]
theorem bs {α β : Type} (a : α) (f : α → Option β) : (some a).bind f = f a := rfl
def allForms (fs : List (List Str)) : Prop := fs.length ≤ 100 ∧ ∀ ps ∈ fs, alw ps ∧ 1 ≤ ps.length ∧ ps.length ≤ 4
theorem form_cells {ps : List Str} (h : alw ps ∧ 1 ≤ ps.length ∧ ps.length ≤ 4) : m_cells_of ps = some (cellsT ps) ∧ (∀ c ∈ cellsT ps, cell c) ∧ (cellsT ps).length ≤ 32 := by
  have hp := alw_part h.1
  have := cellsT_len hp
  exact ⟨cells_of_eq hp (by have := h.2.2; omega), cellsT_cell hp, by have := h.2.2; omega⟩
theorem Mt_app {cs ds : List Str} : ∀ {w : List Nat}, Mt (cs ++ ds) w ↔ ∃ u v, w = u ++ v ∧ Mt cs u ∧ Mt ds v := by
  induction cs with
  | nil =>
    intro w
    constructor
    · intro h; exact ⟨[], w, rfl, rfl, h⟩
    · rintro ⟨u, v, rfl, rfl, h⟩; exact h
  | cons c cs ih =>
    intro w
    constructor
    · rintro ⟨u, v, rfl, h1, h2⟩
      obtain ⟨u2, v2, rfl, h3, h4⟩ := ih.mp h2
      exact ⟨u ++ u2, v2, by simp, ⟨u, u2, rfl, h1, h3⟩, h4⟩
    · rintro ⟨u, v, rfl, ⟨u1, u2, rfl, h1, h2⟩, h3⟩
      exact ⟨u1, u2 ++ v, by simp, h1, ih.mpr ⟨u2, v, rfl, h2, h3⟩⟩
theorem Mt_signs : ∀ {l w : List Nat}, Mt (l.map fun c => (⟨#[c]⟩ : Str)) w ↔ w = l
  | [], w => Iff.rfl
  | c :: l, w => by
    constructor
    · rintro ⟨u, v, rfl, h1, h2⟩
      rw [Pc_fix sg_ne.1 sg_ne.2, cl_sg] at h1
      rw [h1, Mt_signs.mp h2]; rfl
    · rintro rfl
      exact ⟨[c], l, rfl, (Pc_fix sg_ne.1 sg_ne.2).mpr rfl, Mt_signs.mpr rfl⟩
/-- cells and parts take the same -/
theorem Mt_cells {ps : List Str} (h : ∀ p ∈ ps, part p) : ∀ {w : List Nat}, Mt (cellsT ps) w ↔ Mt ps w := by
  induction ps with
  | nil => intro w; exact Iff.rfl
  | cons p ps ih =>
    intro w
    have ih := @ih fun q hq => h q (List.mem_cons_of_mem _ hq)
    have e : cellsT (p :: ps) = (if p ∈ ([DG, WD, AN] : List Str) then [p] else sgns p) ++ cellsT ps := by unfold cellsT; rw [List.flatMap_cons]
    rw [e, Mt_app]
    have one : ∀ u, Mt (if p ∈ ([DG, WD, AN] : List Str) then [p] else sgns p) u ↔ Pc p u := by
      intro u
      by_cases hf : p ∈ ([DG, WD, AN] : List Str)
      · rw [if_pos hf]
        constructor
        · rintro ⟨a, b, rfl, h1, rfl⟩; rw [List.append_nil]; exact h1
        · intro h1; exact ⟨u, [], by simp, h1, rfl⟩
      · rw [if_neg hf, sgns_cl, Mt_signs]
        have hn : ¬ fr p := fun z => hf (fr_mem.mpr z)
        rw [Pc_fix (fun z => hn (.inl z)) fun z => hn (z.elim (fun z => .inr (.inl z)) fun z => .inr (.inr z))]
    constructor
    · rintro ⟨u, v, rfl, h1, h2⟩
      exact ⟨u, v, rfl, (one u).mp h1, ih.mp h2⟩
    · rintro ⟨u, v, rfl, h1, h2⟩
      exact ⟨u, v, rfl, (one u).mpr h1, ih.mpr h2⟩

/-- how many states forms have at most -/
def stMany (fs : List (List Str)) : Nat := (fs.map fun ps => 2 ^ ((cellsT ps).length + 1)).foldr (· * ·) 1
/-- a line, by its signs -/
def ln (w : List Nat) : Prop := w ≠ [] ∧ ∀ c ∈ w, c ∈ cl SG
/-! ### least lines of patterns -/
def evP (F : List Str → Bool) : Pat → Bool
  | .form ps => F ps
  | .both l r => evP F l && evP F r
  | .either l r => evP F l || evP F r
theorem cut_left {α : Type} (xs ys : List α) : cut (xs ++ ys) none (some (xs.length : Int)) = xs := by
  rw [cut_to _ (by omega), Int.toNat_natCast, List.take_left]
theorem cut_right {α : Type} (xs ys : List α) : cut (xs ++ ys) (some (xs.length : Int)) none = ys := by
  rw [cut_from _ (by omega), Int.toNat_natCast, List.drop_left]
theorem holds_map (F : List Str → Bool) : ∀ a : Pat, a.holds (a.forms.map F) = some (evP F a)
  | .form ps => rfl
  | .both l r => by
    have e : (Pat.both l r).forms.map F = l.forms.map F ++ r.forms.map F := List.map_append
    rw [e]
    show ((l.holds (cut (l.forms.map F ++ r.forms.map F) none (some (l.forms.length : Int)))).bind fun b => if b = true then r.holds (cut (l.forms.map F ++ r.forms.map F) (some (l.forms.length : Int)) none) else some false) = some (evP F l && evP F r)
    rw [show (l.forms.length : Int) = ((l.forms.map F).length : Int) by rw [List.length_map], cut_left, cut_right, holds_map F l, holds_map F r]
    show (if evP F l = true then some (evP F r) else some false) = _
    cases evP F l <;> rfl
  | .either l r => by
    have e : (Pat.either l r).forms.map F = l.forms.map F ++ r.forms.map F := List.map_append
    rw [e]
    show ((l.holds (cut (l.forms.map F ++ r.forms.map F) none (some (l.forms.length : Int)))).bind fun b => if b = true then some true else r.holds (cut (l.forms.map F ++ r.forms.map F) (some (l.forms.length : Int)) none)) = some (evP F l || evP F r)
    rw [show (l.forms.length : Int) = ((l.forms.map F).length : Int) by rw [List.length_map], cut_left, cut_right, holds_map F l, holds_map F r]
    show (if evP F l = true then some true else some (evP F r)) = _
    cases evP F l <;> rfl
open Classical in
/-- the line fits the pattern -/
noncomputable def fitB (a : Pat) (w : List Nat) : Bool := evP (fun ps => decide (Mt (cellsT ps) w)) a
/-- a pattern whose forms are allowed -/
structure okP (a : Pat) : Prop where
  ht : a.ht ≤ 3
  fs : ∀ ps ∈ a.forms, alw ps ∧ 1 ≤ ps.length ∧ ps.length ≤ 4
  few : a.forms.length ≤ 16
theorem okP.all {a : Pat} (h : okP a) : allForms a.forms := ⟨by have := h.few; omega, h.fs⟩
theorem pat_forms_eq {a : Pat} (h : okP a) : m_pat_forms a = some a.forms := patN_of h.ht h.few
theorem pat_holds_eq {a : Pat} (h : okP a) (F : List Str → Bool) : m_pat_holds a (a.forms.map F) = some (evP F a) := (patN_of h.ht h.few).trans (holds_map F a)
open Classical in
theorem fit_form {ps : List Str} (h : ∀ p ∈ ps, part p) (w : List Nat) : fitB (.form ps) w = true ↔ Mt ps w := by
  unfold fitB evP
  rw [decide_eq_true_iff, Mt_cells h]
theorem any_alw : alw [AN] := fun k s hs => by
  cases k with
  | zero => cases hs; exact .inl ⟨rfl, by simp⟩
  | succ k => simp at hs
/-! ## the drawn trees of patterns -/
theorem text2 {p : Int × Int} : Ok (m_law_text p) fun r => gs r.1 ∧ 1 ≤ r.1.length ∧ r.1.length ≤ 2 := by
  unfold m_law_text
  refine Ok.bd (take_ok (by decide) (by decide)) fun t1 _ => Ok.bd (take_ok (by decide) (by decide)) fun t2 h2 => ?_
  refine Ok.gd (rgOk_ok (by omega) (by omega) (by omega) (by omega)) ?_
  refine Ok.bd (Ok.loop (fun pre s => gs s.2 ∧ s.2.length = pre.length) ⟨gs_nil, len_nil⟩ fun pre x post s e ⟨g, l⟩ => ?_) fun s ⟨g, l⟩ => Ok.sm ⟨g, ?_, ?_⟩
  · unfold m_law_text_b1
    have fin : ∀ z : Str, gs z ∧ z.length = 1 → pre.length < 100 → gs (s.2 ++ z) ∧ (s.2 ++ z).length = (pre ++ [x]).length := fun z ⟨gz, lz⟩ _ => ⟨gs_app g gz, by rw [len_app, lz, l]; simp⟩
    have hp : pre.length < 100 := by
      have := congrArg List.length e
      rw [rng_len] at this
      simp at this
      omega
    refine Ok.ite (fun _ => ?_) fun _ => ?_
    · unfold m_law_all_signs
      refine Ok.bde rfl (Ok.bd (take_ok (by decide) (by decide)) fun d hd => Ok.bd (ix_gs gs_SG hd.1 ?_ (by decide +kernel)) fun z hz => Ok.gd (catOk_ok ?_) (Ok.sm (fin z hz hp)))
      · show d.1 < ((68 : Nat) : Int)
        exact hd.2
      · rw [hz.2, l]; omega
    · refine Ok.bd (take_ok (by decide) (by decide)) fun d hd => Ok.bd (ix_gs (s := "a1-b") (fun c hc => ?_) hd.1 ?_ (by decide +kernel)) fun z hz => Ok.gd (catOk_ok ?_) (Ok.sm (fin z hz hp))
      · revert c; decide +kernel
      · show d.1 < ((4 : Nat) : Int)
        exact hd.2
      · rw [hz.2, l]; omega
  · show 1 ≤ s.2.length
    rw [l, rng_len]; omega
  · show s.2.length ≤ 2
    rw [l, rng_len]; omega
/-- parts as they are drawn -/
def small (s : Str) : Prop := fr s ∨ s.length ≤ 2
structure fine (ps : List Str) : Prop where
  al : alw ps
  pos : 1 ≤ ps.length
  few : ps.length ≤ 3
  sm : ∀ s ∈ ps, small s
theorem parts_fine {p : Int × Int} : Ok (m_law_parts p) fun r => fine r.1 := by
  unfold m_law_parts
  refine Ok.bd (take_ok (by decide) (by decide)) fun t1 h1 => Ok.gd (rgOk_ok (by omega) (by omega) (by omega) (by omega)) ?_
  refine Ok.bd (Ok.loop (fun pre s => (alw s.2 ∧ s.2.length = pre.length) ∧ ∀ z ∈ s.2, small z) ⟨⟨fun k s hk => by simp at hk, rfl⟩, fun z hz => by cases hz⟩ fun pre x post s e ⟨⟨g, l⟩, sm⟩ => ?_) fun s ⟨⟨g, l⟩, sm⟩ => Ok.sm ⟨g, ?_, ?_, sm⟩
  · have hp : pre.length < 100 := by
      have := congrArg List.length e
      rw [rng_len] at this
      simp at this
      omega
    have fin : ∀ z : Str, okAt s.2 s.2.length z → small z → (alw (s.2 ++ [z]) ∧ (s.2 ++ [z]).length = (pre ++ [x]).length) ∧ ∀ y ∈ s.2 ++ [z], small y := fun z hz hs => ⟨⟨alw_snoc g hz, by simp [l]⟩, fun y hy => by
      rcases List.mem_append.mp hy with h | h
      · exact sm y h
      · rw [List.mem_singleton.mp h]; exact hs⟩
    have hf : fits s.2 = true := fits_ok (by omega)
    have gp := alw_part g
    unfold m_law_parts_b1
    refine Ok.bd (take_ok (by decide) (by decide)) fun t2 h2 => Ok.gd (shp_lS fun z hz => part_ok (gp z hz)) (Ok.gd (shp_lS fun z hz => absurd hz List.not_mem_nil) ?_)
    refine Ok.bd (P := fun b => b = false → ∀ t, 0 < s.2.length → s.2[s.2.length - 1]? = some t → fr t) (Ok.ite (fun hn => ?_) fun hn => Ok.sm fun _ t h0 => ?_) fun b hb => ?_
    · have hn : s.2 ≠ [] := by simpa using hn
      obtain ⟨q, z, hq⟩ : ∃ q z, s.2 = q ++ [z] := ⟨s.2.dropLast, s.2.getLast hn, (List.dropLast_concat_getLast hn).symm⟩
      refine Ok.bde (a := z) (by rw [hq]; exact atI_last) (Ok.sm fun hz t h0 ht => ?_)
      have e2 : s.2.length - 1 = q.length := by rw [hq]; simp
      rw [e2, hq, List.getElem?_append_right (Nat.le_refl _), Nat.sub_self] at ht
      cases ht
      have hm : z ∈ ([AN, DG, WD] : List Str) := by
        apply Classical.byContradiction
        intro hne
        rw [decide_eq_false hne] at hz
        cases hz
      exact fr_mem2.mp hm
    · have : s.2 = [] := by simpa using hn
      rw [this] at h0
      exact absurd h0 (by decide)
    · refine Ok.ite (fun hA => Ok.gd hf (Ok.sm (fin _ (.inl ⟨rfl, ?_⟩) (.inl (.inl rfl))))) fun _ => Ok.ite (fun _ => Ok.gd hf (Ok.sm (fin _ (.inr (.inl rfl)) (.inl (.inr (.inl rfl)))))) fun _ => Ok.ite (fun _ => Ok.gd hf (Ok.sm (fin _ (.inr (.inr (.inl rfl))) (.inl (.inr (.inr rfl)))))) fun hW => ?_
      · have := (Bool.and_eq_true_iff.mp hA).2
        rw [List.take_of_length_le (Nat.le_refl _)]
        simpa using this
      · have hb0 : b = false := (Bool.or_eq_false_iff.mp hW).2
        exact Ok.bd text2 fun t3 h3 => Ok.gd hf (Ok.sm (fin _ (.inr (.inr (.inr ⟨h3.1, h3.2.1, Nat.le_trans h3.2.2 (by decide), hb hb0⟩))) (.inr h3.2.2)))
  · show 1 ≤ s.2.length
    rw [l, rng_len]; omega
  · show s.2.length ≤ 3
    rw [l, rng_len]; omega
theorem form3_eq {ps : List Str} (h : fine ps) : m_law_form ps = some ps := by
  obtain ⟨h, h1, hl, _⟩ := h
  unfold m_law_form
  have at_ : ∀ (k : Nat) (hk : k < ps.length), atI ps (k : Int) = some ps[k] := fun k hk => by rw [atI_nn (by omega) (by omega), Int.toNat_natCast]; exact List.getElem?_eq_getElem hk
  match ps, h, hl, h1, at_ with
  | [a], h, _, _, at_ => exact Ok.eq (by rw [ite_ya (show (([a] : List Str).length : Int) = 1 from rfl)]; exact Ok.bde (at_ 0 (by simp)) (Ok.bde (init_eq h (by simp) (by simp)) (Ok.sm rfl)))
  | [a, b], h, _, _, at_ => exact Ok.eq (by rw [ite_no (show ¬ (([a, b] : List Str).length : Int) = 1 from by simp), ite_ya (show (([a, b] : List Str).length : Int) = 2 from rfl)]; exact Ok.bde (at_ 0 (by simp)) (Ok.bde (at_ 1 (by simp)) (Ok.bde (init_eq h (by simp) (by simp)) (Ok.sm rfl))))
  | [a, b, c], h, _, _, at_ => exact Ok.eq (by rw [ite_no (show ¬ (([a, b, c] : List Str).length : Int) = 1 from by simp), ite_no (show ¬ (([a, b, c] : List Str).length : Int) = 2 from by simp)]; exact Ok.bde (at_ 0 (by simp)) (Ok.bde (at_ 1 (by simp)) (Ok.bde (at_ 2 (by simp)) (Ok.bde (init_eq h (by simp) (by simp)) (Ok.sm rfl)))))
abbrev Tree : Type := Str × List Str × List Str
/-- a drawn tree: one form; two with |; two with &, which have a line in common -/
inductive TreeOk : Tree → Prop
  | one {ps : List Str} (h : fine ps) : TreeOk ("=", ps, [])
  | alt {ps qs : List Str} (h : fine ps) (k : fine qs) : TreeOk ("|", ps, qs)
  | ends {a b : Str} (ga : gs a) (ha : 1 ≤ a.length ∧ a.length ≤ 2) (gb : gs b) (hb : 1 ≤ b.length ∧ b.length ≤ 2) : TreeOk ("&", [a, AN], [AN, b])
  | any {ps : List Str} (h : fine ps) : TreeOk ("&", ps, [AN])
theorem tree_ok {p : Int × Int} : Ok (m_law_tree p) fun r => TreeOk r.1 := by
  unfold m_law_tree
  refine Ok.bd (take_ok (by decide) (by decide)) fun t1 h1 => Ok.ite (fun _ => ?_) fun _ => Ok.ite (fun _ => ?_) fun _ => Ok.ite (fun _ => ?_) fun _ => ?_
  · exact Ok.bd parts_fine fun t2 h2 => Ok.bd parts_fine fun t3 h3 => Ok.sm (.alt h2 h3)
  · exact Ok.bd text2 fun t2 h2 => Ok.bd text2 fun t3 h3 => Ok.sm (.ends h2.1 h2.2 h3.1 h3.2)
  · exact Ok.bd parts_fine fun t2 h2 => Ok.sm (.any h2)
  · exact Ok.bd parts_fine fun t2 h2 => Ok.sm (.one h2)
theorem and_eq (ps qs : List Str) : m_Pattern___and__ (.form ps) (.form qs) = some (.both (.form ps) (.form qs)) := rfl
theorem or_eq (ps qs : List Str) : m_Pattern___or__ (.form ps) (.form qs) = some (.either (.form ps) (.form qs)) := rfl
/-- the pattern of a tree -/
def patOf (t : Tree) : Pat := if t.1 = "=" then .form t.2.1 else if t.1 = "&" then .both (.form t.2.1) (.form t.2.2) else .either (.form t.2.1) (.form t.2.2)
theorem any_fine : fine [AN] := ⟨any_alw, by decide, by decide, fun s hs => by rw [List.mem_singleton.mp hs]; exact .inl (.inl rfl)⟩
theorem ends_fine {a b : Str} (ga : gs a) (ha : 1 ≤ a.length ∧ a.length ≤ 2) (gb : gs b) (hb : 1 ≤ b.length ∧ b.length ≤ 2) : fine [a, AN] ∧ fine [AN, b] := by
  have na : ∀ {z : Str}, z.length ≤ 2 → AN ≠ z := fun h e => by
    have : AN.length = 5 := by decide +kernel
    rw [← e] at h; omega
  constructor
  · refine ⟨fun k s hk => ?_, Nat.le_of_ble_eq_true rfl, Nat.le_of_ble_eq_true rfl, fun s hs => ?_⟩
    · match k, hk with
      | 0, hk => cases hk; exact .inr (.inr (.inr ⟨ga, ha.1, by omega, fun t h0 => absurd h0 (by decide)⟩))
      | 1, hk => cases hk; exact .inl ⟨rfl, by simp [na ha.2]⟩
    · rcases List.mem_cons.mp hs with e | e
      · rw [e]; exact .inr ha.2
      · rw [List.mem_singleton.mp e]; exact .inl (.inl rfl)
  · refine ⟨fun k s hk => ?_, Nat.le_of_ble_eq_true rfl, Nat.le_of_ble_eq_true rfl, fun s hs => ?_⟩
    · match k, hk with
      | 0, hk => cases hk; exact .inl ⟨rfl, by simp⟩
      | 1, hk => cases hk; exact .inr (.inr (.inr ⟨gb, hb.1, by omega, fun t _ ht => by cases ht; exact .inl rfl⟩))
    · rcases List.mem_cons.mp hs with e | e
      · rw [e]; exact .inl (.inl rfl)
      · rw [List.mem_singleton.mp e]; exact .inr hb.2
theorem TreeOk.fines {t : Tree} (h : TreeOk t) : fine t.2.1 ∧ (t.1 = "=" ∨ fine t.2.2) := by
  cases h with
  | one h => exact ⟨h, .inl rfl⟩
  | alt h k => exact ⟨h, .inr k⟩
  | ends ga ha gb hb => exact ⟨(ends_fine ga ha gb hb).1, .inr (ends_fine ga ha gb hb).2⟩
  | any h => exact ⟨h, .inr any_fine⟩
theorem built_eq {t : Tree} (h : TreeOk t) : m_law_built t = some (patOf t) := by
  obtain ⟨h1, h2⟩ := h.fines
  unfold m_law_built patOf
  by_cases e : t.1 = "="
  · rw [ite_ya e, if_pos e, form3_eq h1, bs]
  · have k := h2.resolve_left e
    rw [ite_no e, if_neg e]
    by_cases e2 : t.1 = "&"
    · rw [ite_ya e2, if_pos e2, form3_eq h1, bs, form3_eq k, bs, and_eq, bs]
    · rw [ite_no e2, if_neg e2, form3_eq h1, bs, form3_eq k, bs, or_eq, bs]
theorem fine_cells {ps : List Str} (h : fine ps) : (cellsT ps).length ≤ 6 := by
  have one : ∀ p ∈ ps, (if p ∈ ([DG, WD, AN] : List Str) then [p] else sgns p).length ≤ 2 := fun p hp => by
    by_cases hf : p ∈ ([DG, WD, AN] : List Str)
    · rw [if_pos hf]; exact (by decide : 1 ≤ 2)
    · rw [if_neg hf, sgns_len]
      rcases h.sm p hp with e | e
      · exact absurd (fr_mem.mpr e) hf
      · exact e
  have go : ∀ qs : List Str, (∀ p ∈ qs, (if p ∈ ([DG, WD, AN] : List Str) then [p] else sgns p).length ≤ 2) → (cellsT qs).length ≤ 2 * qs.length := by
    intro qs
    induction qs with
    | nil => intro _; exact Nat.le_refl _
    | cons q qs ih =>
      intro hq
      have h1 := hq q List.mem_cons_self
      have h2 := ih fun p hp => hq p (List.mem_cons_of_mem _ hp)
      unfold cellsT at h2 ⊢
      rw [List.flatMap_cons, List.length_append, List.length_cons]
      omega
  have := go ps one
  have := h.few
  omega
theorem pow6 {n : Nat} (h : n ≤ 6) : 2 ^ (n + 1) ≤ 128 := Nat.le_trans (Nat.pow_le_pow_right (by decide) (by omega)) (by decide : 2 ^ 7 ≤ 128)
theorem patOf_ok {t : Tree} (h : TreeOk t) : okP (patOf t) ∧ stMany (patOf t).forms < 15000000 := by
  obtain ⟨h1, h2⟩ := h.fines
  have q1 := pow6 (fine_cells h1)
  have f4 : ∀ {ps : List Str}, fine ps → alw ps ∧ 1 ≤ ps.length ∧ ps.length ≤ 4 := fun h => ⟨h.al, h.pos, Nat.le_trans h.few (by decide)⟩
  unfold patOf
  by_cases e : t.1 = "="
  · rw [if_pos e]
    refine ⟨⟨by show 0 ≤ 3; decide, fun ps hp => ?_, by show 1 ≤ 16; decide⟩, ?_⟩
    · rw [List.mem_singleton.mp hp]; exact f4 h1
    · show 2 ^ ((cellsT t.2.1).length + 1) * 1 < 15000000
      omega
  · have k := h2.resolve_left e
    have q2 := pow6 (fine_cells k)
    have q3 : 2 ^ ((cellsT t.2.1).length + 1) * (2 ^ ((cellsT t.2.2).length + 1) * 1) < 15000000 := by
      have := Nat.mul_le_mul q1 q2
      rw [Nat.mul_one]; omega
    have both : ∀ ps ∈ [t.2.1, t.2.2], alw ps ∧ 1 ≤ ps.length ∧ ps.length ≤ 4 := fun ps hp => by
      rcases List.mem_cons.mp hp with z | z
      · rw [z]; exact f4 h1
      · rw [List.mem_singleton.mp z]; exact f4 k
    rw [if_neg e]
    split
    · exact ⟨⟨by show 1 ≤ 3; decide, both, by show 2 ≤ 16; decide⟩, q3⟩
    · exact ⟨⟨by show 1 ≤ 3; decide, both, by show 2 ≤ 16; decide⟩, q3⟩
theorem fm_ite {α : Type} {p : α → Prop} [DecidablePred p] : ∀ xs : List α, xs.filterMap (fun x => if p x then some x else none) = xs.filter (fun x => decide (p x))
  | [] => rfl
  | x :: xs => by
    by_cases h : p x
    · rw [List.filterMap_cons, if_pos h, List.filter_cons, if_pos (decide_eq_true h), fm_ite xs]
    · rw [List.filterMap_cons, if_neg h, List.filter_cons, if_neg (by rw [decide_eq_false h]; decide), fm_ite xs]
theorem loop_unit {α : Type} {f : α → Unit → Option Unit} {xs : List α} (h : ∀ x ∈ xs, f x () = some ()) : loopS f xs () = some () := by
  refine Ok.eq ((Ok.loop (fun _ _ => True) trivial fun pre x post s e _ => ?_).mono fun _ _ => rfl)
  exact ⟨(), h x (by rw [e]; simp), trivial⟩
/-! ## the drawn numbers -/
theorem comp_allT {α β S : Type} {f : α → S → Option (Option β × S)} {P : β → Prop} : ∀ {xs : List α} {s : S}, (∀ x ∈ xs, ∀ s, Ok (f x s) fun o => ∃ y, o.1 = some y ∧ P y) → Ok (comp f xs s) fun r => r.1.length = xs.length ∧ ∀ y ∈ r.1, P y
  | [], s, _ => Ok.sm ⟨rfl, fun y hy => by cases hy⟩
  | x :: xs, s, h => by
    show Ok ((f x s).bind _) _
    refine Ok.bd (h x List.mem_cons_self s) fun o ⟨y, e, py⟩ => Ok.bd (comp_allT fun z hz => h z (List.mem_cons_of_mem _ hz)) fun r ⟨l, p⟩ => Ok.sm ?_
    rw [e]
    refine ⟨by show (y :: r.1).length = _; rw [List.length_cons, List.length_cons, l], fun z hz => ?_⟩
    rcases List.mem_cons.mp (show z ∈ y :: r.1 from hz) with e | e
    · rw [e]; exact py
    · exact p z e
open Classical in
theorem contains_eq {a : Pat} (h : okP a) {z : Str} (g : gs z) (h1 : 1 ≤ z.length) (hz : z.length ≤ 500) : m_pat___contains__ a z = some (fitB a (cl z)) := by
  have hn : z ≠ "" := fun e => by rw [e] at h1; exact absurd h1 (by decide +kernel)
  have one : ∀ ps ∈ a.forms, ∀ s : List Bool, s.length ≤ 100 → m_pat___contains___b2 z ps s = some (s ++ [decide (Mt (cellsT ps) (cl z))]) := fun ps hps s hs => by
    have hf := h.fs ps hps
    obtain ⟨e1, e2, e3⟩ := form_cells hf
    have hp := alw_part hf.1
    have hloop : loopS (m_pat___contains___b1 (cellsT ps)) (sgns z) (told (cellsT ps) (Sp (cellsT ps) [])) = some (told (cellsT ps) (Sp (cellsT ps) (cl z))) := by
      refine Ok.eq ((Ok.loop (fun pre (s : List Int) => ∃ q : List Nat, pre = q.map (fun c => (⟨#[c]⟩ : Str)) ∧ s = told (cellsT ps) (Sp (cellsT ps) q)) ⟨[], rfl, rfl⟩ fun pre x post s e ⟨q, hq, hs⟩ => ?_).mono fun r ⟨q, hq, hr⟩ => ?_)
      · have hx : x ∈ sgns z := by rw [e]; simp
        rw [sgns_cl, List.mem_map] at hx
        obtain ⟨c, _, rfl⟩ := hx
        subst hs
        unfold m_pat___contains___b1
        exact Ok.bde (moved_eq e2 (by omega)) (Ok.sm ⟨q ++ [c], by rw [hq]; simp, rfl⟩)
      · have inj : ∀ {l m : List Nat}, l.map (fun c => (⟨#[c]⟩ : Str)) = m.map (fun c => (⟨#[c]⟩ : Str)) → l = m := by
          intro l
          induction l with
          | nil => intro m h; cases m with
            | nil => rfl
            | cons _ _ => cases h
          | cons a l ih => intro m h; cases m with
            | nil => cases h
            | cons b m =>
              rw [List.map_cons, List.map_cons] at h
              obtain ⟨h1, h2⟩ := List.cons.inj h
              cases h1
              rw [ih h2]
        rw [sgns_cl] at hq
        rw [hr, inj hq]
    have key : (((cellsT ps).length : Int) ∈ told (cellsT ps) (Sp (cellsT ps) (cl z))) ↔ Mt (cellsT ps) (cl z) := by
      rw [told_mem, Int.toNat_natCast, Sp_no (by rw [List.getElem?_eq_none (Nat.le_refl _)]; exact fun e => nomatch e)]
      unfold Rp
      rw [List.take_length]
      exact ⟨fun h => h.2.2, fun h => ⟨by omega, by omega, h⟩⟩
    unfold m_pat___contains___b2 m_Form_parts m_is_done
    rw [bs, e1, bs, started_eq e2 (by omega), bs, hloop, bs, bs, gd_true (fits_ok (by omega))]
    congr 2
    by_cases hm : Mt (cellsT ps) (cl z)
    · rw [decide_eq_true (key.mpr hm), decide_eq_true hm]
    · rw [decide_eq_false fun q => hm (key.mp q), decide_eq_false hm]
  have all : loopS (m_pat___contains___b2 z) a.forms [] = some (a.forms.map fun ps => decide (Mt (cellsT ps) (cl z))) := by
    refine Ok.eq ((Ok.loop (fun pre (s : List Bool) => s = pre.map fun ps => decide (Mt (cellsT ps) (cl z))) rfl fun pre x post s e hs => ?_).mono fun r h => h)
    have hl := congrArg List.length e
    rw [List.length_append, List.length_cons] at hl
    have := h.few
    refine Ok.of (one x (by rw [e]; simp) s (by rw [hs, List.length_map]; omega)) ?_
    rw [hs, List.map_append]; rfl
  unfold m_pat___contains__
  rw [is_line_str z, bs, isL_gs g h1, if_neg (by decide), pat_forms_eq h, bs, all, bs, pat_holds_eq h, bs]; rfl

/-! ## lines that are written -/
theorem line2_ok {p : Int × Int} {ps : List Str} (h : fine ps) : Ok (m_law_line p ps) fun r => gs r.1 ∧ 1 ≤ r.1.length ∧ r.1.length ≤ 40 := by
  have hp := alw_part h.al
  have hl := h.few
  unfold m_law_line
  refine Ok.bd (Ok.loop (fun pre s => gs s.2 ∧ s.2.length ≤ 10 * pre.length) ⟨gs_nil, by rw [len_nil]; omega⟩ fun pre x post s e ⟨g, l⟩ => ?_) fun s ⟨g, l⟩ => ?_
  · have hpl : pre.length ≤ 3 := by
      have := congrArg List.length e
      simp at this
      omega
    have hx : part x := hp x (by rw [e]; simp)
    have fin : ∀ z : Str, gs z → z.length ≤ 10 → gs (s.2 ++ z) ∧ (s.2 ++ z).length ≤ 10 * (pre ++ [x]).length := fun z gz lz => ⟨gs_app g gz, by rw [len_app]; simp; omega⟩
    have rep : ∀ (z : Str) (n : Int), gs z → z.length ≤ 4 → 0 ≤ n → n * z.length ≤ 10 → n ≤ 100 → repOk z n = true ∧ catOk s.2 (repS z n) = true ∧ gs (s.2 ++ repS z n) ∧ (s.2 ++ repS z n).length ≤ 10 * (pre ++ [x]).length := by
      intro z n gz lz h0 h1 h2
      have e1 : (repS z n).length ≤ 10 := by
        rw [len_rep h0]
        have e2 : ((n.toNat * z.length : Nat) : Int) ≤ 10 := by
          rw [Int.natCast_mul, Int.toNat_of_nonneg h0]; exact h1
        omega
      exact ⟨repOk_ok h0 h2 (by omega), catOk_ok (by omega), fin _ (gs_rep h0 gz) e1⟩
    unfold m_law_line_b1
    refine Ok.ite (fun _ => ?_) fun n1 => Ok.ite (fun _ => ?_) fun n2 => Ok.ite (fun _ => ?_) fun n3 => ?_
    · refine Ok.bd (take_ok (by decide) (by decide)) fun d hd => Ok.bd (ix_gs (s := "0123456789") (fun c hc => ?_) hd.1 ?_ (by decide +kernel)) fun z hz => Ok.bd (take_ok (by decide) (by decide)) fun d2 hd2 => ?_
      · revert c; decide +kernel
      · show d.1 < ((10 : Nat) : Int)
        exact hd.2
      · obtain ⟨r1, r2, r3, r4⟩ := rep z (1 + d2.1) hz.1 (by omega) (by omega) (by rw [hz.2]; omega) (by omega)
        exact Ok.gd r1 (Ok.gd r2 (Ok.sm ⟨r3, r4⟩))
    · refine Ok.bd (take_ok (by decide) (by decide)) fun d hd => Ok.bd (ix_gs (s := "aBzb") (fun c hc => ?_) hd.1 ?_ (by decide +kernel)) fun z hz => Ok.bd (take_ok (by decide) (by decide)) fun d2 hd2 => ?_
      · revert c; decide +kernel
      · show d.1 < ((4 : Nat) : Int)
        exact hd.2
      · obtain ⟨r1, r2, r3, r4⟩ := rep z (1 + d2.1) hz.1 (by omega) (by omega) (by rw [hz.2]; omega) (by omega)
        exact Ok.gd r1 (Ok.gd r2 (Ok.sm ⟨r3, r4⟩))
    · refine Ok.bd text2 fun z hz => Ok.bd (take_ok (by decide) (by decide)) fun d2 hd2 => ?_
      obtain ⟨r1, r2, r3, r4⟩ := rep z.1 d2.1 hz.1 (by omega) (by omega) (by
        have : d2.1 = 0 ∨ d2.1 = 1 ∨ d2.1 = 2 := by omega
        rcases this with e | e | e <;> rw [e] <;> omega) (by omega)
      exact Ok.gd r1 (Ok.gd r2 (Ok.sm ⟨r3, r4⟩))
    · rcases hx with rfl | rfl | rfl | hx
      · exact absurd n3 (by decide +kernel)
      · exact absurd n1 (by decide +kernel)
      · exact absurd n2 (by decide +kernel)
      · exact Ok.gd (catOk_ok (by omega)) (Ok.sm (fin x hx.1 (by omega)))
  · refine Ok.ite (fun _ => Ok.bd text2 fun t ht => Ok.sm ⟨ht.1, ht.2.1, by show t.1.length ≤ 40; omega⟩) fun hn => Ok.sm ⟨g, ?_, by show s.2.length ≤ 40; omega⟩
    show 1 ≤ s.2.length
    refine Nat.pos_of_ne_zero fun q => ?_
    have hn := of_decide_eq_false hn
    refine hn (cl_inj ?_)
    rw [cl_len] at q
    rw [List.eq_nil_of_length_eq_zero q]
    decide +kernel
theorem written_ok {p : Int × Int} {t : Tree} (h : TreeOk t) : Ok (m_law_written p t) fun r => gs r.1 ∧ 1 ≤ r.1.length ∧ r.1.length ≤ 40 := by
  obtain ⟨f1, f2⟩ := h.fines
  have mid : ∀ q : Int × Int, Ok (((if (decide (t.1 = ("&" : Str))) = true then (some ((decide (((t.2.2).length : Int) = 2)))) else some (false)).bind fun t56 => if t56 = true then ((atI t.2.1 0).bind fun t73 => (m_law_text q).bind fun t77 => (m_law_take (t77.2) (2)).bind fun t87 => gd (repOk t77.1 t87.1) <| gd (catOk t73 (repS t77.1 t87.1)) <| (atI t.2.2 1).bind fun t101 => gd (catOk (t73 ++ (repS t77.1 t87.1)) t101) <| some (((t73 ++ (repS t77.1 t87.1)) ++ t101), t87.2)) else ((m_law_line q (t.2.1)).bind fun t108 => some (t108.1, t108.2))) : Option (Str × (Int × Int))) fun r => gs r.1 ∧ 1 ≤ r.1.length ∧ r.1.length ≤ 40 := fun q => by
    have plain : Ok ((m_law_line q (t.2.1)).bind fun t108 => some (t108.1, t108.2)) fun r => gs r.1 ∧ 1 ≤ r.1.length ∧ r.1.length ≤ 40 := Ok.bd (line2_ok f1) fun r hr => Ok.sm hr
    cases h with
    | one h => exact Ok.bde rfl (by rw [if_neg (by decide)]; exact plain)
    | alt h k => exact Ok.bde rfl (by rw [if_neg (by decide)]; exact plain)
    | any h => exact Ok.bde (a := false) rfl (by rw [if_neg (by decide)]; exact plain)
    | ends ga ha gb hb =>
      rename_i a b
      refine Ok.bde (a := true) rfl ?_
      rw [if_pos rfl]
      refine Ok.bde (a := a) rfl (Ok.bd text2 fun z hz => Ok.bd (take_ok (by decide) (by decide)) fun d2 hd2 => ?_)
      have l1 := len_rep (s := z.1) hd2.1
      have l2 : (repS z.1 d2.1).length ≤ 2 := by
        rw [l1]
        have : d2.1.toNat = 0 ∨ d2.1.toNat = 1 := by omega
        rcases this with e | e <;> rw [e] <;> omega
      have l3 := len_app a (repS z.1 d2.1)
      have l4 := len_app (a ++ repS z.1 d2.1) b
      refine Ok.gd (repOk_ok hd2.1 (by omega) (by omega)) (Ok.gd (catOk_ok (by omega)) (Ok.bde (a := b) rfl (Ok.gd (catOk_ok (by omega)) (Ok.sm ⟨gs_app (gs_app ga (gs_rep hd2.1 hz.1)) gb, ?_, ?_⟩))))
      · show 1 ≤ ((a ++ repS z.1 d2.1) ++ b).length
        omega
      · show ((a ++ repS z.1 d2.1) ++ b).length ≤ 40
        omega
  unfold m_law_written
  refine Ok.bd (P := fun r => r.1 = true → t.1 = "|") (Ok.ite (fun e => Ok.bd (take_ok (by decide) (by decide)) fun u hu => Ok.sm fun _ => of_decide_eq_true e) fun _ => Ok.sm fun q => nomatch q) fun u hu => Ok.ite (fun e => ?_) fun _ => mid u.2
  have e2 := hu e
  exact Ok.bd (line2_ok (f2.resolve_left fun q => by rw [e2] at q; exact absurd q (by decide +kernel))) fun r hr => Ok.sm hr

theorem popAt_in {α : Type} {xs : List α} {i : Int} (h : 0 ≤ i ∧ i < (xs.length : Int)) (hl : xs.length < 16000000) : ∃ a, popAt xs i = some (a, xs.eraseIdx i.toNat) ∧ xs[i.toNat]? = some a ∧ a ∈ xs := by
  have hx : i.toNat < xs.length := by omega
  refine ⟨xs[i.toNat], ?_, List.getElem?_eq_getElem hx, List.getElem_mem hx⟩
  unfold popAt
  rw [gd_true (by rw [decide_eq_true (show -(2 ^ 63) ≤ i by omega), decide_eq_true (show i < 2 ^ 63 by omega)]; rfl)]
  have e : seqIndex? i xs.length = some i.toNat := by
    unfold seqIndex?
    show (if (decide (0 ≤ (if i < 0 then i + (xs.length : Int) else i)) && decide ((if i < 0 then i + (xs.length : Int) else i) < (xs.length : Int))) = true then some (if i < 0 then i + (xs.length : Int) else i).toNat else none) = some i.toNat
    rw [if_neg (show ¬ i < 0 by omega), decide_eq_true h.1, decide_eq_true h.2]; rfl
  rw [e, bs, List.getElem?_eq_getElem hx]; rfl
/-! long lines borne -/
open Classical in
theorem bears_big {t : Tree} (h : TreeOk t) {z : Str} (g : gs z) (h1 : 1 ≤ z.length) (hz : z.length ≤ 4000000) : m_law_bears t z = some (fitB (patOf t) (cl z)) := by
  obtain ⟨f1, f2⟩ := h.fines
  have one : ∀ {ps : List Str}, fine ps → m_law_fits ps z = some (fitB (.form ps) (cl z)) := fun {ps} hf => by
    have hp := alw_part hf.al
    rw [fits_eq hz fun c hc => Nat.le_trans (part_len (hp c hc)).2 (by decide)]
    have hn : z ≠ "" := fun e => by rw [e] at h1; exact absurd h1 (by decide +kernel)
    have k := fit_form hp (cl z)
    congr 1
    by_cases hm : Mt ps (cl z)
    · rw [k.mpr hm, decide_eq_true ⟨hn, hm⟩]
    · rw [decide_eq_false fun q => hm q.2]
      cases hb : fitB (.form ps) (cl z) with
      | false => rfl
      | true => exact absurd (k.mp hb) hm
  unfold m_law_bears patOf
  by_cases e : t.1 = "="
  · rw [ite_ya e, if_pos e, one f1, bs]
  · have k := f2.resolve_left e
    rw [ite_no e, if_neg e]
    by_cases e2 : t.1 = "&"
    · rw [ite_ya e2, if_pos e2, one f1, bs]
      show _ = some (fitB (.form t.2.1) (cl z) && fitB (.form t.2.2) (cl z))
      cases fitB (.form t.2.1) (cl z) with
      | false => rfl
      | true => rw [if_pos rfl, one k, bs, bs, Bool.true_and]
    · rw [ite_no e2, if_neg e2, one f1, bs]
      show _ = some (fitB (.form t.2.1) (cl z) || fitB (.form t.2.2) (cl z))
      cases fitB (.form t.2.1) (cl z) with
      | true => rfl
      | false => rw [if_neg (by decide), one k, bs, bs, Bool.false_or]

def fo (f : Bool × Bool) : Nat := (if f.1 = true then 2 else 0) + (if f.2 = true then 1 else 0)
/-! ### rules made with good settings -/
def stOf4 (most : Option Int) (alone : Bool) (tags : Option Int) (quiet : Bool) : List (Str × Th) := [(("most" : Str), thO most), (("alone" : Str), Th.d (.bool alone)), (("tags" : Str), thO tags), (("quiet" : Str), Th.d (.bool quiet))]
theorem kw_ne : ¬ ("most" : Str) = "alone" ∧ ¬ ("most" : Str) = "tags" ∧ ¬ ("most" : Str) = "quiet" ∧ ¬ ("alone" : Str) = "tags" ∧ ¬ ("alone" : Str) = "quiet" ∧ ¬ ("tags" : Str) = "quiet" ∧ ¬ ("tags" : Str) = "most" := by decide +kernel
theorem get_most {a b c d : Th} : getSd ("most" : Str) [(("most" : Str), a), (("alone" : Str), b), (("tags" : Str), c), (("quiet" : Str), d)] = some a := if_pos rfl
theorem get_alone {a b c d : Th} : getSd ("alone" : Str) [(("most" : Str), a), (("alone" : Str), b), (("tags" : Str), c), (("quiet" : Str), d)] = some b := by
  unfold getSd; rw [if_neg kw_ne.1]; unfold getSd; rw [if_pos rfl]
theorem get_tags {a b c d : Th} : getSd ("tags" : Str) [(("most" : Str), a), (("alone" : Str), b), (("tags" : Str), c), (("quiet" : Str), d)] = some c := by
  unfold getSd; rw [if_neg kw_ne.2.1]; unfold getSd; rw [if_neg kw_ne.2.2.2.1]; unfold getSd; rw [if_pos rfl]
theorem get_quiet {a b c d : Th} : getSd ("quiet" : Str) [(("most" : Str), a), (("alone" : Str), b), (("tags" : Str), c), (("quiet" : Str), d)] = some d := by
  unfold getSd; rw [if_neg kw_ne.2.2.1]; unfold getSd; rw [if_neg kw_ne.2.2.2.2.1]; unfold getSd; rw [if_neg kw_ne.2.2.2.2.2.1]; unfold getSd; rw [if_pos rfl]
def capOk (o : Option Int) : Prop := ∀ n, o = some n → 1 ≤ n ∧ n ≤ 20
def tagOk (o : Option Int) : Prop := ∀ n, o = some n → 0 ≤ n ∧ n ≤ 9
theorem alq : decide (("most" : Str) ∈ [("alone" : Str), ("quiet" : Str)]) = false ∧ decide (("tags" : Str) ∈ [("alone" : Str), ("quiet" : Str)]) = false ∧ decide (("alone" : Str) ∈ [("alone" : Str), ("quiet" : Str)]) = true ∧ decide (("quiet" : Str) ∈ [("alone" : Str), ("quiet" : Str)]) = true ∧ decide (("tags" : Str) = "most") = false := by decide +kernel
theorem allow_most {o : Option Int} (h : capOk o) : m_is_allowed_rules "most" (thO o) = some true := by
  unfold m_is_allowed_rules
  rw [alq.1, if_neg (by decide)]
  cases o with
  | none => rfl
  | some n =>
    obtain ⟨h1, h2⟩ := h n rfl
    show (if decide (("most" : Str) = "most") = true then some (decide (1 ≤ n) && decide (n ≤ 20)) else some (decide (0 ≤ n) && decide (n ≤ 9))) = some true
    rw [if_pos (decide_eq_true rfl), decide_eq_true h1, decide_eq_true h2]; rfl
theorem allow_tags {o : Option Int} (h : tagOk o) : m_is_allowed_rules "tags" (thO o) = some true := by
  unfold m_is_allowed_rules
  rw [alq.2.1, if_neg (by decide)]
  cases o with
  | none => rfl
  | some n =>
    obtain ⟨h1, h2⟩ := h n rfl
    show (if decide (("tags" : Str) = "most") = true then some (decide (1 ≤ n) && decide (n ≤ 20)) else some (decide (0 ≤ n) && decide (n ≤ 9))) = some true
    rw [alq.2.2.2.2, if_neg (by decide), decide_eq_true h1, decide_eq_true h2]; rfl
theorem allow_bool (b : Bool) : m_is_allowed_rules "alone" (Th.d (.bool b)) = some true ∧ m_is_allowed_rules "quiet" (Th.d (.bool b)) = some true := by
  unfold m_is_allowed_rules
  rw [alq.2.2.1, alq.2.2.2.1, if_pos rfl]
  cases b <;> exact ⟨rfl, rfl⟩
theorem check_set {most tags : Option Int} {alone quiet : Bool} (h1 : capOk most) (h2 : tagOk tags) : m_check_settings (stOf4 most alone tags quiet) = some () := by
  unfold m_check_settings
  have one : ∀ {k : Str} {t : Th}, getSd k (stOf4 most alone tags quiet) = some t → m_is_allowed_rules k t = some true → m_check_settings_b1 (stOf4 most alone tags quiet) k () = some () := fun {k t} e1 e2 => by
    unfold m_check_settings_b1
    rw [e1]
    show ((if true = true then (some t).bind _ else _).bind _) = _
    rw [if_pos rfl]
    show (((m_is_allowed_rules k t).bind _).bind _) = _
    rw [e2]; rfl
  have a1 := one (k := "most") get_most (allow_most h1)
  have a2 := one (k := "alone") get_alone (allow_bool alone).1
  have a3 := one (k := "tags") get_tags (allow_tags h2)
  have a4 := one (k := "quiet") get_quiet (allow_bool quiet).2
  show ((loopS _ (["most", "alone", "tags", "quiet"] : List Str) ()).bind _) = _
  rw [loop_unit fun x hx => ?_]
  · rfl
  · rcases List.mem_cons.mp hx with e | hx
    · rw [e]; exact a1
    rcases List.mem_cons.mp hx with e | hx
    · rw [e]; exact a2
    rcases List.mem_cons.mp hx with e | hx
    · rw [e]; exact a3
    · rw [List.mem_singleton.mp hx]; exact a4
theorem rule_eq {bs es : List Pat} {most tags : Option Int} {alone quiet : Bool} (hl : bs.length + es.length ≤ 6) (h1 : capOk most) (h2 : tagOk tags) :
    m_Rule___init__ bs es (thO most) (Th.d (.bool alone)) (thO tags) (Th.d (.bool quiet)) = some (bs, es, stOf4 most alone tags quiet) := by
  unfold m_Rule___init__
  rw [if_neg (by rw [decide_eq_false (by omega)]; decide)]
  show ((m_check_settings (stOf4 most alone tags quiet)).bind _) = _
  rw [check_set h1 h2]; rfl
abbrev LRule : Type := List Tree × List Tree × Option Int × Bool × Option Int × Bool
/-- the rule of a drawn row -/
def ruleOf (r : LRule) : List Pat × List Pat × List (Str × Th) := (r.1.map patOf, r.2.1.map patOf, stOf4 r.2.2.1 r.2.2.2.1 r.2.2.2.2.1 r.2.2.2.2.2)
structure LRuleOk (r : LRule) : Prop where
  b : ∀ t ∈ r.1, TreeOk t
  e : ∀ t ∈ r.2.1, TreeOk t
  len : r.1.length + r.2.1.length ≤ 6
  cap : capOk r.2.2.1
  tag : tagOk r.2.2.2.2.1

section
variable {d : Drawn} {r : LRule} {w : Str} {FS : Int → List (Fc2 × Str)} {q : QS}
theorem most_eq : m_Rule_most (ruleOf r) = some r.2.2.1 := by
  unfold m_Rule_most ruleOf stOf4
  show Option.bind (getSd _ _) _ = _
  rw [get_most, bs, thOI_O, bs]
theorem alone_eq : m_Rule_alone (ruleOf r) = some r.2.2.2.1 := by
  unfold m_Rule_alone ruleOf stOf4
  show Option.bind (getSd _ _) _ = _
  rw [get_alone, bs]; rfl
end
section
variable {r : LRule}
noncomputable def begB (r : LRule) (z : Str) : Bool := r.1.any fun t => fitB (patOf t) (cl z)
noncomputable def finB (r : LRule) (z : Str) : Bool := r.2.1.any fun t => fitB (patOf t) (cl z)
theorem rng_snoc (n : Nat) : rng 0 (n : Int) ++ [(n : Int)] = rng 0 ((n : Int) + 1) := by
  unfold rng
  rw [show ((n : Int) + 1 - 0).toNat = n + 1 by omega, show ((n : Int) - 0).toNat = n by omega, List.range_succ, List.map_append]
  show _ = _ ++ [0 + (n : Int)]
  rw [Int.zero_add]
end
/-! ### what is offered is wrong -/
section
variable {d : Drawn} {r : LRule} {w : Str} {FS : Int → List (Fc2 × Str)}
theorem any_map {ts : List Tree} {v : List Nat} : (ts.map patOf).any (fun M => fitB M v) = ts.any fun t => fitB (patOf t) v := by rw [List.any_map]; rfl
end
/-! ### the program's gluer, fed with lines without tags, does what the order of gluing says -/
section
variable {r : LRule}
theorem sd_keys {a : Option Int} {b : Bool} {c : Option Int} {e : Bool} : sdK (stOf4 a b c e) ["most", "alone", "tags", "quiet"] = true := by
  unfold sdK
  exact decide_eq_true rfl
theorem with_marks_eq (h : LRuleOk r) : m_Rule_with_marks (ruleOf r) [] [] = some (ruleOf r) := by
  have hl := h.len
  unfold m_Rule_with_marks
  show gd (fits2 (r.1.map patOf) []) (gd (fits2 (r.2.1.map patOf) []) (gd (sdK (stOf4 _ _ _ _) _) (Option.bind (m_Rule___init__ (r.1.map patOf ++ []) (r.2.1.map patOf ++ []) (thO r.2.2.1) (Th.d (.bool r.2.2.2.1)) (thO r.2.2.2.2.1) (Th.d (.bool r.2.2.2.2.2))) _))) = _
  rw [gd_true (fits2_ok (by rw [List.length_map]; show _ + 0 ≤ _; omega)), gd_true (fits2_ok (by rw [List.length_map]; show _ + 0 ≤ _; omega)), gd_true sd_keys, List.append_nil, List.append_nil, rule_eq (by rw [List.length_map, List.length_map]; omega) h.cap h.tag, bs]; rfl
theorem any_id2 {α : Type} {f : α → Bool} : ∀ xs : List α, (xs.map f).any id = xs.any f
  | [] => rfl
  | x :: xs => by rw [List.map_cons, List.any_cons, List.any_cons, any_id2 xs]; rfl
/-- a line that is short enough -/
structure LineS (z : Str) : Prop where
  g : gs z
  h1 : 1 ≤ z.length
  hl : z.length ≤ 500
theorem begins_on_eq (h : LRuleOk r) {z : Str} (l : LineS z) : m_Rule_begins_on (ruleOf r) z = some (begB r z) := by
  have hl := h.len
  unfold m_Rule_begins_on
  show gd (fitsE (r.1.map patOf)) (Option.bind (comp (m_Rule_begins_on_b1 z) (r.1.map patOf) ()) _) = _
  rw [gd_true (fitsE_ok (by rw [List.length_map]; omega)), comp_map (fun M => fitB M (cl z)) fun M hM => ?_, bs, any_id2, List.any_map]
  · rfl
  · obtain ⟨t, ht, rfl⟩ := List.mem_map.mp hM
    unfold m_Rule_begins_on_b1
    rw [contains_eq (patOf_ok (h.b t ht)).1 l.g l.h1 l.hl, bs]
theorem ends_on_eq (h : LRuleOk r) {z : Str} (l : LineS z) : m_Rule_ends_on (ruleOf r) z = some (finB r z) := by
  have hl := h.len
  unfold m_Rule_ends_on
  show gd (fitsE (r.2.1.map patOf)) (Option.bind (comp (m_Rule_ends_on_b1 z) (r.2.1.map patOf) ()) _) = _
  rw [gd_true (fitsE_ok (by rw [List.length_map]; omega)), comp_map (fun M => fitB M (cl z)) fun M hM => ?_, bs, any_id2, List.any_map]
  · rfl
  · obtain ⟨t, ht, rfl⟩ := List.mem_map.mp hM
    unfold m_Rule_ends_on_b1
    rw [contains_eq (patOf_ok (h.e t ht)).1 l.g l.h1 l.hl, bs]
theorem tags_eq : m_Rule_tags (ruleOf r) = some r.2.2.2.2.1 := by
  unfold m_Rule_tags ruleOf stOf4
  show Option.bind (getSd _ _) _ = _
  rw [get_tags, bs, thOI_O, bs]
end
/-! ### the law's own gluing, parting, asking -/
structure LineOk (z : Str) : Prop where
  g : gs z
  h1 : 1 ≤ z.length
  hl : z.length ≤ 4000000
theorem tree_shp {t : Tree} (h : TreeOk t) : okS t.1 ∧ (∀ p ∈ t.2.1, okS p) ∧ ∀ p ∈ t.2.2, okS p := by
  have fo : ∀ {ps : List Str}, fine ps → ∀ p ∈ ps, okS p := fun hf p hp => part_ok (alw_part hf.al p hp)
  have o1 : okS "=" := (by decide +kernel : PyData.strOk "=" = true)
  have o2 : okS "|" := (by decide +kernel : PyData.strOk "|" = true)
  have o3 : okS "&" := (by decide +kernel : PyData.strOk "&" = true)
  cases h with
  | one h => exact ⟨o1, fo h, fun p hp => absurd hp List.not_mem_nil⟩
  | alt h k => exact ⟨o2, fo h, fo k⟩
  | ends ga ha gb hb => exact ⟨o3, fo (ends_fine ga ha gb hb).1, fo (ends_fine ga ha gb hb).2⟩
  | any h => exact ⟨o3, fo h, fo any_fine⟩
theorem any_fm {α : Type} {p : α → Bool} : ∀ xs : List α, (!decide ((xs.filter p).length = 0)) = xs.any p
  | [] => rfl
  | x :: xs => by
    rw [List.filter_cons, List.any_cons]
    cases h : p x with
    | true => rw [if_pos rfl, List.length_cons, decide_eq_false (Nat.succ_ne_zero _)]; rfl
    | false => rw [if_neg (fun h => by cases h), any_fm xs, Bool.false_or]
theorem marked_eq {ts : List Tree} (ht : ∀ t ∈ ts, TreeOk t) (hl : ts.length ≤ 100) {z : Str} (hz : LineOk z) : m_law_marked ts z = some (ts.any fun t => fitB (patOf t) (cl z)) := by
  have sh : ∀ us : List Tree, (∀ t ∈ us, TreeOk t) → shp (dL (dLr (ec dS (ec (dL dS) (Gl.e1 (dL dS)))))) us = true := fun us hu =>
    shpD (i := sL (i := sLr (i := src (i := sS) (j := src (i := sL (i := sS)) (j := sr1 (i := sL (i := sS))))))) fun t h => tree_shp (hu t h)
  unfold m_law_marked
  rw [gd_true (fitsE_ok (by omega)), comp_pure (g := fun t : Tree => if fitB (patOf t) (cl z) = true then some t else none) fun t h => ?_, bs]
  · have ef : ts.filterMap (fun t : Tree => if fitB (patOf t) (cl z) = true then some t else none) = ts.filter fun t => fitB (patOf t) (cl z) := by
      rw [fm_ite]
      congr 1
      funext t
      cases fitB (patOf t) (cl z) <;> rfl
    show gd (shp _ (ts.filterMap _)) _ = _
    rw [ef, gd_true (sh _ fun t h => ht t (List.mem_filter.mp h).1), gd_true (sh [] fun t h => absurd h List.not_mem_nil), ← any_fm]
    congr 2
    exact decide_eq_decide.mpr List.length_eq_zero_iff.symm
  · unfold m_law_marked_b1
    rw [bears_big (ht t h) hz.g hz.h1 hz.hl, bs]
    cases fitB (patOf t) (cl z) <;> rfl
/-! ### records put together by tag: what one line does to the open records -/
section
variable {α : Type}
abbrev RowT (α : Type) : Type := Option Int × List α
structure Held (op : List (RowT α)) : Prop where
  nd : (op.map (·.1)).Nodup
  ne : ∀ x ∈ op, x.2 ≠ []
/-- the open record of a tag, and the others -/
inductive Cut (t : Option Int) : List (RowT α) → List α → List (RowT α) → Prop
  | no {op : List (RowT α)} (h : ∀ x ∈ op, x.1 ≠ t) : Cut t op [] op
  | yes {A B : List (RowT α)} {y : List α} (h : ∀ x ∈ A, x.1 ≠ t) (h2 : ∀ x ∈ B, x.1 ≠ t) (hy : y ≠ []) : Cut t (A ++ (t, y) :: B) y (A ++ B)
theorem Held.cut {op : List (RowT α)} (h : Held op) (t : Option Int) : ∃ own rest, Cut t op own rest := by
  by_cases c : ∃ x ∈ op, x.1 = t
  · obtain ⟨x, hx, rfl⟩ := c
    obtain ⟨A, B, rfl⟩ := List.append_of_mem hx
    have nd := h.nd
    rw [List.map_append, List.map_cons, List.nodup_append] at nd
    obtain ⟨_, n2, n3⟩ := nd
    rw [List.nodup_cons] at n2
    refine ⟨x.2, A ++ B, .yes (fun z hz e => n3 _ (List.mem_map_of_mem hz) _ List.mem_cons_self e) (fun z hz e => n2.1 (e ▸ List.mem_map_of_mem hz)) (h.ne x hx)⟩
  · exact ⟨[], op, .no fun x hx e => c ⟨x, hx, e⟩⟩
theorem Cut.len {t : Option Int} {op rest : List (RowT α)} {own : List α} (c : Cut t op own rest) : rest.length ≤ op.length ∧ (own ≠ [] → rest.length + 1 = op.length) := by
  cases c with
  | no h => exact ⟨Nat.le_refl _, fun h => absurd rfl h⟩
  | yes h h2 hy =>
    refine ⟨?_, fun _ => ?_⟩
    · rw [List.length_append, List.length_append, List.length_cons]; omega
    · rw [List.length_append, List.length_append, List.length_cons]; omega
theorem Cut.mem {t : Option Int} {op rest : List (RowT α)} {own : List α} (c : Cut t op own rest) : (∀ x ∈ rest, x ∈ op) ∧ (own ≠ [] → (t, own) ∈ op) ∧ ∀ x ∈ rest, x.1 ≠ t := by
  cases c with
  | no h => exact ⟨fun _ h => h, fun h => absurd rfl h, h⟩
  | yes h h2 hy =>
    refine ⟨fun x hx => ?_, fun _ => by simp, fun x hx => ?_⟩
    · rcases List.mem_append.mp hx with hx | hx
      · exact List.mem_append_left _ hx
      · exact List.mem_append_right _ (List.mem_cons_of_mem _ hx)
    · rcases List.mem_append.mp hx with hx | hx
      · exact h x hx
      · exact h2 x hx
theorem Cut.held {t : Option Int} {op rest : List (RowT α)} {own : List α} (c : Cut t op own rest) (h : Held op) : Held rest := by
  refine ⟨?_, fun x hx => h.ne x (c.mem.1 x hx)⟩
  cases c with
  | no _ => exact h.nd
  | yes _ _ _ =>
    have nd := h.nd
    rw [List.map_append, List.map_cons, List.nodup_append] at nd
    obtain ⟨n1, n2, n3⟩ := nd
    rw [List.nodup_cons] at n2
    rw [List.map_append, List.nodup_append]
    exact ⟨n1, n2.2, fun a ha b hb => n3 a ha b (List.mem_cons_of_mem _ hb)⟩
/-- one line's doing, when the tag's own record is taken out: b, e: it bears marks of begins, ends; full: as many records are open as may be -/
def fedE (most : Option Int) (e : Bool) (t : Option Int) (th : α) (own : List α) (told rest : List (RowT α)) : List (RowT α) × List (RowT α) :=
  if (e || decide (some ((own ++ [th]).length : Int) = most)) = true then (told ++ [(t, own ++ [th])], rest) else (told, rest ++ [(t, own ++ [th])])
def fullB (T : Option Int) (n : Nat) : Bool := match T with
  | none => false
  | some k => decide (0 < k) && decide (k ≤ (n : Int))
def fedS (T : Option Int) (alone : Bool) (most : Option Int) (b e : Bool) (t : Option Int) (th : α) (own : List α) (rest : List (RowT α)) : List (RowT α) × List (RowT α) :=
  if own ≠ [] ∧ b = false then fedE most e t th own [] rest
  else
    let told := if own = [] then [] else [(t, own)]
    if (b || alone) = false then (told, rest)
    else if fullB T rest.length = true then fedE most e t th [] (told ++ rest.take 1) rest.tail
    else fedE most e t th [] told rest
theorem fedE_held {most : Option Int} {e : Bool} {t : Option Int} {th : α} {own : List α} {told rest : List (RowT α)} (h : Held rest) (ht : ∀ x ∈ rest, x.1 ≠ t) : Held (fedE most e t th own told rest).2 := by
  unfold fedE
  split
  · exact h
  · refine ⟨?_, fun x hx => ?_⟩
    · show ((rest ++ [(t, own ++ [th])]).map (·.1)).Nodup
      rw [List.map_append, List.nodup_append]
      refine ⟨h.nd, by simp, fun a ha b hb => ?_⟩
      obtain ⟨x, hx, rfl⟩ := List.mem_map.mp ha
      rw [List.mem_singleton.mp hb]
      exact ht x hx
    · rcases List.mem_append.mp hx with hx | hx
      · exact h.ne x hx
      · rw [List.mem_singleton.mp hx]
        show own ++ [th] ≠ []
        simp
theorem fedE_len {most : Option Int} {e : Bool} {t : Option Int} {th : α} {own : List α} {told rest : List (RowT α)} : (fedE most e t th own told rest).2.length ≤ rest.length + 1 ∧ (fedE most e t th own told rest).1.length ≤ told.length + 1 := by
  unfold fedE
  split
  · exact ⟨Nat.le_succ _, by show (told ++ [(t, own ++ [th])]).length ≤ _; rw [List.length_append]; exact Nat.le_refl _⟩
  · exact ⟨by show (rest ++ [(t, own ++ [th])]).length ≤ _; rw [List.length_append]; exact Nat.le_refl _, Nat.le_succ _⟩
theorem held_tail {op : List (RowT α)} (h : Held op) : Held op.tail := by
  cases op with
  | nil => exact h
  | cons x op =>
    have nd := h.nd
    rw [List.map_cons, List.nodup_cons] at nd
    exact ⟨nd.2, fun y hy => h.ne y (List.mem_cons_of_mem _ hy)⟩
theorem Cut.own_ne {t : Option Int} {op rest : List (RowT α)} {own : List α} {T : Option Int} {alone b e : Bool} {most : Option Int} {th : α} (c : Cut t op own rest) (h : Held op) : Held (fedS T alone most b e t th own rest).2 := by
  have hr := c.held h
  have hm := c.mem.2.2
  unfold fedS
  split
  · exact fedE_held hr hm
  · dsimp only
    split
    · exact hr
    · split
      · exact fedE_held (held_tail hr) fun x hx => hm x (List.mem_of_mem_tail hx)
      · exact fedE_held hr hm
theorem Cut.fed_len {t : Option Int} {op rest : List (RowT α)} {own : List α} {T : Option Int} {alone b e : Bool} {most : Option Int} {th : α} (c : Cut t op own rest) :
    (fedS T alone most b e t th own rest).2.length ≤ op.length + 1 ∧ (fedS T alone most b e t th own rest).1.length ≤ 3 ∧
      ∀ k, T = some k → 0 < k → (op.length : Int) ≤ k → ((fedS T alone most b e t th own rest).2.length : Int) ≤ k := by
  obtain ⟨l1, l2⟩ := c.len
  unfold fedS
  split
  · rename_i ho
    have := l2 ho.1
    obtain ⟨e1, e2⟩ := fedE_len (most := most) (e := e) (t := t) (th := th) (own := own) (told := []) (rest := rest)
    have e2 : _ ≤ 0 + 1 := e2
    exact ⟨by omega, by omega, fun k _ _ hk => by omega⟩
  · dsimp only
    have tl : (if own = [] then ([] : List (RowT α)) else [(t, own)]).length ≤ 1 := by
      split
      · exact Nat.zero_le _
      · exact Nat.le_refl _
    split
    · exact ⟨by show rest.length ≤ _; omega, by show List.length (if own = [] then ([] : List (RowT α)) else [(t, own)]) ≤ 3; omega, fun k _ _ hk => by show (rest.length : Int) ≤ k; omega⟩
    · split
      · rename_i hf
        obtain ⟨e1, e2⟩ := fedE_len (most := most) (e := e) (t := t) (th := th) (own := []) (told := (if own = [] then [] else [(t, own)]) ++ rest.take 1) (rest := rest.tail)
        rw [List.length_append, List.length_take] at e2
        rw [List.length_tail] at e1
        have : 1 ≤ rest.length := by
          unfold fullB at hf
          cases T with
          | none => cases hf
          | some k =>
            have := Bool.and_eq_true_iff.mp hf
            have h1 := of_decide_eq_true this.1
            have h2 := of_decide_eq_true this.2
            omega
        refine ⟨by omega, by omega, fun k _ _ hk => by omega⟩
      · rename_i hf
        obtain ⟨e1, e2⟩ := fedE_len (most := most) (e := e) (t := t) (th := th) (own := []) (told := if own = [] then [] else [(t, own)]) (rest := rest)
        refine ⟨by omega, by omega, fun k hT h0 hk => ?_⟩
        subst hT
        have : ¬ k ≤ (rest.length : Int) := fun h => hf (by
          show (decide (0 < k) && decide (k ≤ (rest.length : Int))) = true
          rw [decide_eq_true h0, decide_eq_true h]; rfl)
        omega
/-- all that is told and held has been there -/
theorem fedE_all {Q : α → Prop} {most : Option Int} {e : Bool} {t : Option Int} {th : α} {own : List α} {told rest : List (RowT α)} {n : Nat} (h1 : ∀ x ∈ told, x.2.length ≤ n ∧ ∀ y ∈ x.2, Q y) (h2 : ∀ x ∈ rest, x.2.length ≤ n ∧ ∀ y ∈ x.2, Q y) (h3 : Q th) (h4 : own.length ≤ n ∧ ∀ y ∈ own, Q y) :
    (∀ x ∈ (fedE most e t th own told rest).1, x.2.length ≤ n + 1 ∧ ∀ y ∈ x.2, Q y) ∧ ∀ x ∈ (fedE most e t th own told rest).2, x.2.length ≤ n + 1 ∧ ∀ y ∈ x.2, Q y := by
  have h5 : (own ++ [th]).length ≤ n + 1 ∧ ∀ y ∈ own ++ [th], Q y := by
    refine ⟨by rw [List.length_append]; exact Nat.succ_le_succ h4.1, fun y hy => ?_⟩
    rcases List.mem_append.mp hy with hy | hy
    · exact h4.2 y hy
    · rw [List.mem_singleton.mp hy]; exact h3
  have up : ∀ {l : List (RowT α)}, (∀ x ∈ l, x.2.length ≤ n ∧ ∀ y ∈ x.2, Q y) → ∀ x ∈ l, x.2.length ≤ n + 1 ∧ ∀ y ∈ x.2, Q y := fun h x hx => ⟨Nat.le_succ_of_le (h x hx).1, (h x hx).2⟩
  have pl : ∀ {l : List (RowT α)}, (∀ x ∈ l, x.2.length ≤ n ∧ ∀ y ∈ x.2, Q y) → ∀ x ∈ l ++ [(t, own ++ [th])], x.2.length ≤ n + 1 ∧ ∀ y ∈ x.2, Q y := fun h x hx => by
    rcases List.mem_append.mp hx with hx | hx
    · exact up h x hx
    · rw [List.mem_singleton.mp hx]; exact h5
  unfold fedE
  split
  · exact ⟨pl h1, up h2⟩
  · exact ⟨up h1, pl h2⟩
theorem Cut.all {Q : α → Prop} {t : Option Int} {op rest : List (RowT α)} {own : List α} {T : Option Int} {alone b e : Bool} {most : Option Int} {th : α} {n : Nat} (c : Cut t op own rest) (h : ∀ x ∈ op, x.2.length ≤ n ∧ ∀ y ∈ x.2, Q y) (h3 : Q th) :
    (∀ x ∈ (fedS T alone most b e t th own rest).1, x.2.length ≤ n + 1 ∧ ∀ y ∈ x.2, Q y) ∧ ∀ x ∈ (fedS T alone most b e t th own rest).2, x.2.length ≤ n + 1 ∧ ∀ y ∈ x.2, Q y := by
  have hr : ∀ x ∈ rest, x.2.length ≤ n ∧ ∀ y ∈ x.2, Q y := fun x hx => h x (c.mem.1 x hx)
  have ho : own.length ≤ n ∧ ∀ y ∈ own, Q y := by
    by_cases e : own = []
    · rw [e]; exact ⟨Nat.zero_le _, fun y hy => nomatch hy⟩
    · exact h _ (c.mem.2.1 e)
  have no : ([] : List α).length ≤ n ∧ ∀ y ∈ ([] : List α), Q y := ⟨Nat.zero_le _, fun y hy => nomatch hy⟩
  have nt : ∀ x ∈ ([] : List (RowT α)), x.2.length ≤ n ∧ ∀ y ∈ x.2, Q y := fun x hx => nomatch hx
  have ht : ∀ x ∈ (if own = [] then ([] : List (RowT α)) else [(t, own)]), x.2.length ≤ n ∧ ∀ y ∈ x.2, Q y := by
    split
    · exact nt
    · intro x hx; rw [List.mem_singleton.mp hx]; exact ho
  unfold fedS
  split
  · exact fedE_all nt hr h3 ho
  · dsimp only
    split
    · exact ⟨fun x hx => ⟨Nat.le_succ_of_le (ht x hx).1, (ht x hx).2⟩, fun x hx => ⟨Nat.le_succ_of_le (hr x hx).1, (hr x hx).2⟩⟩
    · split
      · refine fedE_all (fun x hx => ?_) (fun x hx => hr x (List.mem_of_mem_tail hx)) h3 no
        rcases List.mem_append.mp hx with hx | hx
        · exact ht x hx
        · exact hr x (List.mem_of_mem_take hx)
      · exact fedE_all ht hr h3 no
/-- the law's own rows; the row taken out -/
theorem Cut.own_rows {t : Option Int} {op rest : List (RowT α)} {own : List α} (c : Cut t op own rest) : (op.filter fun x => decide (x.1 = t)) = if own = [] then [] else [(t, own)] := by
  have none_ : ∀ {l : List (RowT α)}, (∀ x ∈ l, x.1 ≠ t) → (l.filter fun x => decide (x.1 = t)) = [] := fun h => List.filter_eq_nil_iff.mpr fun x hx => by
    rw [decide_eq_false (h x hx)]; decide
  cases c with
  | no h => rw [if_pos rfl]; exact none_ h
  | yes h h2 hy => rw [if_neg hy, List.filter_append, List.filter_cons_of_pos (by show decide (t = t) = true; exact decide_eq_true rfl), none_ h, none_ h2]; rfl
theorem remL_at [DecidableEq α] {A B : List α} {a : α} (h : ∀ x ∈ A, x ≠ a) : remL (A ++ a :: B) a = some (A ++ B) := by
  have e : (A ++ a :: B).findIdx? (fun b => decide (b = a)) = some A.length := by
    induction A with
    | nil => rw [List.nil_append, List.findIdx?_cons, decide_eq_true rfl]; rfl
    | cons x A ih => rw [List.cons_append, List.findIdx?_cons, decide_eq_false (h x List.mem_cons_self), ih fun y hy => h y (List.mem_cons_of_mem _ hy)]; rfl
  unfold remL
  rw [e]
  show some ((A ++ a :: B).eraseIdx A.length) = _
  rw [List.eraseIdx_append_of_length_le (Nat.le_refl _), Nat.sub_self]; rfl
theorem Cut.rem [DecidableEq α] {t : Option Int} {op rest : List (RowT α)} {own : List α} (c : Cut t op own rest) (h : own ≠ []) : remL op (t, own) = some rest := by
  cases c with
  | no _ => exact absurd rfl h
  | yes h1 h2 hy => exact remL_at fun x hx e => h1 x hx (by rw [e])
end

/-! ### the program's gluer and the law's own, fed with one line -/
theorem sO1 (o : Option Int) : shp (dO dI) o = true := shpD (i := sO) (by cases o <;> trivial)
abbrev RowS : Type := RowT Str
def RowsOk (op : List RowS) : Prop := ∀ x ∈ op, ∀ y ∈ x.2, okS y
theorem row_ok {x : RowS} (h : ∀ y ∈ x.2, okS y) : shp (d2 (dO dI) (dL dS)) x = true := shpD (i := s2 (i := sO) (j := sL (i := sS))) ⟨by cases x.1 <;> trivial, h⟩
theorem rows_ok {op : List RowS} (h : RowsOk op) : shp (dL (d2 (dO dI) (dL dS))) op = true := shpD (i := sL (i := s2 (i := sO) (j := sL (i := sS)))) fun x hx => ⟨by cases x.1 <;> trivial, h x hx⟩
theorem comp_filter {α : Type} {p : α → Bool} {f : α → Unit → Option (Option α × Unit)} : ∀ {xs : List α}, (∀ x ∈ xs, f x () = some (if p x = true then some x else none, ())) → comp f xs () = some (xs.filter p, ())
  | [], _ => rfl
  | x :: xs, h => by
    show Option.bind (f x ()) _ = _
    rw [h x List.mem_cons_self, bs, comp_filter fun y hy => h y (List.mem_cons_of_mem _ hy), bs]
    cases hp : p x with
    | true => rw [List.filter_cons_of_pos hp]; rfl
    | false => rw [List.filter_cons_of_neg (by rw [hp]; decide)]; rfl
theorem loopC_first {α S ρ : Type} {f : α → S → Option (Ctl S ρ)} {s : S} {x : α} {v : ρ} {post : List α} (hx : f x s = some (.rt v)) : ∀ {pre : List α}, (∀ y ∈ pre, f y s = some (.nx s)) → loopC f (pre ++ x :: post) s = some (.rt v)
  | [], _ => by
    show Option.bind (f x s) _ = _
    rw [hx, bs]
  | y :: pre, h => by
    show Option.bind (f y s) _ = _
    rw [h y List.mem_cons_self, bs]
    exact loopC_first hx fun z hz => h z (List.mem_cons_of_mem _ hz)
theorem loopC_nxS {α S ρ : Type} {f : α → S → Option (Ctl S ρ)} {s : S} : ∀ {xs : List α}, (∀ x ∈ xs, f x s = some (.nx s)) → loopC f xs s = some (.nx s)
  | [], _ => rfl
  | x :: xs, h => by
    show Option.bind (f x s) _ = _
    rw [h x List.mem_cons_self, bs]
    exact loopC_nxS fun y hy => h y (List.mem_cons_of_mem _ hy)
theorem rng_part {n a : Nat} (h : a < n) : ∃ S, rng 0 (n : Int) = rng 0 (a : Int) ++ (a : Int) :: S := by
  refine ⟨rng ((a + 1 : Nat) : Int) (n : Int), ?_⟩
  unfold rng
  have e1 : ((n : Int) - 0).toNat = a + ((n - (a + 1)) + 1) := by omega
  have e2 : ((a : Int) - 0).toNat = a := by omega
  have e3 : ((n : Int) - ((a + 1 : Nat) : Int)).toNat = n - (a + 1) := by omega
  rw [e1, e2, e3, List.range_add, List.map_append, List.range_succ_eq_map, List.map_cons, List.map_cons, List.map_map, List.map_map]
  congr 1
  congr 1
  · show (0 : Int) + ((a + 0 : Nat) : Int) = (a : Int)
    omega
  · refine List.map_congr_left fun i _ => ?_
    show (0 : Int) + ((a + (i + 1) : Nat) : Int) = ((a + 1 : Nat) : Int) + (i : Int)
    omega
theorem mem_rng0 {n : Nat} {x : Int} (h : x ∈ rng 0 (n : Int)) : 0 ≤ x ∧ x < (n : Int) := by
  unfold rng at h
  obtain ⟨i, hi, rfl⟩ := List.mem_map.mp h
  have := List.mem_range.mp hi
  omega
theorem taken_cut {t : Option Int} {op rest : List RowS} {own : List Str} (c : Cut t op own rest) (hl : op.length ≤ 500) {G : List Pat × List Pat × List (Str × Th)} {g : Int} : m_Gluer_taken (G, op, g) t = some (own, (rest, g)) := by
  unfold m_Gluer_taken
  have ga : rgOk 0 ((op.length : Nat) : Int) = true := rgOk_ok (by omega) (by omega) (by omega) (by omega)
  show gd (rgOk 0 (op.length : Int)) (Option.bind (loopC (m_Gluer_taken_b1 t) (rng 0 (op.length : Int)) (op, g)) _) = _
  rw [gd_true ga]
  have step : ∀ (i : Nat) (x : RowS), op[i]? = some x → x.1 ≠ t → m_Gluer_taken_b1 t (i : Int) (op, g) = some (.nx (op, g)) := fun i x hi hx => by
    unfold m_Gluer_taken_b1
    show Option.bind (atI op (i : Int)) _ = _
    rw [atI_nat hi (by omega), bs, gd_true (sO1 _), gd_true (sO1 _), decide_eq_false hx, if_neg (by decide)]
  cases c with
  | no h =>
    rw [loopC_nxS fun x hx => by
      obtain ⟨x0, x1⟩ := mem_rng0 hx
      have hi : x.toNat < op.length := by omega
      have := step x.toNat _ (List.getElem?_eq_getElem hi) (h _ (List.getElem_mem hi))
      rwa [show ((x.toNat : Nat) : Int) = x by omega] at this, bs]
    rfl
  | @yes A B y h h2 hy =>
    have la : A.length < (A ++ (t, own) :: B).length := by rw [List.length_append, List.length_cons]; omega
    obtain ⟨S, eS⟩ := rng_part la
    have at_ : (A ++ (t, own) :: B)[A.length]? = some (t, own) := by rw [List.getElem?_append_right (Nat.le_refl _), Nat.sub_self]; rfl
    have hit : m_Gluer_taken_b1 t (A.length : Int) (A ++ (t, own) :: B, g) = some (.rt (own, (A ++ B, g))) := by
      unfold m_Gluer_taken_b1
      show Option.bind (atI (A ++ (t, own) :: B) (A.length : Int)) _ = _
      rw [atI_nat at_ (by omega), bs, gd_true (sO1 _), gd_true (sO1 _), decide_eq_true rfl, if_pos rfl]
      obtain ⟨a, ea, e1, _⟩ := popAt_in (xs := A ++ (t, own) :: B) (i := (A.length : Int)) ⟨by omega, by omega⟩ (by omega)
      rw [show ((A.length : Nat) : Int).toNat = A.length by omega] at ea e1
      rw [at_] at e1
      cases e1
      show Option.bind (popAt (A ++ (t, own) :: B) (A.length : Int)) _ = _
      rw [ea, bs, List.eraseIdx_append_of_length_le (Nat.le_refl _), Nat.sub_self]; rfl
    rw [eS, loopC_first hit fun x hx => by
      obtain ⟨x0, x1⟩ := mem_rng0 hx
      have hi : x.toNat < A.length := by omega
      have := step x.toNat A[x.toNat] (by rw [List.getElem?_append_left hi, List.getElem?_eq_getElem hi]) (h _ (List.getElem_mem hi))
      rwa [show ((x.toNat : Nat) : Int) = x by omega] at this, bs]
    rfl
theorem pop0 {α : Type} {xs : List α} (h : 1 ≤ xs.length) (hl : xs.length ≤ 500) : ∃ a, popAt xs 0 = some (a, xs.tail) ∧ xs.take 1 = [a] := by
  cases xs with
  | nil => exact absurd h (Nat.not_succ_le_zero 0)
  | cons x xs =>
    obtain ⟨a, ea, e1, _⟩ := popAt_in (xs := x :: xs) (i := 0) ⟨Int.le_refl _, by rw [List.length_cons]; omega⟩ (by omega)
    refine ⟨a, ea, ?_⟩
    have e1 : some x = some a := e1
    cases e1; rfl
theorem full_len {T : Option Int} {n : Nat} (h : fullB T n = true) : 1 ≤ n := by
  unfold fullB at h
  cases T with
  | none => cases h
  | some k =>
    have := Bool.and_eq_true_iff.mp h
    have h1 := of_decide_eq_true this.1
    have h2 := of_decide_eq_true this.2
    omega
section
variable {r : LRule}
theorem fullP {n : Nat} (h : tagOk r.2.2.2.2.1) : (if trI r.2.2.2.2.1 = true then ((some r.2.2.2.2.1).bind fun t148 => t148.bind fun t156 => some (decide (t156 ≤ (n : Int)))) else some false) = some (fullB r.2.2.2.2.1 n) := by
  cases e : r.2.2.2.2.1 with
  | none => rfl
  | some k =>
    obtain ⟨k1, k2⟩ := h k e
    by_cases hk : k = 0
    · rw [hk]; rfl
    · have : trI (some k) = true := by
        show (!decide (k = 0)) = true
        rw [decide_eq_false hk]; rfl
      rw [this, if_pos rfl, bs, bs]
      show _ = some (decide (0 < k) && decide (k ≤ (n : Int)))
      rw [decide_eq_true (show 0 < k by omega)]; rfl
theorem put_cut (h : LRuleOk r) {z : Str} (l : LineS z) {tag t : Option Int} (ht : (if (r.2.2.2.2.1).isNone = true then none else tag) = t) {op rest : List RowS} {own : List Str} (c : Cut t op own rest) (hl : op.length ≤ 500) (ho : own.length ≤ 1000) {g : Int} :
    m_Gluer_put (ruleOf r, op, g) z tag z = some ((fedS r.2.2.2.2.1 r.2.2.2.1 r.2.2.1 (begB r z) (finB r z) t z own rest).1,
      ((fedS r.2.2.2.2.1 r.2.2.2.1 r.2.2.1 (begB r z) (finB r z) t z own rest).2, g + ((fedS r.2.2.2.2.1 r.2.2.2.1 r.2.2.1 (begB r z) (finB r z) t z own rest).1.length : Int))) := by
  have rl : rest.length ≤ op.length := c.len.1
  have e0 : (if (r.2.2.2.2.1).isNone = true then some (none : Option Int) else some tag) = some t := by
    rw [← ht]
    split <;> rfl
  have fin : ∀ (told rest : List RowS) (own : List Str), told.length ≤ 3 → rest.length ≤ 500 → own.length ≤ 1000 →
      (gd (fits2 own [z]) <| (((m_Rule_ends_on (ruleOf r) z).bind fun t305 => (if t305 = true then some true else ((m_Rule_most (ruleOf r)).bind fun t330 => gd (shp (dO dI) t330) <| gd (shp (dO dI) (some ((own ++ [z]).length : Int))) <| some (decide (t330 = some ((own ++ [z]).length : Int))))).bind fun t324 => if t324 = true then (gd (fits told) <| some (told ++ [(t, own ++ [z])], (rest, g))) else (gd (fits rest) <| some (told, (rest ++ [(t, own ++ [z])], g))))).bind fun (t299 : List RowS × (List RowS × Int)) => some (t299.1, (t299.2.1, t299.2.2 + (t299.1.length : Int)))) =
        some ((fedE r.2.2.1 (finB r z) t z own told rest).1, ((fedE r.2.2.1 (finB r z) t z own told rest).2, g + ((fedE r.2.2.1 (finB r z) t z own told rest).1.length : Int))) := fun told rest own h1 h2 h3 => by
    have ec : (if finB r z = true then some true else ((some r.2.2.1).bind fun t330 => gd (shp (dO dI) t330) <| gd (shp (dO dI) (some ((own ++ [z]).length : Int))) <| some (decide (t330 = some ((own ++ [z]).length : Int))))) = some (finB r z || decide (some ((own ++ [z]).length : Int) = r.2.2.1)) := by
      rw [bs, gd_true (sO1 _), gd_true (sO1 _), show decide (r.2.2.1 = some ((own ++ [z]).length : Int)) = decide (some ((own ++ [z]).length : Int) = r.2.2.1) from decide_eq_decide.mpr ⟨Eq.symm, Eq.symm⟩]
      cases finB r z <;> rfl
    rw [gd_true (fits2_ok (by show _ + 1 ≤ _; omega)), ends_on_eq h l, bs, most_eq, ec, bs]
    unfold fedE
    cases hc : (finB r z || decide (some ((own ++ [z]).length : Int) = r.2.2.1)) with
    | true => rw [if_pos rfl, if_pos rfl, gd_true (fits_ok (by omega)), bs]
    | false => rw [if_neg (by decide), if_neg (by decide), gd_true (fits_ok (by omega)), bs]
  unfold m_Gluer_put
  dsimp only
  rw [tags_eq, bs, e0, bs, taken_cut c hl, bs, begins_on_eq h l, bs]
  dsimp only
  have open_ : ∀ told : List RowS, told.length ≤ 1 → (begB r z = false → told = []) → ((if (!begB r z) = true then ((m_Rule_alone (ruleOf r)).bind fun t108 => some (!t108)) else some false).bind fun t102 => if t102 = true then some (told, (rest, g)) else ((some r.2.2.2.2.1).bind fun t123 => (if trI t123 = true then ((some r.2.2.2.2.1).bind fun t148 => t148.bind fun t156 => some (decide (t156 ≤ (rest.length : Int)))) else some false).bind fun t142 => if t142 = true then ((popAt rest 0).bind fun t166 => gd (fits told) <| gd (fits2 ([] : List Str) [z]) <| (((m_Rule_ends_on (ruleOf r) z).bind fun t305 => (if t305 = true then some true else ((m_Rule_most (ruleOf r)).bind fun t330 => gd (shp (dO dI) t330) <| gd (shp (dO dI) (some ((([] : List Str) ++ [z]).length : Int))) <| some (decide (t330 = some ((([] : List Str) ++ [z]).length : Int))))).bind fun t324 => if t324 = true then (gd (fits (told ++ [t166.1])) <| some ((told ++ [t166.1]) ++ [(t, [] ++ [z])], (t166.2, g))) else (gd (fits t166.2) <| some (told ++ [t166.1], (t166.2 ++ [(t, [] ++ [z])], g))))).bind fun (t299 : List RowS × (List RowS × Int)) => some (t299.1, (t299.2.1, t299.2.2 + (t299.1.length : Int)))) else (gd (fits2 ([] : List Str) [z]) <| (((m_Rule_ends_on (ruleOf r) z).bind fun t305 => (if t305 = true then some true else ((m_Rule_most (ruleOf r)).bind fun t330 => gd (shp (dO dI) t330) <| gd (shp (dO dI) (some ((([] : List Str) ++ [z]).length : Int))) <| some (decide (t330 = some ((([] : List Str) ++ [z]).length : Int))))).bind fun t324 => if t324 = true then (gd (fits told) <| some (told ++ [(t, [] ++ [z])], (rest, g))) else (gd (fits rest) <| some (told, (rest ++ [(t, [] ++ [z])], g))))).bind fun (t299 : List RowS × (List RowS × Int)) => some (t299.1, (t299.2.1, t299.2.2 + (t299.1.length : Int)))))) =
      some ((if (begB r z || r.2.2.2.1) = false then (told, rest) else if fullB r.2.2.2.2.1 rest.length = true then fedE r.2.2.1 (finB r z) t z [] (told ++ rest.take 1) rest.tail else fedE r.2.2.1 (finB r z) t z [] told rest).1, ((if (begB r z || r.2.2.2.1) = false then (told, rest) else if fullB r.2.2.2.2.1 rest.length = true then fedE r.2.2.1 (finB r z) t z [] (told ++ rest.take 1) rest.tail else fedE r.2.2.1 (finB r z) t z [] told rest).2, g + ((if (begB r z || r.2.2.2.1) = false then (told, rest) else if fullB r.2.2.2.2.1 rest.length = true then fedE r.2.2.1 (finB r z) t z [] (told ++ rest.take 1) rest.tail else fedE r.2.2.1 (finB r z) t z [] told rest).1.length : Int))) := fun told hto hb => by
    have e2 : (if (!begB r z) = true then ((m_Rule_alone (ruleOf r)).bind fun t108 => some (!t108)) else some false) = some (!(begB r z || r.2.2.2.1)) := by
      rw [alone_eq, bs]
      cases begB r z <;> rfl
    rw [e2, bs]
    cases hc : (begB r z || r.2.2.2.1) with
    | false =>
      have : told = [] := hb (Bool.or_eq_false_iff.mp hc).1
      rw [this]
      show some (([] : List RowS), (rest, g)) = some ([], (rest, g + 0))
      rw [Int.add_zero]
    | true =>
      rw [if_neg (by decide : ¬ (true = false)), if_neg (by decide : ¬ ((!true) = true)), bs, fullP h.tag, bs]
      cases hf : fullB r.2.2.2.2.1 rest.length with
      | true =>
        obtain ⟨a, ea, e1⟩ := pop0 (full_len hf) (by omega)
        rw [if_pos rfl, if_pos rfl, ea, bs, gd_true (fits_ok (by omega)), e1]
        exact fin (told ++ [a]) rest.tail [] (by rw [List.length_append]; show _ + 1 ≤ _; omega) (by rw [List.length_tail]; omega) (by decide)
      | false =>
        rw [if_neg (by decide), if_neg (by decide)]
        exact fin told rest [] (by omega) (by omega) (by decide)
  have fs : ¬ (own ≠ [] ∧ begB r z = false) → fedS r.2.2.2.2.1 r.2.2.2.1 r.2.2.1 (begB r z) (finB r z) t z own rest = (if (begB r z || r.2.2.2.1) = false then ((if own = [] then [] else [(t, own)]), rest) else if fullB r.2.2.2.2.1 rest.length = true then fedE r.2.2.1 (finB r z) t z [] ((if own = [] then [] else [(t, own)]) ++ rest.take 1) rest.tail else fedE r.2.2.1 (finB r z) t z [] (if own = [] then [] else [(t, own)]) rest) := fun hn => by
    unfold fedS
    rw [if_neg hn]
  by_cases he : own = []
  · subst he
    rw [fs (fun z => z.1 rfl), if_pos rfl, show ((!([] : List Str).isEmpty) && begB r z) = false from rfl, if_neg (by decide), bs]
    exact open_ [] (by decide) (fun _ => rfl)
  · have em : (!own.isEmpty) = true := by cases own with | nil => exact absurd rfl he | cons _ _ => rfl
    rw [em]
    cases hb : begB r z with
    | true =>
      rw [hb] at fs open_
      rw [fs (fun z => by cases z.2), if_neg he, show (true && true) = true from rfl, if_pos rfl, gd_true (fits_ok (by decide)), bs]
      exact open_ [(t, own)] (Nat.le_refl _) (fun h => by cases h)
    | false =>
      have f2 : fedS r.2.2.2.2.1 r.2.2.2.1 r.2.2.1 false (finB r z) t z own rest = fedE r.2.2.1 (finB r z) t z own [] rest := by
        unfold fedS
        rw [if_pos ⟨he, rfl⟩]
      rw [f2, show (true && false) = false from rfl, if_neg (by decide), bs]
      dsimp only
      rw [em, if_neg (by decide)]
      exact fin [] rest own (by decide) (by omega) ho
end

/-! ### the law's own order, fed with one line -/
theorem lineS_ok {z : Str} (l : LineS z) : LineOk z := ⟨l.g, l.h1, by have := l.hl; omega⟩
theorem fed_filter {t : Option Int} {op : List RowS} : comp (m_law_fed_b1 t) op () = some (op.filter fun x => decide (x.1 = t), ()) := comp_filter fun x _ => by
  unfold m_law_fed_b1
  rw [gd_true (sO1 _), gd_true (sO1 _)]
  cases decide (x.1 = t) <;> rfl
section
variable {r : LRule}
theorem fed_cut (h : LRuleOk r) {z : Str} (l : LineS z) {tag t : Option Int} (ht : (if (r.2.2.2.2.1).isNone = true then none else tag) = t) {op rest : List RowS} {own : List Str} (c : Cut t op own rest) (hl : op.length ≤ 500) (ho : own.length ≤ 1000) (ok : RowsOk op) :
    m_law_fed r op z tag z = some (fedS r.2.2.2.2.1 r.2.2.2.1 r.2.2.1 (begB r z) (finB r z) t z own rest) := by
  have rl : rest.length ≤ op.length := c.len.1
  have lr := h.len
  have okr : RowsOk rest := fun x hx => ok x (c.mem.1 x hx)
  have mb : m_law_marked r.1 z = some (begB r z) := marked_eq h.b (by omega) (lineS_ok l)
  have me : m_law_marked r.2.1 z = some (finB r z) := marked_eq h.e (by omega) (lineS_ok l)
  have e0 : (if (r.2.2.2.2.1).isNone = true then some (none : Option Int) else some tag) = some t := by
    rw [← ht]
    split <;> rfl
  have nil_ok : shp (dL (d2 (dO dI) (dL dS))) ([] : List RowS) = true := rows_ok fun x hx => nomatch hx
  have fin : ∀ (told rest : List RowS) (own : List Str), told.length ≤ 3 → rest.length ≤ 500 →
      ((((m_law_marked r.2.1 z).bind fun t258 => (if t258 = true then some true else (gd (shp (dO dI) (some ((((t, own ++ [z]) : RowS).2).length : Int))) <| gd (shp (dO dI) r.2.2.1) <| some (decide (some ((((t, own ++ [z]) : RowS).2).length : Int) = r.2.2.1)))).bind fun t273 => if t273 = true then (gd (fits told) <| some (rest, told ++ [(t, own ++ [z])])) else (gd (fits rest) <| some (rest ++ [(t, own ++ [z])], told)))).bind fun (t251 : List RowS × List RowS) => some (t251.2, t251.1)) =
        some (fedE r.2.2.1 (finB r z) t z own told rest) := fun told rest own h1 h2 => by
    have ec : (if finB r z = true then some true else (gd (shp (dO dI) (some ((((t, own ++ [z]) : RowS).2).length : Int))) <| gd (shp (dO dI) r.2.2.1) <| some (decide (some ((((t, own ++ [z]) : RowS).2).length : Int) = r.2.2.1)))) = some (finB r z || decide (some ((own ++ [z]).length : Int) = r.2.2.1)) := by
      rw [gd_true (sO1 _), gd_true (sO1 _)]
      cases finB r z <;> rfl
    rw [me, bs, ec, bs]
    unfold fedE
    cases hc : (finB r z || decide (some ((own ++ [z]).length : Int) = r.2.2.1)) with
    | true => rw [if_pos rfl, if_pos rfl, gd_true (fits_ok (by omega)), bs]
    | false => rw [if_neg (by decide), if_neg (by decide), gd_true (fits_ok (by omega)), bs]
  have full : ∀ n : Nat, (if (!(r.2.2.2.2.1).isNone) = true then ((r.2.2.2.2.1).bind fun t198 => some (decide (0 < t198) && decide (t198 ≤ (n : Int)))) else some false) = some (fullB r.2.2.2.2.1 n) := fun n => by
    cases r.2.2.2.2.1 with
    | none => rfl
    | some k => rfl
  have open_ : ∀ told : List RowS, told.length ≤ 1 → (begB r z = false → told = []) → ((if (!begB r z) = true then some (!r.2.2.2.1) else some false).bind fun t158 => if t158 = true then some (told, rest) else ((((if (!(r.2.2.2.2.1).isNone) = true then ((r.2.2.2.2.1).bind fun t198 => some (decide (0 < t198) && decide (t198 ≤ (rest.length : Int)))) else some false).bind fun t190 => if t190 = true then ((popAt rest 0).bind fun t208 => gd (fits told) <| some (t208.2, told ++ [t208.1])) else some (rest, told))).bind fun (t178 : List RowS × List RowS) => (((m_law_marked r.2.1 z).bind fun t258 => (if t258 = true then some true else (gd (shp (dO dI) (some ((((t, [] ++ [z]) : RowS).2).length : Int))) <| gd (shp (dO dI) r.2.2.1) <| some (decide (some ((((t, [] ++ [z]) : RowS).2).length : Int) = r.2.2.1)))).bind fun t273 => if t273 = true then (gd (fits t178.2) <| some (t178.1, t178.2 ++ [(t, [] ++ [z])])) else (gd (fits t178.1) <| some (t178.1 ++ [(t, [] ++ [z])], t178.2)))).bind fun (t251 : List RowS × List RowS) => some (t251.2, t251.1))) =
      some (if (begB r z || r.2.2.2.1) = false then (told, rest) else if fullB r.2.2.2.2.1 rest.length = true then fedE r.2.2.1 (finB r z) t z [] (told ++ rest.take 1) rest.tail else fedE r.2.2.1 (finB r z) t z [] told rest) := fun told hto hb => by
    have e2 : (if (!begB r z) = true then some (!r.2.2.2.1) else some false) = some (!(begB r z || r.2.2.2.1)) := by cases begB r z <;> rfl
    rw [e2, bs]
    cases hc : (begB r z || r.2.2.2.1) with
    | false => rfl
    | true =>
      rw [if_neg (by decide : ¬ (true = false)), if_neg (by decide : ¬ ((!true) = true)), full, bs]
      cases hf : fullB r.2.2.2.2.1 rest.length with
      | true =>
        obtain ⟨a, ea, e1⟩ := pop0 (full_len hf) (by omega)
        rw [if_pos rfl, if_pos rfl, ea, bs, gd_true (fits_ok (by omega)), bs, e1]
        exact fin (told ++ [a]) rest.tail [] (by rw [List.length_append]; show _ + 1 ≤ _; omega) (by rw [List.length_tail]; omega)
      | false =>
        rw [if_neg (by decide), if_neg (by decide), bs]
        exact fin told rest [] (by omega) (by omega)
  have fs : ¬ (own ≠ [] ∧ begB r z = false) → fedS r.2.2.2.2.1 r.2.2.2.1 r.2.2.1 (begB r z) (finB r z) t z own rest = (if (begB r z || r.2.2.2.1) = false then ((if own = [] then [] else [(t, own)]), rest) else if fullB r.2.2.2.2.1 rest.length = true then fedE r.2.2.1 (finB r z) t z [] ((if own = [] then [] else [(t, own)]) ++ rest.take 1) rest.tail else fedE r.2.2.1 (finB r z) t z [] (if own = [] then [] else [(t, own)]) rest) := fun hn => by
    unfold fedS
    rw [if_neg hn]
  unfold m_law_fed
  dsimp only
  rw [e0, bs, mb, bs, gd_true (fitsE_ok (by omega)), fed_filter, bs, c.own_rows]
  dsimp only
  by_cases he : own = []
  · subst he
    have er : rest = op := by
      cases c with
      | no _ => rfl
      | yes _ _ hy => exact absurd rfl hy
    subst er
    rw [fs (fun z => z.1 rfl), if_pos rfl, gd_true nil_ok, gd_true nil_ok, decide_eq_true rfl, show ((!true) && begB r z) = false from rfl, if_neg (by decide), bs]
    dsimp only
    rw [gd_true nil_ok, gd_true nil_ok, decide_eq_true rfl, if_pos rfl]
    exact open_ [] (Nat.zero_le _) (fun _ => rfl)
  · have oko : ∀ y ∈ own, okS y := ok _ (c.mem.2.1 he)
    have row : shp (d2 (dO dI) (dL dS)) ((t, own) : RowS) = true := row_ok oko
    have rows : shp (dL (d2 (dO dI) (dL dS))) ([(t, own)] : List RowS) = true := rows_ok fun x hx => by rw [List.mem_singleton.mp hx]; exact oko
    have at0 : atI ([(t, own)] : List RowS) 0 = some (t, own) := rfl
    have ne : decide (([(t, own)] : List RowS) = []) = false := decide_eq_false (by simp)
    rw [if_neg he, gd_true rows, gd_true nil_ok, ne]
    cases hb : begB r z with
    | true =>
      rw [hb] at fs open_
      rw [fs (fun z => by cases z.2), if_neg he, show ((!false) && true) = true from rfl, if_pos rfl, at0, bs, gd_true (fits_ok (by decide)), bs, gd_true row, gd_true (rows_ok ok), c.rem he, bs, bs]
      dsimp only
      rw [gd_true nil_ok, decide_eq_true rfl, if_pos rfl, gd_true nil_ok]
      exact open_ [(t, own)] (Nat.le_refl _) (fun h => by cases h)
    | false =>
      have f2 : fedS r.2.2.2.2.1 r.2.2.2.1 r.2.2.1 false (finB r z) t z own rest = fedE r.2.2.1 (finB r z) t z own [] rest := by
        unfold fedS
        rw [if_pos ⟨he, rfl⟩]
      rw [f2, show ((!false) && false) = false from rfl, if_neg (by decide), bs]
      dsimp only
      rw [gd_true rows, gd_true nil_ok, ne, if_neg (by decide), at0, bs, gd_true row, gd_true (rows_ok ok), c.rem he, bs, bs, gd_true (fits2_ok (by show own.length + 1 ≤ _; omega))]
      exact fin [] rest own (by decide) (by omega)
end

/-! ### k29: records put together by tag -/
structure Fed29 (r : LRule) (n : Nat) (op : List RowS) : Prop where
  held : Held op
  len : op.length ≤ n
  all : ∀ x ∈ op, x.2.length ≤ n ∧ ∀ y ∈ x.2, okS y
  cap : ∀ k, r.2.2.2.2.1 = some k → 0 < k → (op.length : Int) ≤ k
theorem waiting_eq {G : List Pat × List Pat × List (Str × Th)} {op : List RowS} {g : Int} (hl : op.length ≤ 1000) : m_Gluer_waiting (G, op, g) = some op := by
  unfold m_Gluer_waiting
  show gd (fitsE op) (Option.bind (comp m_Gluer_waiting_b1 op ()) _) = _
  rw [gd_true (fitsE_ok (by omega)), comp_map (fun x => x) fun x _ => rfl, bs, List.map_id']
section
variable {r : LRule}
theorem marks29 {ts : List Tree} (ht : ∀ t ∈ ts, TreeOk t) (hl : ts.length ≤ 6) : m_law_marks ts = some (ts.map patOf) := by
  unfold m_law_marks
  rw [gd_true (fitsE_ok (by omega)), comp_map patOf fun t h => by unfold m_law_marks_b1; rw [built_eq (ht t h), bs], bs]
theorem ruled29 (h : LRuleOk r) : m_law_ruled r = some (ruleOf r) := by
  have len := h.len
  unfold m_law_ruled
  rw [marks29 h.b (by omega), bs, marks29 h.e (by omega), bs, rule_eq (by simp only [List.length_map]; exact len) h.cap h.tag]
  rfl
theorem step29 (h : LRuleOk r) {k : Int} (hk : r.2.2.2.2.1 = some k) {X : List RowS × Int} {n : Nat} (hn : n ≤ 100) {op : List RowS} {g : Int} (f : Fed29 r n op) {x : Int × Str} (l : LineS x.2) :
    ∃ op' g', Fed29 r (n + 1) op' ∧ m_law_right_b1 r (ruleOf r, X) x (op, (op, g), g) = some (.nx (op', (op', g'), g')) := by
  obtain ⟨tag, z⟩ := x
  have l : LineS z := l
  have ht : (if (r.2.2.2.2.1).isNone = true then none else some tag) = some tag := by rw [hk]; rfl
  obtain ⟨own, rest, c⟩ := f.held.cut (some tag)
  have ok : RowsOk op := fun x hx => (f.all x hx).2
  have ol : own.length ≤ 1000 := by
    by_cases e : own = []
    · rw [e]; exact Nat.zero_le _
    · have : own.length ≤ n := (f.all _ (c.mem.2.1 e)).1
      omega
  have fl := f.len
  have e1 := fed_cut h l ht c (by omega) ol ok
  have e2 := put_cut h l ht c (by omega) ol (g := g)
  have hd := c.own_ne (T := r.2.2.2.2.1) (alone := r.2.2.2.1) (most := r.2.2.1) (b := begB r z) (e := finB r z) (th := z) f.held
  have ln := c.fed_len (T := r.2.2.2.2.1) (alone := r.2.2.2.1) (most := r.2.2.1) (b := begB r z) (e := finB r z) (th := z)
  have al := c.all (Q := okS) (T := r.2.2.2.2.1) (alone := r.2.2.2.1) (most := r.2.2.1) (b := begB r z) (e := finB r z) (th := z) f.all (gs_ok l.g)
  revert e1 e2 hd ln al
  generalize fedS r.2.2.2.2.1 r.2.2.2.1 r.2.2.1 (begB r z) (finB r z) (some tag) z own rest = S
  intro e1 e2 hd ln al
  have f' : Fed29 r (n + 1) S.2 := ⟨hd, by omega, al.2, fun k hk h0 => ln.2.2 k hk h0 (f.cap k hk h0)⟩
  refine ⟨S.2, g + (S.1.length : Int), f', ?_⟩
  have ok1 : RowsOk S.1 := fun x hx => (al.1 x hx).2
  have ok2 : RowsOk S.2 := fun x hx => (al.2 x hx).2
  have ec : m_Gluer___call__ (ruleOf r, op, g) z (some tag) = some (S.1, (S.2, g + (S.1.length : Int))) := by
    unfold m_Gluer___call__
    dsimp only
    rw [e2, bs]
  have fl' := f'.len
  have ew : ∀ g : Int, m_Gluer_waiting (ruleOf r, S.2, g) = some S.2 := fun g => waiting_eq (by omega)
  unfold m_law_right_b1
  dsimp only
  rw [e1, bs, ec, bs, gd_true (rows_ok ok1), gd_true (rows_ok ok1), decide_eq_true rfl, if_neg (by decide)]
  dsimp only
  rw [ew, bs, gd_true (rows_ok ok2), gd_true (rows_ok ok2), decide_eq_true rfl, if_neg (by decide)]
  have em : m_Gluer_many (ruleOf r, S.2, g + (S.1.length : Int)) = some (g + (S.1.length : Int)) := rfl
  rw [em, bs, decide_eq_true rfl, bs, bs, if_neg (by decide), hk, bs]
  have ef : (if decide (0 < k) = true then ((some S.2).bind fun t286 => (some k).bind fun t309 => some (decide (t309 < (t286.length : Int)))) else some false) = some false := by
    by_cases h0 : 0 < k
    · rw [if_pos (decide_eq_true h0), bs, bs, decide_eq_false (by have := f'.cap k hk h0; omega)]
    · rw [if_neg (by rw [decide_eq_false h0]; decide)]
  rw [ef, bs, if_neg (by decide)]
theorem loop29 (h : LRuleOk r) {k : Int} (hk : r.2.2.2.2.1 = some k) {X : List RowS × Int} : ∀ {rows : List (Int × Str)} {n : Nat} {op : List RowS} {g : Int}, n + rows.length ≤ 100 → Fed29 r n op → (∀ x ∈ rows, LineS x.2) →
    ∃ op' g', Fed29 r 100 op' ∧ loopC (m_law_right_b1 r (ruleOf r, X)) rows (op, (op, g), g) = some (.nx (op', (op', g'), g'))
  | [], n, op, g, hn, f, _ => ⟨op, g, ⟨f.held, by have := f.len; have hn : n + 0 ≤ 100 := hn; omega, fun x hx => ⟨by have := (f.all x hx).1; have hn : n + 0 ≤ 100 := hn; omega, (f.all x hx).2⟩, f.cap⟩, rfl⟩
  | x :: rows, n, op, g, hn, f, hl => by
    rw [List.length_cons] at hn
    obtain ⟨op1, g1, f1, e1⟩ := step29 h hk (X := X) (by omega) (g := g) f (hl x List.mem_cons_self)
    obtain ⟨op2, g2, f2, e2⟩ := loop29 h hk (X := X) (rows := rows) (n := n + 1) (g := g1) (by omega) f1 fun y hy => hl y (List.mem_cons_of_mem _ hy)
    refine ⟨op2, g2, f2, ?_⟩
    show Option.bind (m_law_right_b1 r (ruleOf r, X) x (op, (op, g), g)) _ = _
    rw [e1, bs]; exact e2
theorem right29 (h : LRuleOk r) {k : Int} (hk : r.2.2.2.2.1 = some k) {rows : List (Int × Str)} (hn : rows.length ≤ 100) (hl : ∀ x ∈ rows, LineS x.2) : m_law_right r rows = some true := by
  have f0 : Fed29 r 0 [] := ⟨(⟨List.nodup_nil, fun x hx => nomatch hx⟩ : Held []), Nat.le_refl _, (fun x hx => nomatch hx), fun k _ h0 => by show ((0 : Nat) : Int) ≤ k; omega⟩
  obtain ⟨op, g, f, e⟩ := loop29 h hk (X := ([], 0)) (rows := rows) (g := 0) (by omega) f0 hl
  have ok : RowsOk op := fun x hx => (f.all x hx).2
  have nil_ok : shp (dL (d2 (dO dI) (dL dS))) ([] : List RowS) = true := rows_ok fun x hx => nomatch hx
  unfold m_law_right m_Gluer___init__
  rw [ruled29 h, bs, with_marks_eq h, bs, bs]
  show Option.bind (loopC (m_law_right_b1 r (ruleOf r, ([], 0))) rows (([] : List RowS), (([] : List RowS), (0 : Int)), (0 : Int))) _ = _
  rw [e, bs]
  have ef : m_Gluer_finish (ruleOf r, op, g) = some (op, ([], g + (op.length : Int))) := rfl
  unfold aft
  dsimp only
  rw [ef, bs]
  dsimp only
  rw [gd_true (rows_ok ok), gd_true (rows_ok ok)]
  have ew : m_Gluer_waiting (ruleOf r, [], g + (op.length : Int)) = some [] := waiting_eq (by decide)
  show Option.bind (if decide (op = op) = true then (m_Gluer_waiting (ruleOf r, [], g + (op.length : Int))).bind _ else _) _ = _
  rw [decide_eq_true rfl, if_pos rfl, ew, bs, gd_true nil_ok, gd_true nil_ok, bs]
  rfl
end
theorem rule29 {p : Int × Int} : Ok (m_law_rule p) fun r => LRuleOk r.1 := by
  unfold m_law_rule
  refine Ok.bd (take_ok (by decide) (by decide)) fun t1 h1 => Ok.gd (rgOk_ok (by omega) (by omega) (by omega) (by omega)) (Ok.gd (fitsE_ok (by rw [show t1.1 = ((t1.1.toNat : Nat) : Int) by omega, show (0 : Int) = ((0 : Nat) : Int) from rfl, rng_len]; omega)) ?_)
  refine Ok.bd (comp_allT (P := TreeOk) fun x _ s => ?_) fun t13 h13 => Ok.bd (take_ok (by decide) (by decide)) fun t66 h66 => Ok.gd (rgOk_ok (by omega) (by omega) (by omega) (by omega)) (Ok.gd (fitsE_ok (by rw [show t66.1 = ((t66.1.toNat : Nat) : Int) by omega, show (0 : Int) = ((0 : Nat) : Int) from rfl, rng_len]; omega)) ?_)
  · unfold m_law_rule_b1
    exact Ok.bd tree_ok fun t ht => Ok.sm ⟨t.1, rfl, ht⟩
  refine Ok.bd (comp_allT (P := TreeOk) fun x _ s => ?_) fun t78 h78 => ?_
  · unfold m_law_rule_b2
    exact Ok.bd tree_ok fun t ht => Ok.sm ⟨t.1, rfl, ht⟩
  have l13 : t13.1.length ≤ 3 := by
    rw [h13.1, show t1.1 = ((t1.1.toNat : Nat) : Int) by omega, show (0 : Int) = ((0 : Nat) : Int) from rfl, rng_len]; omega
  have l78 : t78.1.length ≤ 2 := by
    rw [h78.1, show t66.1 = ((t66.1.toNat : Nat) : Int) by omega, show (0 : Int) = ((0 : Nat) : Int) from rfl, rng_len]; omega
  refine Ok.bd (take_ok (by decide) (by decide)) fun t131 h131 => Ok.bd (take_ok (by decide) (by decide)) fun t141 h141 => Ok.bd (take_ok (by decide) (by decide)) fun t160 h160 => ?_
  refine Ok.bd (P := capOk) ?_ fun cap hcap => Ok.bd (take_ok (by decide) (by decide)) fun t174 h174 => Ok.bd (take_ok (by decide) (by decide)) fun t184 h184 => Ok.bd (take_ok (by decide) (by decide)) fun t203 h203 => Ok.bd (P := tagOk) ?_ fun tg htg =>
    Ok.bd (take_ok (by decide) (by decide)) fun t217 _ => Ok.bd (take_ok (by decide) (by decide)) fun t227 _ => Ok.sm ⟨h13.2, h78.2, by show t13.1.length + t78.1.length ≤ 6; omega, hcap, htg⟩
  · have i3 : t160.1 = 0 ∨ t160.1 = 1 ∨ t160.1 = 2 := by omega
    rcases i3 with e | e | e <;> rw [e]
    · exact Ok.of (a := none) rfl fun n hn => by cases hn
    · exact Ok.of (a := some (1 + t131.1)) rfl fun n hn => by cases hn; omega
    · exact Ok.of (a := some (1 + t141.1)) rfl fun n hn => by cases hn; omega
  · have i3 : t203.1 = 0 ∨ t203.1 = 1 ∨ t203.1 = 2 := by omega
    rcases i3 with e | e | e <;> rw [e]
    · exact Ok.of (a := none) rfl fun n hn => by cases hn
    · exact Ok.of (a := some t174.1) rfl fun n hn => by cases hn; omega
    · exact Ok.of (a := some t184.1) rfl fun n hn => by cases hn; omega
theorem row29 {p : Int × Int} {r : LRule} (h : LRuleOk r) : Ok (m_law_row p r) fun z => LineS z.1 := by
  have hl := h.len
  have ap : (r.1 ++ r.2.1).length = r.1.length + r.2.1.length := List.length_append
  unfold m_law_row
  refine Ok.gd (fits2_ok (by omega)) (Ok.bd (take_ok (by omega) (by omega)) fun t12 h12 => Ok.ite (fun e => ?_) fun _ => ?_)
  · have e := of_decide_eq_true e
    have hi : t12.1.toNat < (r.1 ++ r.2.1).length := by omega
    have ea : atI (r.1 ++ r.2.1) t12.1 = some (r.1 ++ r.2.1)[t12.1.toNat] := by rw [atI_nn h12.1 e, List.getElem?_eq_getElem hi]
    have ht : TreeOk (r.1 ++ r.2.1)[t12.1.toNat] := (List.mem_append.mp (List.getElem_mem hi)).elim (h.b _) (h.e _)
    exact Ok.bde ea (Ok.bd (written_ok ht) fun t27 ⟨g1, g2, g3⟩ => Ok.sm ⟨g1, g2, by show t27.1.length ≤ 500; omega⟩)
  · exact Ok.bd parts_fine fun t37 h37 => Ok.bd (line2_ok h37) fun t47 ⟨g1, g2, g3⟩ => Ok.sm ⟨g1, g2, by show t47.1.length ≤ 500; omega⟩
theorem math (ns : List Int) (hl : ns.length ≤ 63) : m_law ns = some true := by
  refine Ok.eq ?_
  unfold m_law
  refine Ok.bd (pool_ok (by decide) (by decide)) fun t1 _ => Ok.bd rule29 fun t12 h12 => ?_
  refine Ok.bd (P := fun s => LRuleOk s.2 ∧ ∃ k, s.2.2.2.2.2.1 = some k) ?_ fun s1 ⟨h1, k1, hk1⟩ => Ok.bd (P := fun s => LRuleOk s.2 ∧ ∃ k, s.2.2.2.2.2.1 = some k) ?_ fun s2 ⟨h2, k2, hk2⟩ => ?_
  · refine Ok.ite (fun _ => Ok.bd (take_ok (by decide) (by decide)) fun t44 h44 => Ok.sm ?_) fun e => Ok.sm ?_
    · exact ⟨⟨h12.b, h12.e, h12.len, h12.cap, fun n hn => by cases hn; omega⟩, t44.1, rfl⟩
    · refine ⟨⟨h12.b, h12.e, h12.len, h12.cap, h12.tag⟩, ?_⟩
      revert e
      show (t12.1.2.2.2.2.1).isNone = false → ∃ k, t12.1.2.2.2.2.1 = some k
      cases t12.1.2.2.2.2.1 with
      | none => exact fun e => by cases e
      | some k => exact fun _ => ⟨k, rfl⟩
  · refine Ok.bd (take_ok (by decide) (by decide)) fun t86 _ => Ok.ite (fun _ => Ok.sm ?_) fun _ => Ok.sm ?_
    · exact ⟨⟨h1.b, h1.e, h1.len, (fun n hn => by cases hn), h1.tag⟩, k1, hk1⟩
    · exact ⟨⟨h1.b, h1.e, h1.len, h1.cap, h1.tag⟩, k1, hk1⟩
  have h2' : LRuleOk (s2.2.1, s2.2.2.1, s2.2.2.2.1, s2.2.2.2.2.1, s2.2.2.2.2.2.1, s2.2.2.2.2.2.2) := h2
  refine Ok.bd (take_ok (by decide) (by decide)) fun t140 h140 => Ok.bd (P := fun m => m = 4 ∨ m = 12) ?_ fun m hm => ?_
  · have i3 : t140.1 = 0 ∨ t140.1 = 1 ∨ t140.1 = 2 := by omega
    rcases i3 with e | e | e <;> rw [e]
    · exact Ok.of (a := 4) rfl (.inl rfl)
    · exact Ok.of (a := 4) rfl (.inl rfl)
    · exact Ok.of (a := 12) rfl (.inr rfl)
  have eN : ∃ N : Nat, N ≤ 62 ∧ maxI 3 (minI 62 ((ns.length : Int) - 1)) = (N : Int) := by
    unfold maxI minI
    refine ⟨(if 3 < (if ((ns.length : Int) - 1) < 62 then ((ns.length : Int) - 1) else 62) then (if ((ns.length : Int) - 1) < 62 then ((ns.length : Int) - 1) else 62) else 3).toNat, ?_, ?_⟩ <;> (repeat' split) <;> omega
  obtain ⟨N, hN, eN⟩ := eN
  rw [eN]
  refine Ok.gd (rgOk_ok (by omega) (by omega) (by omega) (by omega)) ?_
  refine Ok.bd (P := fun rows : List (Int × Str) => rows.length = N ∧ ∀ x ∈ rows, LineS x.2) ?_ fun rows ⟨hr1, hr2⟩ => ?_
  · refine (Ok.loop (fun pre rows => rows.length = pre.length ∧ ∀ x ∈ rows, LineS x.2) ⟨rfl, fun x hx => absurd hx List.not_mem_nil⟩ fun pre x post s hx ⟨q1, q2⟩ => ?_).mono fun rows hr => ⟨by rw [hr.1, show (0 : Int) = ((0 : Nat) : Int) from rfl, rng_len]; omega, hr.2⟩
    have hxm : x ∈ rng 0 (N : Int) := by rw [hx]; simp
    obtain ⟨x0, x1⟩ := mem_rng0 hxm
    have lp : pre.length ≤ 62 := by
      have := congrArg List.length hx
      rw [show (0 : Int) = ((0 : Nat) : Int) from rfl, rng_len, List.length_append, List.length_cons] at this
      omega
    have hm1 : 0 < m ∧ m < 16000000 := by omega
    unfold m_law_b1
    refine Ok.bd (pool_ok (by omega) (by omega)) fun t184 _ => Ok.bd (take_ok hm1.1 hm1.2) fun t197 h197 => ?_
    refine Ok.gd (sO1 _) (Ok.gd (sO1 _) (Ok.gd (mulOk_l (by omega) (by omega)) (Ok.gd (by decide) (Ok.gd (mulOk_l (by omega) (by omega)) (Ok.gd (sO1 _) (Ok.gd (sO1 _) (Ok.gd (mulOk_l ?_ ?_) ?_)))))))
    · have : (10 : Int) ^ (12 : Int).toNat = 1000000000000 := by decide
      rw [this]; omega
    · have : (10 : Int) ^ (12 : Int).toNat = 1000000000000 := by decide
      rw [this]; omega
    · refine Ok.bd (row29 h2') fun t221 h221 => Ok.gd (fits_ok (by omega)) (Ok.sm ⟨by rw [List.length_append, List.length_append, q1]; rfl, fun y hy => ?_⟩)
      rcases List.mem_append.mp hy with hy | hy
      · exact q2 y hy
      · rw [List.mem_singleton.mp hy]; exact h221
  exact Ok.bde (right29 h2' hk2 (by omega) hr2) (Ok.sm rfl)

theorem txHead {P : Program} {K : PySem.W.Frag} {h : Heap} {mg : Str → Option Value} (X : K.In h) (G : h.Ns mainGlobals mg) (c : He.SaysD fa fn K) (t : tabs P K = true) (e_Rule_tags : fw_Rule_tags K) (e_Rule_most : fw_Rule_most K) (e_Rule_alone : fw_Rule_alone K) (e_Gluer_many : fw_Gluer_many K) : Tx K mg := {
  F_law_pool := fd_of c 0
  g_law_pool := He.glo_ok X G (c.fact 0)
  F_law_take := fd_of c 1
  g_law_take := He.glo_ok X G (c.fact 1)
  F_law_all_signs := fd_of c 2
  g_law_all_signs := He.glo_ok X G (c.fact 2)
  F_law_text := fd_of c 3
  g_law_text := He.glo_ok X G (c.fact 3)
  F_law_parts := fd_of c 4
  g_law_parts := He.glo_ok X G (c.fact 4)
  F_law_tree := fd_of c 5
  g_law_tree := He.glo_ok X G (c.fact 5)
  F_law_rule := fd_of c 6
  g_law_rule := He.glo_ok X G (c.fact 6)
  F_Gluer_taken := fd_of c 7
  F_Form___contains__ := fd_of c 8
  F_Both___contains__ := fd_of c 9
  F_Either___contains__ := fd_of c 10
  F_Form_forms := fd_of c 11
  F_Either_forms := fd_of c 12
  F_Both_forms := fd_of c 13
  F_Form_holds := fd_of c 14
  F_Either_holds := fd_of c 15
  F_Both_holds := fd_of c 16
  F_is_line := fd_of c 17
  g_is_line := He.glo_ok X G (c.fact 7)
  F_cells_of := fd_of c 18
  g_cells_of := He.glo_ok X G (c.fact 8)
  F_closed := fd_of c 19
  g_closed := He.glo_ok X G (c.fact 9)
  F_started := fd_of c 20
  g_started := He.glo_ok X G (c.fact 10)
  F_Form_parts := fd_of c 21
  F_takes := fd_of c 22
  g_takes := He.glo_ok X G (c.fact 11)
  F_moved := fd_of c 23
  g_moved := He.glo_ok X G (c.fact 12)
  F_is_done := fd_of c 24
  g_is_done := He.glo_ok X G (c.fact 13)
  F_Rule_begins_on := fd_of c 25
  F_Rule_ends_on := fd_of c 26
  F_Gluer_put := fd_of c 27
  F_Gluer___call__ := fd_of c 28
  F_is_allowed_rules := fd_of c 29
  g_is_allowed_rules := He.glo_ok X G (c.fact 14)
  F_check_settings := fd_of c 30
  g_check_settings := He.glo_ok X G (c.fact 15)
  F_Rule___init__ := fd_of c 31
  F_Rule_with_marks := fd_of c 32
  F_Gluer___init__ := fd_of c 33
  F_Either___init__ := fd_of c 34
  F_Pattern___or__ := fd_of c 35
  F_Both___init__ := fd_of c 36
  F_Pattern___and__ := fd_of c 37
  F_is_allowed := fd_of c 38
  g_is_allowed := He.glo_ok X G (c.fact 16)
  F_Form___init__ := fd_of c 39
  F_law_form := fd_of c 40
  g_law_form := He.glo_ok X G (c.fact 17)
  F_law_built := fd_of c 41
  g_law_built := He.glo_ok X G (c.fact 18)
  F_law_marks := fd_of c 42
  g_law_marks := He.glo_ok X G (c.fact 19)
  F_law_ruled := fd_of c 43
  g_law_ruled := He.glo_ok X G (c.fact 20)
  F_law_ends := fd_of c 44
  g_law_ends := He.glo_ok X G (c.fact 21)
  F_law_fits := fd_of c 45
  g_law_fits := He.glo_ok X G (c.fact 22)
  F_law_bears := fd_of c 46
  g_law_bears := He.glo_ok X G (c.fact 23)
  F_law_marked := fd_of c 47
  g_law_marked := He.glo_ok X G (c.fact 24)
  F_law_fed := fd_of c 48
  g_law_fed := He.glo_ok X G (c.fact 25)
  F_Gluer_finish := fd_of c 49
  F_Gluer_waiting := fd_of c 50
  F_law_right := fd_of c 51
  g_law_right := He.glo_ok X G (c.fact 26)
  F_law_line := fd_of c 52
  g_law_line := He.glo_ok X G (c.fact 27)
  F_law_written := fd_of c 53
  g_law_written := He.glo_ok X G (c.fact 28)
  F_law_row := fd_of c 54
  g_law_row := He.glo_ok X G (c.fact 29)
  F_law := fd_of c 55
  g_law := He.glo_ok X G (c.fact 30)
  c_Form := He.cls_ok (c.fact 32)
  gc_Form := He.glo_ok X G (c.fact 31)
  na_Form_pieces := He.noat_ok (c.fact 33)
  me_Form___contains__ := He.meth_ok (c.fact 34)
  me_Form_forms := He.meth_ok (c.fact 35)
  me_Form_holds := He.meth_ok (c.fact 36)
  me_Form_parts := He.meth_ok (c.fact 37)
  mk_Form := He.mkr_ok (c.fact 38)
  c_Both := He.cls_ok (c.fact 40)
  gc_Both := He.glo_ok X G (c.fact 39)
  na_Both_left := He.noat_ok (c.fact 41)
  na_Both_right := He.noat_ok (c.fact 42)
  me_Both___contains__ := He.meth_ok (c.fact 43)
  me_Both_forms := He.meth_ok (c.fact 44)
  me_Both_holds := He.meth_ok (c.fact 45)
  mk_Both := He.mkr_ok (c.fact 46)
  c_Either := He.cls_ok (c.fact 48)
  gc_Either := He.glo_ok X G (c.fact 47)
  na_Either_left := He.noat_ok (c.fact 49)
  na_Either_right := He.noat_ok (c.fact 50)
  me_Either___contains__ := He.meth_ok (c.fact 51)
  me_Either_forms := He.meth_ok (c.fact 52)
  me_Either_holds := He.meth_ok (c.fact 53)
  mk_Either := He.mkr_ok (c.fact 54)
  c_Pattern := He.cls_ok (c.fact 56)
  gc_Pattern := He.glo_ok X G (c.fact 55)
  me_Pattern___or__ := He.meth_ok (c.fact 57)
  me_Pattern___and__ := He.meth_ok (c.fact 58)
  c_Rule := He.cls_ok (c.fact 60)
  gc_Rule := He.glo_ok X G (c.fact 59)
  na_Rule_openers := He.noat_ok (c.fact 61)
  na_Rule_closers := He.noat_ok (c.fact 62)
  na_Rule_settings := He.noat_ok (c.fact 63)
  me_Rule_begins_on := He.meth_ok (c.fact 64)
  me_Rule_ends_on := He.meth_ok (c.fact 65)
  mk_Rule := He.mkr_ok (c.fact 66)
  me_Rule_with_marks := He.meth_ok (c.fact 67)
  c_Gluer := He.cls_ok (c.fact 69)
  gc_Gluer := He.glo_ok X G (c.fact 68)
  na_Gluer_rule := He.noat_ok (c.fact 70)
  na_Gluer_opened := He.noat_ok (c.fact 71)
  na_Gluer_given := He.noat_ok (c.fact 72)
  me_Gluer_taken := He.meth_ok (c.fact 73)
  me_Gluer_put := He.meth_ok (c.fact 74)
  me_Gluer___call__ := He.meth_ok (c.fact 75)
  mk_Gluer := He.mkr_ok (c.fact 76)
  me_Gluer_finish := He.meth_ok (c.fact 77)
  me_Gluer_waiting := He.meth_ok (c.fact 78)
  pf := patB_ok (He.ba t).1 (He.cls_ok (c.fact 32)) (He.cls_ok (c.fact 40)) (He.cls_ok (c.fact 48))
  pr_Rule_tags := pr_ok (He.ba (He.ba (He.ba (He.ba t).2).2).2).1 e_Rule_tags
  pr_Rule_most := pr_ok (He.ba (He.ba (He.ba (He.ba (He.ba t).2).2).2).2).1 e_Rule_most
  pr_Rule_alone := pr_ok (He.ba (He.ba (He.ba (He.ba (He.ba (He.ba t).2).2).2).2).2).1 e_Rule_alone
  pr_Gluer_many := pr_ok (He.ba (He.ba (He.ba (He.ba (He.ba (He.ba (He.ba t).2).2).2).2).2).2).1 e_Gluer_many
  k_ANY_CELL := He.str_ok X G (c.fact 90)
  k_DIGITS_CELL := He.str_ok X G (c.fact 91)
  k_DIGIT_SIGNS := He.str_ok X G (c.fact 92)
  g_FIELDS := He.glo_ok X G (c.fact 93)
  q_FIELDS := fun F => ⟨_, _, rfl, He.tupB_ok (He.ba (He.ba t).2).1 F, (.cons rfl (.cons rfl (.cons rfl (.cons rfl .nil))))⟩
  g_FREE_CELLS := He.glo_ok X G (c.fact 94)
  q_FREE_CELLS := fun F => ⟨_, _, rfl, He.tupB_ok (He.ba (He.ba (He.ba t).2).2).1 F, (.cons rfl (.cons rfl (.cons rfl .nil)))⟩
  k_LETTER_SIGNS := He.str_ok X G (c.fact 95)
  k_MOST_FORMS := He.int_ok X G (c.fact 96)
  k_MOST_PARTS := He.int_ok X G (c.fact 97)
  k_MOST_SIGNS := He.int_ok X G (c.fact 98)
  k_SIGNS := He.str_ok X G (c.fact 99)
  k_WORD_CELL := He.str_ok X G (c.fact 100)
  n_any := He.free_ok X G (c.fact 79)
  n_bool := He.free_ok X G (c.fact 80)
  n_int := He.free_ok X G (c.fact 81)
  n_isinstance := He.free_ok X G (c.fact 82)
  n_len := He.free_ok X G (c.fact 83)
  n_list := He.free_ok X G (c.fact 84)
  n_max := He.free_ok X G (c.fact 85)
  n_min := He.free_ok X G (c.fact 86)
  n_range := He.free_ok X G (c.fact 87)
  n_str := He.free_ok X G (c.fact 88)
  n_tuple := He.free_ok X G (c.fact 89)
}

theorem law_fn {P : Program} {w : World} {K : PySem.W.Frag} {h : Heap} {mg : Str → Option Value} {f : Addr} (X : K.In h) (G : h.Ns mainGlobals mg) (hfa : mg ("law" : Str) = some (.ref f)) (c : He.SaysD fa fn K) (t : tabs P K = true) (e_Rule_tags : fw_Rule_tags K) (e_Rule_most : fw_Rule_most K) (e_Rule_alone : fw_Rule_alone K) (e_Gluer_many : fw_Gluer_many K) :
    ∃ (K' : PySem.W.Frag) (fd : FuncData) (sp : L2.Sp), K'.In h ∧ (∀ (s : Shared) (v : Value), BindsTo s fd ⟨[v], []⟩ [("_law_script", v)]) ∧ (∀ (H : Hp) (a : Addr) (ns : List Int), ns.length ≤ 63 → Only H → SqL K' H a (ns.map V.int) → sp [.ref a] H (fun v _ => v = .bl true) fun _ _ _ => False) ∧ ∀ base : Heap, K'.In base → base.Ns mainGlobals mg → FnOk P w K' mg base CX0 12 f fd ["_law_script"] sp := by
  have T : Tx K mg := txHead X G c t e_Rule_tags e_Rule_most e_Rule_alone e_Gluer_many
  have e := hfa.symm.trans T.g_law
  cases e
  have b := FunD.bindsA (ps := ["_law_script"]) T.F_law fun _ _ _ _ _ _ us hl => match us, hl with | [_], _ => rfl
  refine ⟨K, _, sp_law K, X, fun s v => b s [v] rfl, fun H a ns hl _ hS => ?_, fun base _ _ => ok_law T⟩
  exact ⟨H, .ref a, ns, true, rfl, Same.refl H, ⟨a, rfl, hS⟩, math ns hl, fun v F' H' _ hv => hv⟩
theorem hk_says {K : PySem.W.Frag} (c : obK K = (true, [rhs_Rule_tags, rhs_Rule_most, rhs_Rule_alone, rhs_Gluer_many], He.valD fn)) : He.SaysD fa fn K ∧ tabs RR.prog K = true ∧ fw_Rule_tags K ∧ fw_Rule_most K ∧ fw_Rule_alone K ∧ fw_Gluer_many K := by
  have h1 : (tabs RR.prog K && decide ((fwL_Rule_tags K).map (fun z => z.2.2.2.2.2.2.1) = some (clo_Rule_tags K)) && decide ((fwL_Rule_most K).map (fun z => z.2.2.2.2.2.2.1) = some (clo_Rule_most K)) && decide ((fwL_Rule_alone K).map (fun z => z.2.2.2.2.2.2.1) = some (clo_Rule_alone K)) && decide ((fwL_Gluer_many K).map (fun z => z.2.2.2.2.2.2.1) = some (clo_Gluer_many K))) = true := congrArg Prod.fst c
  have h2 : ([lhs_Rule_tags K, lhs_Rule_most K, lhs_Rule_alone K, lhs_Gluer_many K] : List FnU) = [rhs_Rule_tags, rhs_Rule_most, rhs_Rule_alone, rhs_Gluer_many] := congrArg (fun z : Bool × List FnU × He.AlD => z.2.1) c
  have h3 : He.SaysD fa fn K := congrArg (fun z : Bool × List FnU × He.AlD => z.2.2) c
  obtain ⟨h1, b3⟩ := He.ba h1
  obtain ⟨h1, b2⟩ := He.ba h1
  obtain ⟨h1, b1⟩ := He.ba h1
  obtain ⟨h1, b0⟩ := He.ba h1
  obtain ⟨a0, h2⟩ := List.cons.inj h2
  obtain ⟨a1, h2⟩ := List.cons.inj h2
  obtain ⟨a2, h2⟩ := List.cons.inj h2
  obtain ⟨a3, h2⟩ := List.cons.inj h2
  exact ⟨h3, h1, fw_mk a0 b0, fw_mk a1 b1, fw_mk a2 b2, fw_mk a3 b3⟩
end Law
open PySem PySem.W PySem.Calls PyProof.Rows
theorem PySem.Challenge.cw_gluedlines_k29_records_put_together_by_t_holds : PySem.Challenge.rw_gluedlines_k29_records_put_together_by_t.Holds := by
  w_on; o_law
  refine HandSHeadRun.head_any (r := OpenLaw.row PySem.Challenge.rw_gluedlines_k29_records_put_together_by_t) (q := view (OpenLaw.row PySem.Challenge.rw_gluedlines_k29_records_put_together_by_t).prog [61]) (H := Law.hk) (ob := Law.ob) (M := 60000) (loose := Law.loose) (d := HandSHeadRun.topDef (OpenLaw.row PySem.Challenge.rw_gluedlines_k29_records_put_together_by_t).prog 61) (kwd := []) Law.ob_eq
    (by kernel_rfl) (fun s => by kernel_rfl) Law.run (by kernel_rfl) (by kernel_rfl) (by kernel_rfl) (by rfl) (by first | assumption | decide +kernel) (by decide +kernel) ⟨rfl, rfl, rfl, rfl, rfl, by decide +kernel⟩ ?hw ?hc
  case hw => w_witness2
  case hc =>
    refine L2.walk_ofE (l := PySem.Challenge.rw_gluedlines_k29_records_put_together_by_t) (n := 63) (k := 12) (x := "_law_script") (CX := L2.CX0) rfl (by decide) (by kernel_rfl) ⟨rfl, by decide, by decide⟩ ?F (fun _ _ _ _ z => z)
    intro w mg fa h Y G hmg0
    obtain ⟨K, KX, c⟩ := Y
    have hmg : mg ("law" : PySem.Str) = some (.ref fa) := by
      have e : (HandSHeadRun.topDef (OpenLaw.row PySem.Challenge.rw_gluedlines_k29_records_put_together_by_t).prog 61).name = ("law" : PySem.Str) := by kernel_rfl
      rw [← e]
      exact hmg0
    obtain ⟨c, t, e0, e1, e2, e3⟩ := Law.hk_says c
    exact Law.law_fn KX G hmg c t e0 e1 e2 e3
#print axioms PySem.Challenge.cw_gluedlines_k29_records_put_together_by_t_holds
